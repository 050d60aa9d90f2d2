import PyProof.Rows.All
import Wide.All
import OpenK.AllK
import Wide.FinOn
import PyProof.ReprRoads
import HandS.ForMost
import HandS.ForExc
import HandS.IsInst
import HandS.StrMore
import HandS.RaiseMore
import HandS.Wide
import HandS.Defaults
import HandS.Codes
import HandS.Evl
import PyProof.Rows.RegStrFacts
import PyProof.Rows.ReprOcc
import HandS.ExcInit
import HandS.ExcField
import HandS.ExcIs
import HandS.ExcValue
import KE.KExcInit
import KE.KExcIs
import KE.KDictZip
import HandS.Iter
import HandS.Conv
import KE.KTryMore
import HandS.WordsExc
import HandS.Comp
import KE.GoesComp
import HandS.Lambda
import HandS.Nested
import HandS.EndTab
import HandS.Property
import HandS.Star
import HandS.More
import HandS.Small
import HandS.Style
import PyProof.DictUpdate
import KE.KParD
import KE.KOpsOwn
import PyProof.InstNe
import PyProof.FactsAll.tuple_iterator_1
import HandS.SetTxt0
import HandS.SetFor
import HandS.DictComp
import PyProof.TupleOfGen
import HandS.ClsMeth
import HandS.TupLe
import KE.IntTextLaws
import HandS.FStr
import HandS.Text
import HandS.DeepEq
import HandS.OwnEq
import HandS.FltList
import HandS.SetBool
import PyProof.SumAny
import PyProof.ListOps
import KE.KeyNested
import KE.KDictPairs
import KE.KDictCopyH
import HandS.ListItems
import HandS.NoneIn
import PySem.Challenge.RW_evenends_k03_vectors_made
set_option Elab.async false
set_option linter.all false
set_option maxRecDepth 100000
set_option maxHeartbeats 4000000
/-! Own layer: one-step readings, heaps that grow, repr of data, guards. -/
namespace EE
open PySem PySem.Spec PyProof.Rows L2

/-! ### heaps -/
/-- all but what stands at p is as it was -/
def But (p : Addr) (H H' : Hp) : Prop := ∀ b o, b ≠ p → H b = some o → H' b = some o
theorem But.refl (p : Addr) (H : Hp) : But p H H := fun _ _ _ h => h
theorem _root_.L2.Same.but {H H' : Hp} (p : Addr) (s : Same H H') : But p H H' := fun b o _ h => s b o h
theorem But.trans {p : Addr} {H H1 H2 : Hp} (a : But p H H1) (b : But p H1 H2) : But p H H2 := fun c o n h => b c o n (a c o n h)
theorem But.then {p : Addr} {H H1 H2 : Hp} (a : But p H H1) (b : Same H1 H2) : But p H H2 := fun c o n h => b c o (a c o n h)
theorem _root_.L2.Same.thenBut {p : Addr} {H H1 H2 : Hp} (a : Same H H1) (b : But p H1 H2) : But p H H2 := fun c o n h => b c o n (a c o h)
theorem same_new {H : Hp} {p : Addr} {o : HO} (h : H p = none) : Same H (upd H p o) := fun b x e => by
  rw [upd_ne (ne_of_none e h)]
  exact e
theorem but_upd {H : Hp} {p : Addr} {o : HO} : But p H (upd H p o) := fun b x n e => by
  rw [upd_ne n]
  exact e
theorem But.seq {K : PySem.W.Frag} {p a : Addr} {H H' : Hp} {xs : List V} (e : But p H H') (n : a ≠ p) (h : SqL K H a xs) : SqL K H' a xs := by
  rcases h with (h | ⟨o, h⟩) | h
  · exact .inl (.inl (e _ _ n h))
  · exact .inl (.inr ⟨o, e _ _ n h⟩)
  · exact .inr h

/-! ### one step of a reading -/
/-- a new list, a new tuple -/
def NewL (xs : List V) (H : Hp) (Q : VK) : Prop := xs.length ≤ sizeLine ∧ ∀ p, H p = none → Q (.ref p) (upd H p (.lst xs))
def NewT (xs : List V) (H : Hp) (Q : VK) : Prop := xs.length ≤ sizeLine ∧ ∀ p, H p = none → Q (.ref p) (upd H p (.tup xs))
theorem new_lst {xs : List V} {H : Hp} {Q : VK} (hl : xs.length ≤ sizeLine) (h : ∀ p H2, H p = none → Same H H2 → H2 p = some (.lst xs) → Q (.ref p) H2) : NewL xs H Q := ⟨hl, fun p hp => h p _ hp (same_new hp) upd_same⟩
theorem new_tup {xs : List V} {H : Hp} {Q : VK} (hl : xs.length ≤ sizeLine) (h : ∀ p H2, H p = none → Same H H2 → H2 p = some (.tup xs) → Q (.ref p) H2) : NewT xs H Q := ⟨hl, fun p hp => h p _ hp (same_new hp) upd_same⟩
section
variable {K : PySem.W.Frag} {σ : L2.St} {H : Hp} {Q : VK} {D : Ends} {ta tb tc te : TE} {t u : TS} {c d : TT} {r r' : R2} {v w : V}
theorem rd_var {i : Nat} (h : σ[i]? = some (some v)) (q : Q v H) : tVar i σ H Q := ⟨v, h, q⟩
theorem rd_c (q : Q v H) : tC v σ H Q := q
theorem rd_op (h : ta σ H fun x H1 => tb σ H1 fun y H2 => r x y H2 Q) : tOp r ta tb σ H Q := h
theorem rd_un {r : V → Hp → VK → Prop} (h : ta σ H fun x H1 => r x H1 Q) : tUn r ta σ H Q := h
theorem rd_chain (h : ta σ H fun x H1 => tb σ H1 fun y H2 => r x y H2 fun z H3 => ∃ k, z = .bl k ∧ (if k = true then tc σ H3 fun w' H4 => r' y w' H4 Q else Q (.bl false) H3)) : tChain r r' ta tb tc σ H Q := h
theorem rd_seq (h : t { D with nx := u D } σ H) : tSeq t u D σ H := h
theorem rd_asg {g : TG} (h : te σ H fun x H1 => g x σ H1 D.nx) : tAsg te g D σ H := h
theorem rd_name {i : Nat} {Q : L2.St → Hp → Prop} (h : Q (σ.set i (some v)) H) : gName i v σ H Q := h
theorem rd_ret (h : te σ H D.rt) : tRet te D σ H := h
theorem rd_retN (h : D.rt .non H) : tRetN D σ H := h
theorem rd_drop (h : te σ H fun _ H1 => D.nx σ H1) : tDrop te D σ H := h
theorem rd_next (h : D.nx σ H) : tNext D σ H := h
theorem rd_ifS (h : c σ H fun b H1 => if b = true then t D σ H1 else u D σ H1) : tIfS c t u D σ H := h
theorem rd_ifE (h : c σ H fun b H1 => if b = true then ta σ H1 Q else tb σ H1 Q) : tIf c ta tb σ H Q := h
theorem rd_test {Q : Bool → Hp → Prop} (h : te σ H fun x H' => ∃ k, x = .bl k ∧ Q k H') : tTest te σ H Q := h
theorem rd_B {Q : Bool → Hp → Prop} (h : te σ H fun x H' => ∃ k, x = .bl k ∧ Q k H') : tB te σ H Q := h
theorem rd_and {Q : Bool → Hp → Prop} (h : c σ H fun k H1 => if k = true then d σ H1 Q else Q false H1) : tAnd c d σ H Q := h
theorem rd_or {Q : Bool → Hp → Prop} (h : c σ H fun k H1 => if k = true then Q true H1 else d σ H1 Q) : tOr c d σ H Q := h
theorem rd_not {Q : Bool → Hp → Prop} (h : c σ H fun k H1 => Q (!k) H1) : tNot c σ H Q := h
theorem rd_andV (h : ta σ H fun x H1 => ∃ c, x = .bl c ∧ if c = true then tb σ H1 Q else Q (.bl false) H1) : tAndV ta tb σ H Q := h
theorem rd_orV (h : ta σ H fun x H1 => ∃ c, x = .bl c ∧ if c = true then Q (.bl true) H1 else tb σ H1 Q) : tOrV ta tb σ H Q := h
theorem rd_notV (h : ta σ H fun x H1 => ∃ c, x = .bl c ∧ Q (.bl (!c)) H1) : tNotV ta σ H Q := h
theorem rd_nil {Q : List V → Hp → Prop} (h : Q [] H) : tNil σ H Q := h
theorem rd_cons {tr : TA} {Q : List V → Hp → Prop} (h : ta σ H fun x H1 => tr σ H1 fun xs H2 => Q (x :: xs) H2) : tCons ta tr σ H Q := h
theorem rd_call {sp : Sp} {dvs : List V} {E : XK} {tr : TA} (h : tr σ H fun vs H1 => sp (vs ++ dvs) H1 Q E) : tCall sp dvs E tr σ H Q := h
theorem rd_CB {r : List V → Hp → VK → Prop} {tr : TA} (h : tr σ H fun vs H1 => r vs H1 Q) : tCB r tr σ H Q := h
theorem rd_bl {b : Bool} {P : Bool → Prop} (h : P b) : ∃ k, V.bl b = V.bl k ∧ P k := ⟨b, rfl, h⟩
theorem rd_gsub {to ti : TE} {ts : TSet} {Q : L2.St → Hp → Prop} (h : to σ H fun o H1 => ti σ H1 fun i H2 => ts o i v H2 fun H3 => Q σ H3) : gSub to ti ts v σ H Q := h
theorem rd_part {Q : Option Int → Hp → Prop} (h : te σ H fun x H1 => ∃ i, x = .int i ∧ Q (some i) H1) : tPart te σ H Q := h
theorem rd_noPart {Q : Option Int → Hp → Prop} (h : Q none H) : tNoPart σ H Q := h
theorem rd_sl {r : V → Option Int → Option Int → Hp → VK → Prop} {tl th : TO} (h : te σ H fun x H1 => tl σ H1 fun l H2 => th σ H2 fun u H3 => r x l u H3 Q) : tSl r te tl th σ H Q := h
theorem rd_tup {tr : TA} (h : tr σ H fun xs H1 => NewT xs H1 Q) : tTup tr σ H Q := h
theorem rd_lst {tr : TA} (h : tr σ H fun xs H1 => NewL xs H1 Q) : tLst tr σ H Q := h
theorem rd_bm {T : String} {r : V → List V → Hp → VK → Prop} {tr : TA} (h : ta σ H fun x H1 => tyV K T x H1 ∧ tr σ H1 fun xs H2 => r x xs H2 Q) : tBM K T r ta tr σ H Q := h
/-! operators on values -/
theorem rd_I0 {g : Int → Int → V} {i j : Int} (q : Q (g i j) H) : rI0 g (.int i) (.int j) H Q := ⟨i, j, rfl, rfl, q⟩
theorem rd_I {C : Int → Int → Prop} {g : Int → Int → V} {i j : Int} (hc : C i j) (q : Q (g i j) H) : rI C g (.int i) (.int j) H Q := ⟨i, j, rfl, rfl, hc, q⟩
theorem rd_eqI {i j : Int} (q : Q (.bl (decide (i = j))) H) : rEq (.int i) (.int j) H Q := ⟨rfl, by
  have e : decide (V.int i = V.int j) = decide (i = j) := by simp
  rw [e]; exact q⟩
theorem rd_neI {i j : Int} (q : Q (.bl (!decide (i = j))) H) : rNe (.int i) (.int j) H Q := ⟨rfl, by
  have e : decide (V.int i = V.int j) = decide (i = j) := by simp
  rw [e]; exact q⟩
theorem rd_eqS {i j : Str} (q : Q (.bl (decide (i = j))) H) : rEq (.str i) (.str j) H Q := ⟨rfl, by
  have e : decide (V.str i = V.str j) = decide (i = j) := by simp
  rw [e]; exact q⟩
theorem rd_neS {i j : Str} (q : Q (.bl (!decide (i = j))) H) : rNe (.str i) (.str j) H Q := ⟨rfl, by
  have e : decide (V.str i = V.str j) = decide (i = j) := by simp
  rw [e]; exact q⟩
theorem rd_neg {i : Int} (q : Q (.int (-i)) H) : rU (fun i => V.int (-i)) (.int i) H Q := ⟨i, rfl, q⟩
theorem rd_ite {b : Bool} {A B : Prop} (h1 : b = true → A) (h2 : b = false → B) : if b = true then A else B := by
  cases b with
  | true => exact iteT (h1 rfl)
  | false => exact iteF (h2 rfl)
theorem rd_iteT {b : Bool} {A B : Prop} (hb : b = true) (h1 : A) : if b = true then A else B := by rw [hb]; exact iteT h1
theorem rd_iteF {b : Bool} {A B : Prop} (hb : b = false) (h1 : B) : if b = true then A else B := by rw [hb]; exact iteF h1
end

/-! ### guards: repr asks that nothing is being shown. A promise at such places alone -/
structure RoomG (k : Nat) (A : Around) : Prop where
  r : Room k A
  g : A.guards = some []
theorem RoomG.mono {j k : Nat} {A : Around} (r : RoomG k A) (h : j ≤ k) : RoomG j A := ⟨r.r.mono h, r.g⟩
theorem RoomG.deeper {k : Nat} {A : Around} (r : RoomG (k + 1) A) (env : Env) : RoomG k (A.deeper env) := ⟨r.r.deeper env, r.g⟩
section
variable {P : Program} {w : World} {K : PySem.W.Frag} {mg : Str → Option Value} {base : Heap}
/-- the run of a def, as a promise tells it, around A -/
def RunsAt (P : Program) (w : World) (K : PySem.W.Frag) (mg : Str → Option Value) (base : Heap) (CX : CXT) (f : Addr) (fd : FuncData) (ps : List Str) (sp : Sp) (A : Around) : Prop :=
  ∀ (out : List Env) (sh : Shared) (H : Hp) (ar : Args) (ws : List Value) (vs : List V) (Q : VK) (E : XK), Env0 P w K mg base A out sh H → BindsTo sh fd ar (ps.zip ws) → Vals vs ws → sp vs H Q E →
    codeAny (model P w) A (Code.call (Value.ref f) ar) (CR CX out P w H sh Q E) sh
structure FnG (P : Program) (w : World) (K : PySem.W.Frag) (mg : Str → Option Value) (base : Heap) (CX : CXT) (k : Nat) (f : Addr) (fd : FuncData) (ps : List Str) (sp : Sp) : Prop where
  many : ∀ vs H Q E, sp vs H Q E → vs.length = ps.length
  runs : ∀ A : Around, RoomG k A → RunsAt P w K mg base CX f fd ps sp A
theorem FnG.of {CX : CXT} {k : Nat} {f : Addr} {fd : FuncData} {ps : List Str} {sp : Sp} (F : FnOk P w K mg base CX k f fd ps sp) : FnG P w K mg base CX k f fd ps sp :=
  ⟨F.len, fun A g out sh H ar ws vs Q E => F.run A out sh H ar ws vs Q E g.r⟩
/-- what a body's end is to the caller -/
theorem body_end {CX : CXT} {N : List Str} {qual : Str} {scope : Scope} {f : Addr} {cd : Value} {A : Around} {out : List Env} {sh t : Shared} {H : Hp} {Q : VK} {E : XK} {fl : Flow}
    (h : SP (cxOf CX P w K mg base N qual scope f cd A out sh H E) [] { nx := fun _ H' => Q .non H', rt := Q } fl t) : CR CX out P w H sh Q E (.ok (.ret (match fl with | .ret v => v | _ => Value.none))) t := by
  match fl, h with
  | .ret u, ⟨v, _, H1, J, rv, q⟩ => exact ⟨v, H1, J.os, J.bare, J.base, J.hok, rv, q⟩
  | .next, ⟨_, H1, J, q⟩ => exact ⟨.non, H1, J.os, J.bare, J.base, J.hok, rfl, q⟩
  | .brk, ⟨_, _, _, q⟩ => exact q.elim
  | .cont, ⟨_, _, _, q⟩ => exact q.elim
theorem okG {x qual : Str} {st : Stmt} {f : Addr} {fd : FuncData} {N ps : List Str} {k : Nat} {sp : Sp} (F : Fun K x qual st f fd) (S : FnScope N ps (defScope st)) (many : ∀ vs H Q E, sp vs H Q E → vs.length = ps.length)
    (hb : ∀ (cdv : Value) (A : Around) (out : List Env) (sh : Shared) (H : Hp) (vs : List V) (Q : VK) (E : XK), RoomG k (A.deeper (envOfC qual (defScope st) sh.heap.objs.size f cdv)) → sp vs H Q E →
      ∃ t, PSs (cxOf CX0 P w K mg base N qual (defScope st) f cdv A out sh H E).nox (defBody st) t ∧ t { nx := fun _ H' => Q .non H', rt := Q } (start N vs) H) : FnG P w K mg base CX0 (k + 1) f fd ps sp := by
  obtain ⟨_, _, kV, doc, pm, an, cdv, ct, _, rfl, hf, hcode⟩ := F.ex
  refine ⟨many, fun A room out sh H ar ws vs Q E e0 bd rel hp => ?_⟩
  have kin : K.In sh.heap := e0.mod.kin.keeps fun b o z => (e0.bs b o z).1
  have nol := e0.mod.nolimit.keeps (h' := sh.heap) fun b o z => (e0.bs b o z).1
  refine codeAny_call_function room.r.depth (kin _ _ hf) rfl S.co S.gen rfl (PySem.W.codeRec_of kin hcode) (bd _ _ _ _ ?_)
  have kinds : ∀ y ∈ ps.zip ws, (defScope st).names.lookup y.1 = some .local ∨ ((defScope st).names.lookup y.1 = some .cell ∧ ((cellsFrom (sh.heap.objs.size + 1) (defScope st).names []).lookup y.1).isSome = true) := by
    rintro ⟨n, v⟩ hy
    exact (S.par n (List.of_mem_zip hy).1).imp id fun q => ⟨q, PySem.W.cellsFrom_some _ _ _ (Or.inl q)⟩
  refine wpAny_newFunctionEnv_cells S.kind kinds fun env henv t1 x1 => ?_
  cases henv
  refine ⟨nol.keeps x1.toInCall.keep, codeAny_func ?_⟩
  obtain ⟨rd, der, hq⟩ := hb cdv A out sh H vs Q E (room.deeper _) hp
  refine wpAny_mono (der.nox.run [] t1 (start N vs) H _ (inv_start S room.r.hd e0 (many _ _ _ _ hp) rel x1) hq) (fun fl t h => ?_) fun _ _ z => z
  cases fl with
  | ret u => exact body_end h
  | next => exact body_end h
  | brk => exact body_end h
  | cont => exact body_end h
end
section
variable {X : Cx} {CX : CXT} {k : Nat} {f : Addr} {fd : FuncData} {ps : List Str} {sp : Sp} {dvs : List V} {ds : List Value} {E : XK} {x : Str} {p pos : Pos} {e : Expr} {es : List Expr} {t : TA}
/-- f(e, ..), f's promise one at places where nothing is being shown -/
theorem pe_callG (F : FnG X.prog X.w X.K X.mg X.base CX k f fd ps sp) (room : RoomG k X.A) (hg : Gl X x) (hm : X.mg x = some (.ref f)) (hk : PySem.W.keepIn X.K (.ref f) = true) (hb : Binds X.K fd ps ds) (hd : Vals dvs ds) (hx : Passes CX X E)
    (ar : PA X (e :: es) t) (ndb : (x == ("__debug__" : Str)) = false := by decide) (hst : starEach (e :: es) X.env = (false, eval e X.env) :: starEach es X.env := by rfl) (plain : (backTo pos (starEach es X.env)).any (·.1) = false := by rfl) :
    PE X (.Call (.Name x p) (e :: es) [] pos) (tCall sp dvs E t) := ⟨fun pins sh σ H Q I h => by
  refine wpAny_Call_Name_kw (ld_glob I hg hm (PySem.W.callWith_K (h₀ := X.base) I.ok.mod.kin hk (thn (ar.run pos pins sh σ H _ I h) ?_) hst plain) ndb)
  rintro ws t1 ⟨vs, H1, I1, rel, hp⟩
  have rel2 := rel.append hd
  refine ⟨I1.kIn, wpAny_call (codeAny_mono (F.runs X.A room X.stack t1 H1 ⟨ws, []⟩ (ws ++ ds) (vs ++ dvs) Q E I1.env0 (hb t1 ws I1.kIn (rel2.length.symm.trans (F.many _ _ _ _ hp))) rel2 hp) fun r t2 z => ?_)⟩
  match r, z with
  | .error _, z => exact hx pins σ H1 t1 _ t2 I1 z
  | .ok (.ret _), z => exact I1.after z
  | .ok .next, z => exact z.elim
  | .ok .brk, z => exact z.elim
  | .ok .cont, z => exact z.elim⟩
end

/-! ### repr of data -/
theorem call_repr {X : Cx} (hg : X.A.guards = some []) (hu : X.A.units + 64 < cLine) : CallR X (.builtin "repr") (fun xs H Q => ∃ (a : Addr) (d : PyData), xs = [.ref a] ∧ Dp X.K H (.ref a) d ∧ d.showable = true ∧ d.hasDict = false ∧ d.depth ≤ 60 ∧ d.shown.length ≤ sizeLine ∧ Q (.str d.shown) H) := by
  intro pins s σ H xs us Q I r h
  obtain ⟨a, d, rfl, hd, h1, h2, h3, h4, q⟩ := h
  obtain ⟨u, rfl, hu'⟩ := vals1 r
  obtain rfl : u = Value.ref a := hu'
  obtain ⟨as, rr⟩ := Dp.reads I d (.ref a) (.ref a) hd rfl
  refine repr_of_reads' (h₀ := s.heap) rr h1 (fun e => absurd e (by rw [h2]; decide)) hg (by omega) (fun _ _ e => e) (fun h' u' tk k => ?_) h4
  exact ⟨.str _, H, I.kept (t' := tk) k, ⟨_, rfl⟩, q⟩
end EE

namespace EE
open PySem PySem.Spec PyProof.Rows L2
section
variable {K : PySem.W.Frag} {σ : L2.St} {H : Hp} {Q : VK}
theorem rd_add {i j : Int} (q : Q (.int (i + j)) H) : rI0 (fun i j => .int (i + j)) (.int i) (.int j) H Q := ⟨i, j, rfl, rfl, q⟩
theorem rd_sub {i j : Int} (q : Q (.int (i - j)) H) : rI0 (fun i j => .int (i - j)) (.int i) (.int j) H Q := ⟨i, j, rfl, rfl, q⟩
theorem rd_lt {i j : Int} (q : Q (.bl (decide (i < j))) H) : rI0 (fun i j => .bl (decide (i < j))) (.int i) (.int j) H Q := ⟨i, j, rfl, rfl, q⟩
theorem rd_le {i j : Int} (q : Q (.bl (decide (i ≤ j))) H) : rI0 (fun i j => .bl (decide (i ≤ j))) (.int i) (.int j) H Q := ⟨i, j, rfl, rfl, q⟩
theorem rd_gt {i j : Int} (q : Q (.bl (decide (j < i))) H) : rI0 (fun i j => .bl (decide (j < i))) (.int i) (.int j) H Q := ⟨i, j, rfl, rfl, q⟩
theorem rd_ge {i j : Int} (q : Q (.bl (decide (j ≤ i))) H) : rI0 (fun i j => .bl (decide (j ≤ i))) (.int i) (.int j) H Q := ⟨i, j, rfl, rfl, q⟩
theorem rd_mul {i j : Int} (q : Q (.int (i * j)) H) (c : CMul i j) : rI CMul (fun i j => .int (i * j)) (.int i) (.int j) H Q := ⟨i, j, rfl, rfl, c, q⟩
theorem rd_mod {i j : Int} (q : Q (.int (i % j)) H) (c : 0 < j) : rI (fun _ j => 0 < j) (fun i j => .int (i % j)) (.int i) (.int j) H Q := ⟨i, j, rfl, rfl, c, q⟩
theorem rd_fdiv {i j : Int} (q : Q (.int (i / j)) H) (c : CDiv i j) : rI CDiv (fun i j => .int (i / j)) (.int i) (.int j) H Q := ⟨i, j, rfl, rfl, c, q⟩
theorem rd_pow {i j : Int} (q : Q (.int (i ^ j.toNat)) H) (c : CPow i j) : rI CPow (fun i j => .int (i ^ j.toNat)) (.int i) (.int j) H Q := ⟨i, j, rfl, rfl, c, q⟩
theorem rd_ixL {p : Addr} {xs : List V} {i : Int} {v : V} (h : SqL K H p xs) (e : atI xs i = some v) (q : Q v H) : rIxL K (.ref p) (.int i) H Q := ⟨p, xs, i, v, rfl, rfl, h, e, q⟩
theorem rd_setL {p : Addr} {xs : List V} {k : Int} {j : Nat} {v : V} {Q : Hp → Prop} (h : H p = some (.lst xs)) (e : ixN xs.length k = some j) (q : Q (upd H p (.lst (xs.set j v)))) : rSetL (.ref p) (.int k) v H Q := ⟨p, xs, k, j, rfl, rfl, h, e, q⟩
theorem sqL_of {p : Addr} {xs : List V} (h : H p = some (.lst xs)) : SqL K H p xs := .inl (.inl h)
theorem sqT_of {p : Addr} {xs : List V} (h : H p = some (.tup xs)) : SqT K H p xs := .inl (.inl h)
theorem atI_lt {xs : List V} {i : Int} (h0 : 0 ≤ i) (h : i < xs.length) : ∃ (j : Nat) (hj : j < xs.length), (j : Int) = i ∧ atI xs i = some (xs[j]) := by
  refine ⟨i.toNat, by omega, by omega, ?_⟩
  unfold atI ixN
  rw [if_pos h0, if_pos h]
  show xs[i.toNat]? = _
  exact List.getElem?_eq_getElem (by omega)
theorem dp_nil {p : Addr} (h : H p = some (.lst [])) : Dp K H (.ref p) (.list []) := .lst (sqL_of h) .nil
theorem dp_ints : ∀ {ns : List Int}, DpAll K H (ns.map V.int) (ns.map PyData.int)
  | [] => .nil
  | n :: ns => .cons (.int n) dp_ints
end
/-- a pen at p, its cells at q: the index of the next one (at most n), what is left of a great one -/
def PenAt (n : Nat) (H : Hp) (p q : Addr) : Prop := ∃ (ns : List Int) (a r : Int), H p = some (.lst [.ref q, .int a, .int r]) ∧ H q = some (.lst (ns.map V.int)) ∧ 0 ≤ a ∧ a ≤ n ∧ ns.length ≤ 63
theorem PenAt.keep {n : Nat} {H H' : Hp} {p q : Addr} (h : PenAt n H p q) (s : Same H H') : PenAt n H' p q := by
  obtain ⟨ns, a, r, h1, h2, h3⟩ := h
  exact ⟨ns, a, r, s _ _ h1, s _ _ h2, h3⟩
theorem PenAt.mono {n m : Nat} {H : Hp} {p q : Addr} (h : PenAt n H p q) (s : n ≤ m) : PenAt m H p q := by
  obtain ⟨ns, a, r, h1, h2, h3, h4, h5⟩ := h
  exact ⟨ns, a, r, h1, h2, h3, by omega, h5⟩
theorem PenAt.off {n : Nat} {H : Hp} {p q D : Addr} (h : PenAt n H p q) (hD : H D = none) : D ≠ p ∧ D ≠ q := by
  obtain ⟨ns, a, r, h1, h2, h3⟩ := h
  exact ⟨(ne_of_none h1 hD).symm, (ne_of_none h2 hD).symm⟩
theorem PenAt.upd {n : Nat} {H : Hp} {p q D : Addr} {o : HO} (h : PenAt n H p q) (hD : D ≠ p ∧ D ≠ q) : PenAt n (upd H D o) p q := by
  obtain ⟨ns, a, r, h1, h2, h3⟩ := h
  exact ⟨ns, a, r, by rw [upd_ne hD.1.symm]; exact h1, by rw [upd_ne hD.2.symm]; exact h2, h3⟩
def spDraw : Sp := fun vs H Q _ => ∃ (p q : Addr) (many : Int) (n : Nat), vs = [.ref p, .int many] ∧ 0 < many ∧ many < 1073741824 ∧ n ≤ 1000000 ∧ PenAt n H p q ∧
  ∀ (d : Int) (H' : Hp), 0 ≤ d → d < many → But p H H' → PenAt (n + 1) H' p q → Q (.int d) H'
end EE
namespace EE
open PySem PySem.Spec PyProof.Rows L2
theorem canLay_ints : ∀ ns : List Int, PyData.canLayAll0 (ns.map PyData.int) = true
  | [] => rfl
  | n :: ns => by
    show (PyData.canLay0 (.int n) && PyData.canLayAll0 (ns.map PyData.int)) = true
    rw [canLay_ints ns]; rfl
theorem depth_ints : ∀ ns : List Int, PyData.depthAll (ns.map PyData.int) = 0
  | [] => rfl
  | n :: ns => by
    show max (PyData.depth (.int n)) (PyData.depthAll (ns.map PyData.int)) = 0
    rw [depth_ints ns]; rfl
theorem shaped_ints (ns : List Int) : SeqAt.shaped (.list (ns.map PyData.int)) = true := by
  unfold SeqAt.shaped
  have h1 : PyData.canLay0 (.list (ns.map PyData.int)) = true := canLay_ints ns
  have h2 : PyData.depth (.list (ns.map PyData.int)) = 1 := by
    show PyData.depthAll (ns.map PyData.int) + 1 = 1
    rw [depth_ints]
  rw [h1, h2]; rfl
section
variable {K : PySem.W.Frag} {σ : L2.St} {H : Hp} {Q : VK}
/-- ns != [] -/
theorem rd_neNil {q o : Addr} {ns : List Int} (h1 : SqL K H q (ns.map V.int)) (h2 : H o = some (.lst [])) (k : Q (.bl (decide (ns ≠ []))) H) : rNeD K (.ref q) (.ref o) H Q := by
  refine ⟨.list (ns.map PyData.int), .list [], .lst h1 dp_ints, dp_nil h2, shaped_ints ns, rfl, ?_⟩
  cases ns with
  | nil => exact k
  | cons n ns => exact k
theorem sto_lst {p : Addr} {xs : List V} {k : Int} {j : Nat} {v : V} {Q : Hp → Prop} (h : H p = some (.lst xs)) (e : ixN xs.length k = some j) (q : ∀ H1, But p H H1 → H1 p = some (.lst (xs.set j v)) → Q H1) : rSetL (.ref p) (.int k) v H Q := ⟨p, xs, k, j, rfl, rfl, h, e, q _ but_upd upd_same⟩
end
theorem small_sz {n : Nat} (h : n ≤ 1000) : n ≤ sizeLine := Nat.le_of_lt (small1000 h)
end EE

/-! ### relations by name -/
namespace EE
open PySem PySem.Spec PyProof.Rows L2
abbrev LR := List V → Hp → VK → Prop
def rInt1 : LR := fun xs H Q => (∃ i, xs = [.int i] ∧ Q (.int i) H) ∨ ∃ k, xs = [.bl k] ∧ Q (.int (if k then 1 else 0)) H
def rAbs : LR := fun xs H Q => ∃ i, xs = [.int i] ∧ Q (.int (if i < 0 then -i else i)) H
def rLenQ (K : PySem.W.Frag) : LR := fun xs H Q => ∃ p ys, xs = [.ref p] ∧ (SqL K H p ys ∨ SqT K H p ys) ∧ Q (.int ys.length) H
def rLenS : LR := fun xs H Q => ∃ z, xs = [.str z] ∧ z.length ≤ sizeLine ∧ Q (.int z.length) H
def rListOf (K : PySem.W.Frag) : LR := fun xs H Q => ∃ p ys, xs = [.ref p] ∧ (SqL K H p ys ∨ SqT K H p ys) ∧ ∀ l, H l = none → Q (.ref l) (upd H l (.lst ys))
def rTupOf (K : PySem.W.Frag) : LR := fun xs H Q => ∃ p ys, xs = [.ref p] ∧ ((SqL K H p ys ∧ ∀ l, H l = none → Q (.ref l) (upd H l (.tup ys))) ∨ (SqT K H p ys ∧ Q (.ref p) H))
def rStrI : LR := fun xs H Q => ∃ i, xs = [.int i] ∧ i.natAbs.log2 < 1920 ∧ Q (.str (toString i)) H
def rReprD (K : PySem.W.Frag) : LR := fun xs H Q => ∃ (a : Addr) (d : PyData), xs = [.ref a] ∧ Dp K H (.ref a) d ∧ d.showable = true ∧ d.hasDict = false ∧ d.depth ≤ 60 ∧ d.shown.length ≤ sizeLine ∧ Q (.str d.shown) H
def rAddS : R2 := fun x y H Q => ∃ i j, x = .str i ∧ y = .str j ∧ i.length + j.length ≤ sizeLine ∧ Q (.str (i ++ j)) H
def rInS : R2 := fun x y H Q => ∃ (c : Nat) (z : Str), x = .str ⟨#[c]⟩ ∧ y = .str z ∧ Q (.bl (decide (c ∈ z.cps.toList))) H
def rNotInS : R2 := fun x y H Q => ∃ (c : Nat) (z : Str), x = .str ⟨#[c]⟩ ∧ y = .str z ∧ Q (.bl (!decide (c ∈ z.cps.toList))) H
def rIsN : R2 := fun x y H Q => y = .non ∧ Q (.bl (decide (x = .non))) H
def rNotN : R2 := fun x y H Q => y = .non ∧ Q (.bl (!decide (x = .non))) H
section
variable {X : Cx}
theorem cr_int1 : CallR X (.type "int") rInt1 := call_int1
theorem cr_abs : CallR X (.builtin "abs") rAbs := call_abs
theorem cr_lenQ : CallR X (.builtin "len") (rLenQ X.K) := call_len_seq
theorem cr_lenS : CallR X (.builtin "len") rLenS := call_len_str
theorem cr_listOf : CallR X (.type "list") (rListOf X.K) := call_list_of
theorem cr_tupOf : CallR X (.type "tuple") (rTupOf X.K) := call_tuple_of
theorem cr_strI : CallR X (.type "str") rStrI := call_str_int
theorem cr_repr (hg : X.A.guards = some []) (hu : X.A.units + 64 < cLine) : CallR X (.builtin "repr") (rReprD X.K) := call_repr hg hu
theorem or_addS : OpR X (binaryOp .Add) rAddS := op_add_str
theorem or_inS : OpR X (compareOp .In) rInS := op_in_sign
theorem or_notInS : OpR X (compareOp .NotIn) rNotInS := op_notIn_sign
theorem or_isN : OpR X (compareOp .Is) rIsN := op_isN
theorem or_notN : OpR X (compareOp .IsNot) rNotN := op_notN
end
section
variable {K : PySem.W.Frag} {σ : L2.St} {H : Hp} {Q : VK}
theorem rd_int1 {i : Int} (q : Q (.int i) H) : rInt1 [.int i] H Q := .inl ⟨i, rfl, q⟩
theorem rd_int1b {b : Bool} (q : Q (.int (if b then 1 else 0)) H) : rInt1 [.bl b] H Q := .inr ⟨b, rfl, q⟩
theorem rd_abs {i : Int} (q : Q (.int (if i < 0 then -i else i)) H) : rAbs [.int i] H Q := ⟨i, rfl, q⟩
theorem rd_len {p : Addr} {ys : List V} (h : SqL K H p ys) (q : Q (.int ys.length) H) : rLenQ K [.ref p] H Q := ⟨p, ys, rfl, .inl h, q⟩
theorem rd_lenT {p : Addr} {ys : List V} (h : SqT K H p ys) (q : Q (.int ys.length) H) : rLenQ K [.ref p] H Q := ⟨p, ys, rfl, .inr h, q⟩
theorem rd_lenS {z : Str} (q : Q (.int z.length) H) (h : z.length ≤ sizeLine) : rLenS [.str z] H Q := ⟨z, rfl, h, q⟩
theorem rd_strI {i : Int} (q : Q (.str (toString i)) H) (h : i.natAbs.log2 < 1920) : rStrI [.int i] H Q := ⟨i, rfl, h, q⟩
theorem rd_addS {i j : Str} (q : Q (.str (i ++ j)) H) (h : i.length + j.length ≤ sizeLine) : rAddS (.str i) (.str j) H Q := ⟨i, j, rfl, rfl, h, q⟩
theorem rd_inS {c : Nat} {z : Str} (q : Q (.bl (decide (c ∈ z.cps.toList))) H) : rInS (.str ⟨#[c]⟩) (.str z) H Q := ⟨c, z, rfl, rfl, q⟩
theorem rd_notInS {c : Nat} {z : Str} (q : Q (.bl (!decide (c ∈ z.cps.toList))) H) : rNotInS (.str ⟨#[c]⟩) (.str z) H Q := ⟨c, z, rfl, rfl, q⟩
theorem rd_isN {x : V} (q : Q (.bl (decide (x = .non))) H) : rIsN x .non H Q := ⟨rfl, q⟩
theorem rd_notN {x : V} (q : Q (.bl (!decide (x = .non))) H) : rNotN x .non H Q := ⟨rfl, q⟩
end
end EE

namespace EE
open PySem PySem.Spec PyProof.Rows L2
theorem mixOk {m a c1 c2 c3 : Int} (m0 : 0 ≤ m) (m1 : m < 2147483648) (a0 : 0 ≤ a) (a1 : a ≤ 1000000) (h1 : 0 ≤ c1) (h1' : c1 ≤ 1000000) (h2 : 0 ≤ c2) (h2' : c2 ≤ 1000000) (h3 : 0 ≤ c3) (h3' : c3 ≤ 1000000) :
    CPow (m * (2 * a + c1) + c2 * a * a + c3) 3 := by
  refine ⟨by decide, by decide, ?_⟩
  have e1 : m * (2 * a + c1) ≤ 2147483648 * 3000000 := Int.mul_le_mul (by omega) (by omega) (by omega) (by omega)
  have e0 : 0 ≤ m * (2 * a + c1) := Int.mul_nonneg m0 (by omega)
  have f1 : c2 * a ≤ 1000000 * 1000000 := Int.mul_le_mul h2' a1 a0 (by omega)
  have f0 : 0 ≤ c2 * a := Int.mul_nonneg h2 a0
  have g1 : c2 * a * a ≤ (1000000 * 1000000) * 1000000 := Int.mul_le_mul f1 a1 a0 (by omega)
  have g0 : 0 ≤ c2 * a * a := Int.mul_nonneg f0 a0
  omega
theorem mixMul {c2 a : Int} (a0 : 0 ≤ a) (a1 : a ≤ 1000000) (h2 : 0 ≤ c2) (h2' : c2 ≤ 1000000) : CMul (c2 * a) a := by
  have f1 : c2 * a ≤ 1000000 * 1000000 := Int.mul_le_mul h2' a1 a0 (by omega)
  have f0 : 0 ≤ c2 * a := Int.mul_nonneg h2 a0
  exact .inl (by omega)
theorem modLo {x m : Int} (h : 0 < m) : 0 ≤ x % m := Int.emod_nonneg _ (by omega)
theorem modHi {x m : Int} (h : 0 < m) : x % m < m := Int.emod_lt_of_pos _ h
end EE

/-! Own layer: texts, comprehensions, isinstance. -/
namespace EE
open PySem PySem.Spec PyProof.Rows L2
/-! ### texts of plain signs -/
def Asc (z : Str) : Prop := ∀ c ∈ z.cps.toList, c < 128
instance (z : Str) : Decidable (Asc z) := by unfold Asc; infer_instance
theorem Asc.ok {z : Str} (h : Asc z) : PyData.strOk z = true := by
  unfold PyData.strOk
  rw [← Array.all_toList, List.all_eq_true]
  intro c hc
  exact decide_eq_true (Nat.lt_trans (h c hc) (by decide))
theorem asc_append {x y : Str} (hx : Asc x) (hy : Asc y) : Asc (x ++ y) := by
  intro c hc
  have e : (x ++ y).cps.toList = x.cps.toList ++ y.cps.toList := Array.toList_append
  rw [e, List.mem_append] at hc
  rcases hc with hc | hc
  · exact hx c hc
  · exact hy c hc
theorem len_append (x y : Str) : (x ++ y).length = x.length + y.length := Array.size_append
theorem asc_cut {z : Str} (h : Asc z) (lo hi : Option Int) : Asc (cutS z lo hi) := by
  intro c hc
  have e : (cutS z lo hi).cps.toList = (z.cps.toList.drop (HT.sIx z.length 0 lo)).take (HT.sIx z.length z.length hi - HT.sIx z.length 0 lo) := rfl
  rw [e] at hc
  exact h c (List.mem_of_mem_drop (List.mem_of_mem_take hc))
theorem asc_one {c : Nat} (h : c < 128) : Asc ⟨#[c]⟩ := by
  intro d hd
  have e : d = c := by simpa using hd
  omega
theorem asc_join {sep : Str} (hs : Asc sep) : ∀ {ys : List Str}, (∀ y ∈ ys, Asc y) → Asc (Str.join sep ys)
  | [], _ => fun c hc => absurd hc (by show ¬ c ∈ ([] : List Nat); simp)
  | [x], h => h x (by simp)
  | x :: y :: r, h => by
    show Asc (x ++ sep ++ Str.join sep (y :: r))
    exact asc_append (asc_append (h x (by simp)) hs) (asc_join hs fun z hz => h z (List.mem_cons_of_mem _ hz))
theorem len_join (sep : Str) : ∀ ys : List Str, (Str.join sep ys).length ≤ (ys.map (·.length)).sum + ys.length * sep.length
  | [] => Nat.zero_le _
  | [x] => by simp [Str.join]
  | x :: y :: r => by
    show (x ++ sep ++ Str.join sep (y :: r)).length ≤ _
    rw [len_append, len_append]
    have ih := len_join sep (y :: r)
    simp only [List.map_cons, List.sum_cons, List.length_cons] at ih ⊢
    rw [Nat.add_mul (r.length + 1) 1]
    omega
theorem asc_int (i : Int) : Asc (toString i : String) := by
  intro c hc
  have e : (Str.ofString (toString i)).cps.toList = (toString i).toList.map Char.toNat := signs_ofString _
  have hc' : c ∈ (toString i).toList.map Char.toNat := by
    rw [← e]; exact hc
  obtain ⟨ch, h1, rfl⟩ := List.mem_map.mp hc'
  rcases int_sign i ch h1 with h | h
  · unfold Char.isDigit at h
    simp at h
    have := h.2
    show ch.val.toNat < 128
    have h2 : ch.val.toNat ≤ 57 := this
    omega
  · rw [h]; decide
theorem len_int {i : Int} {k : Nat} (hk : 0 < k) (h : i.natAbs < 10 ^ k) : (Str.ofString (toString i)).length ≤ k + 1 := by
  have := int_text_length_le10 hk h
  have e : (Str.ofString (toString i)).length = (toString i).length := by
    show (Str.ofString (toString i)).cps.size = (toString i).length
    rw [← Array.length_toList, signs_ofString, List.length_map]
    rfl
  omega
theorem log2_lt {n k : Nat} (h : n < 2 ^ k) (hk : 0 < k) : n.log2 < k := by
  rcases Nat.eq_zero_or_pos n with e | e
  · subst e; exact hk
  · exact (Nat.log2_lt (by omega)).mpr h
section
variable {K : PySem.W.Frag} {σ : L2.St} {H : Hp} {Q : VK}
theorem rd_slS {z : Str} {lo hi : Option Int} (q : Q (.str (cutS z lo hi)) H) (h : z.length ≤ sizeLine) : rSlS (.str z) lo hi H Q := ⟨z, rfl, h, q⟩
theorem rd_slL {a : Addr} {xs : List V} {lo hi : Option Int} (h : SqL K H a xs) (q : ∀ p H2, H p = none → Same H H2 → H2 p = some (.lst (cutV xs lo hi)) → Q (.ref p) H2) : rSlL K (.ref a) lo hi H Q :=
  ⟨a, xs, rfl, h, fun p hp => q p _ hp (same_new hp) upd_same⟩
theorem rd_listOf {a : Addr} {xs : List V} (h : SqL K H a xs) (q : ∀ p H2, H p = none → Same H H2 → H2 p = some (.lst xs) → Q (.ref p) H2) : rListOf K [.ref a] H Q := ⟨a, xs, rfl, .inl h, fun p hp => q p _ hp (same_new hp) upd_same⟩
theorem rd_listOfT {a : Addr} {xs : List V} (h : SqT K H a xs) (q : ∀ p H2, H p = none → Same H H2 → H2 p = some (.lst xs) → Q (.ref p) H2) : rListOf K [.ref a] H Q := ⟨a, xs, rfl, .inr h, fun p hp => q p _ hp (same_new hp) upd_same⟩
theorem rd_exI {i : Int} {P : Int → Prop} (h : P i) : ∃ j, V.int i = V.int j ∧ P j := ⟨i, rfl, h⟩
theorem rd_ixS {z : Str} {i : Int} {c : Nat} (e : atI z.cps.toList i = some c) (q : Q (.str ⟨#[c]⟩) H) (h : z.length ≤ sizeLine) : rIxS (.str z) (.int i) H Q := ⟨z, i, c, rfl, rfl, h, e, q⟩
/-- join, by name -/
def rJoin (K : PySem.W.Frag) : V → List V → Hp → VK → Prop := fun x xs H Q => ∃ a p, ∃ ys : List Str, x = .str a ∧ xs = [.ref p] ∧ (SqL K H p (ys.map V.str) ∨ SqT K H p (ys.map V.str)) ∧ (ys.map (·.length)).sum + ys.length * a.length ≤ 16777216 ∧ Q (.str (Txt.join a ys)) H
theorem mt_joinN {X : Cx} : MtR X "str.join" (rJoin X.K) := mt_join
theorem rd_M1 {r : V → List V → Hp → VK → Prop} {to te : TE} (h : to σ H fun x H1 => (∃ a, x = .str a) ∧ te σ H1 fun y H2 => r x [y] H2 Q) : tM1 r to te σ H Q := h
theorem rd_M0 {r : V → List V → Hp → VK → Prop} {to : TE} (h : to σ H fun x H1 => (∃ a, x = .str a) ∧ r x [] H1 Q) : tM0 r to σ H Q := h
theorem rd_isS {a : Str} {P : Prop} (h : P) : (∃ b, V.str a = V.str b) ∧ P := ⟨⟨a, rfl⟩, h⟩
theorem rd_joinL {a : Str} {p : Addr} {ys : List Str} (h : H p = some (.lst (ys.map V.str))) (hs : (ys.map (·.length)).sum + ys.length * a.length ≤ 16777216) (q : Q (.str (Str.join a ys)) H) : rJoin K (.str a) [.ref p] H Q := ⟨a, p, ys, rfl, rfl, .inl (sqL_of h), hs, by rw [TL.join_eq]; exact q⟩
/-- isinstance with a built-in class -/
theorem rd_isi {x : V} {a c : String} {b : Bool} (ty : TyX K H x (.type a)) (e : kitB a c = some b) (q : Q (.bl b) H) : rIsi K [x, .ty c] H Q := ⟨x, .ty c, .type a, .type c, b, rfl, .ty c, ty, kit_ty e, q⟩
end
/-! ### comprehensions: what is made so far is a filterMap -/
structure LcI {α : Type} (l : List α) (F : α → Option V) (D : Addr) (H0 : Hp) (i : Nat) (H : Hp) : Prop where
  same : Same H0 H
  at_ : H D = some (.lst ((l.take i).filterMap F))
theorem LcI.zero {α : Type} {l : List α} {F : α → Option V} {D : Addr} {H0 : Hp} (hD : H0 D = none) : LcI l F D H0 0 (upd H0 D (.lst [])) := ⟨same_new hD, upd_same⟩
theorem LcI.some {α : Type} {l : List α} {F : α → Option V} {D : Addr} {H0 H H4 : Hp} {i : Nat} {a : α} {y : V} (I : LcI l F D H0 i H) (hD : H0 D = none) (hi : l[i]? = some a) (hF : F a = some y) (s : Same H H4) (hl : l.length ≤ 1000000) :
    ∃ acc, H4 D = some (.lst acc) ∧ acc.length < sizeLine ∧ LcI l F D H0 (i + 1) (upd H4 D (.lst (acc ++ [y]))) := by
  refine ⟨_, s _ _ I.at_, ?_, ?_, ?_⟩
  · have h1 := List.length_filterMap_le F (l.take i)
    have h2 : (l.take i).length ≤ l.length := by rw [List.length_take]; exact Nat.min_le_right _ _
    exact Nat.lt_of_le_of_lt (Nat.le_trans h1 (Nat.le_trans h2 hl)) (by decide)
  · intro b o e
    rw [upd_ne (ne_of_none e hD)]
    exact s _ _ (I.same _ _ e)
  · rw [upd_same, List.take_add_one, hi, List.filterMap_append]
    simp [hF]
theorem LcI.none {α : Type} {l : List α} {F : α → Option V} {D : Addr} {H0 H H4 : Hp} {i : Nat} {a : α} (I : LcI l F D H0 i H) (hi : l[i]? = .some a) (hF : F a = .none) (s : Same H H4) : LcI l F D H0 (i + 1) H4 := by
  refine ⟨fun b o e => s _ _ (I.same _ _ e), ?_⟩
  rw [s _ _ I.at_, List.take_add_one, hi, List.filterMap_append]
  simp [hF]
theorem LcI.done {α : Type} {l : List α} {F : α → Option V} {D : Addr} {H0 H : Hp} (I : LcI l F D H0 l.length H) : H D = Option.some (HO.lst (l.filterMap F)) := by
  rw [I.at_, List.take_length]
/-- over a text -/
theorem lc_str {x : Str} {g : TG} {tt : TT} {te : TE} {vs : List Nat} {σ : L2.St} {H1 : Hp} {D : Addr} {Qd : Hp → Prop} (Pv : Nat → Hp → Prop) (h0 : Pv 0 (upd H1 D (.lst [])))
    (hs : ∀ i c H, x.cps.toList[i]? = some c → Pv i H → g (.str ⟨#[c]⟩) (wipe σ vs) H fun σ2 H2 => wipe σ2 vs = wipe σ vs ∧ tt σ2 H2 fun b H3 =>
      if b = true then te σ2 H3 fun y H4 => ∃ acc, H4 D = some (.lst acc) ∧ acc.length < sizeLine ∧ Pv (i + 1) (upd H4 D (.lst (acc ++ [y]))) else Pv (i + 1) H3) (hd : ∀ H, Pv x.cps.toList.length H → Qd H) :
    ∃ W : Nat → Nat → Hp → Prop, (∃ m, W 0 m (upd H1 D (.lst []))) ∧ ∀ i m H, W i m H →
      ((Its x).stop i H ∧ Qd H) ∨ ((Its x).go i H ∧ ∃ Nx : Hp → Prop, (∀ H', Nx H' → ∃ m', m' < m ∧ W (i + 1) m' H') ∧ ∀ y H', (Its x).yld i H y H' → g y (wipe σ vs) H' fun σ2 H2 => wipe σ2 vs = wipe σ vs ∧ tt σ2 H2 fun b H3 =>
        if b = true then te σ2 H3 fun y H4 => ∃ acc, H4 D = some (.lst acc) ∧ acc.length < sizeLine ∧ Nx (upd H4 D (.lst (acc ++ [y]))) else Nx H3) := by
  have en : x.cps.toList.length = x.cps.size := Array.length_toList
  refine ⟨fun i m H => m = x.cps.size - i ∧ i ≤ x.cps.size ∧ Pv i H, ⟨x.cps.size, by simp, Nat.zero_le _, h0⟩, ?_⟩
  rintro i m H ⟨rfl, hi, p⟩
  by_cases hlt : i < x.cps.size
  · refine .inr ⟨hlt, Pv (i + 1), fun H' p' => ⟨x.cps.size - (i + 1), by omega, rfl, hlt, p'⟩, fun y H' q => ?_⟩
    obtain ⟨e, c, hc, rfl⟩ := q
    subst e
    exact hs i c H' (by rw [Array.getElem?_toList]; exact hc) p
  · have e : i = x.cps.size := by omega
    subst e
    rw [en] at hd
    exact .inl ⟨Nat.le_refl _, hd H p⟩
section
variable {K : PySem.W.Frag} {σ : L2.St} {H : Hp} {Q : VK}
/-- the comprehension's reading: what is walked, then the loop at a new list -/
def LcAt (g : TG) (tt : TT) (te : TE) (vs : List Nat) (σ : L2.St) (Q : VK) (J : It) (H1 : Hp) : Prop := ∀ D, H1 D = none → ∃ W : Nat → Nat → Hp → Prop, (∃ m, W 0 m (upd H1 D (.lst []))) ∧ ∀ i m H, W i m H →
  (J.stop i H ∧ Q (.ref D) H) ∨ (J.go i H ∧ ∃ Nx : Hp → Prop, (∀ H', Nx H' → ∃ m', m' < m ∧ W (i + 1) m' H') ∧ ∀ x H', J.yld i H x H' → g x (wipe σ vs) H' fun σ2 H2 => wipe σ2 vs = wipe σ vs ∧ tt σ2 H2 fun b H3 =>
    if b = true then te σ2 H3 fun y H4 => ∃ acc, H4 D = some (.lst acc) ∧ acc.length < sizeLine ∧ Nx (upd H4 D (.lst (acc ++ [y]))) else Nx H3)
theorem rd_lc {wi : TI} {g : TG} {tt : TT} {te : TE} {vs : List Nat} (h : wi σ H (LcAt g tt te vs σ Q)) : tLc wi g tt te vs σ H Q := h
theorem rd_iStr {te : TE} {R : It → Hp → Prop} (h : te σ H fun v H1 => ∃ x, v = .str x ∧ R (Its x) H1) : iStr te σ H R := h
theorem rd_exS {z : Str} {P : Str → Prop} (h : P z) : ∃ x, V.str z = .str x ∧ P x := ⟨z, rfl, h⟩
/-- pure: each sign gives a value or none -/
theorem lcat_str {g : TG} {tt : TT} {te : TE} {vs : List Nat} {x : Str} (F : Nat → Option V) (hl : x.length ≤ 1000000)
    (hs : ∀ D i c H', H D = none → x.cps.toList[i]? = some c → LcI x.cps.toList F D H i H' → g (.str ⟨#[c]⟩) (wipe σ vs) H' fun σ2 H2 => wipe σ2 vs = wipe σ vs ∧ tt σ2 H2 fun b H3 =>
      if b = true then te σ2 H3 fun y H4 => ∃ acc, H4 D = some (.lst acc) ∧ acc.length < sizeLine ∧ LcI x.cps.toList F D H (i + 1) (upd H4 D (.lst (acc ++ [y]))) else LcI x.cps.toList F D H (i + 1) H3)
    (hd : ∀ D H', H D = none → Same H H' → H' D = some (.lst (x.cps.toList.filterMap F)) → Q (.ref D) H') : LcAt g tt te vs σ Q (Its x) H := fun D hD =>
  lc_str (LcI x.cps.toList F D H) (LcI.zero hD) (fun i c H' hc I => hs D i c H' hD hc I) fun H' I => hd D H' hD I.same I.done
theorem rd_all {a : Addr} {bs : List Bool} (h : SqL K H a (bs.map V.bl)) (q : Q (.bl (bs.all id)) H) : rAll K [.ref a] H Q := ⟨a, bs, rfl, h, q⟩
theorem rd_any {a : Addr} {bs : List Bool} (h : SqL K H a (bs.map V.bl)) (q : Q (.bl (bs.any id)) H) : rAny K [.ref a] H Q := ⟨a, bs, rfl, h, q⟩
theorem dp_strs : ∀ {zs : List Str}, DpAll K H (zs.map V.str) (zs.map PyData.str)
  | [] => .nil
  | z :: zs => .cons (.str z) dp_strs
theorem dp_bls : ∀ {zs : List Bool}, DpAll K H (zs.map V.bl) (zs.map PyData.bool)
  | [] => .nil
  | z :: zs => .cons (.bl z) dp_bls
end
theorem shaped_flat {ds : List PyData} (h : ∀ d ∈ ds, PyData.canLay0 d = true ∧ PyData.depth d = 0) : SeqAt.shaped (.list ds) = true ∧ SeqAt.shaped (.tuple ds) = true := by
  have h1 : ∀ ds : List PyData, (∀ d ∈ ds, PyData.canLay0 d = true ∧ PyData.depth d = 0) → PyData.canLayAll0 ds = true ∧ PyData.depthAll ds = 0 := by
    intro ds
    induction ds with
    | nil => intro _; exact ⟨rfl, rfl⟩
    | cons d ds ih =>
      intro h
      obtain ⟨i1, i2⟩ := ih fun x hx => h x (List.mem_cons_of_mem _ hx)
      obtain ⟨j1, j2⟩ := h d List.mem_cons_self
      constructor
      · show (PyData.canLay0 d && PyData.canLayAll0 ds) = true
        rw [i1, j1]; rfl
      · show max (PyData.depth d) (PyData.depthAll ds) = 0
        rw [i2, j2]; rfl
  obtain ⟨a, b⟩ := h1 ds h
  constructor
  · unfold SeqAt.shaped
    rw [show PyData.canLay0 (.list ds) = true from a, show PyData.depth (.list ds) = 1 by show PyData.depthAll ds + 1 = 1; rw [b]]
    rfl
  · unfold SeqAt.shaped
    rw [show PyData.canLay0 (.tuple ds) = true from a, show PyData.depth (.tuple ds) = 1 by show PyData.depthAll ds + 1 = 1; rw [b]]
    rfl
section
variable {K : PySem.W.Frag} {σ : L2.St} {H : Hp} {Q : VK}
/-- zs == [] of texts -/
theorem rd_eqNilS {q o : Addr} {zs : List Str} (h1 : SqL K H q (zs.map V.str)) (h2 : H o = some (.lst [])) (ha : ∀ z ∈ zs, Asc z) (k : Q (.bl (decide (zs = []))) H) : rEqD K (.ref q) (.ref o) H Q := by
  refine ⟨.list (zs.map PyData.str), .list [], .lst h1 dp_strs, dp_nil h2, (shaped_flat fun d hd => ?_).1, rfl, ?_⟩
  · obtain ⟨z, hz, rfl⟩ := List.mem_map.mp hd
    exact ⟨(ha z hz).ok, rfl⟩
  · cases zs with
    | nil => exact k
    | cons n ns => exact k
end
end EE
namespace EE
open PySem PySem.Spec PyProof.Rows L2
/-! ### values of the plain kinds -/
def isStrV : V → Bool | .str _ => true | _ => false
def isBoolV : V → Bool | .bl _ => true | _ => false
def isIntV : V → Bool | .int _ => true | .bl _ => true | _ => false
inductive Th (H : Hp) : V → Prop where
  | non : Th H .non
  | bl (b : Bool) : Th H (.bl b)
  | int (i : Int) : Th H (.int i)
  | str (z : Str) (hl : z.length ≤ 1000) (ha : Asc z) : Th H (.str z)
  | lst {a : Addr} {xs : List V} (h : H a = some (.lst xs)) : Th H (.ref a)
  | tup {a : Addr} {xs : List V} (h : H a = some (.tup xs)) : Th H (.ref a)
  | dK {a : Addr} {kvs : List (Key × V)} (h : H a = some (.dK kvs)) : Th H (.ref a)
theorem Th.ty {K : PySem.W.Frag} {H : Hp} {x : V} (h : Th H x) : ∃ t, TyX K H x (.type t) ∧ kitB t "str" = some (isStrV x) ∧ kitB t "int" = some (isIntV x) ∧ kitB t "bool" = some (isBoolV x) := by
  cases h with
  | non => exact ⟨"NoneType", .base .non, (show kitB "NoneType" "str" = some false by decide +kernel), (show kitB "NoneType" "int" = some false by decide +kernel), (show kitB "NoneType" "bool" = some false by decide +kernel)⟩
  | bl b => exact ⟨"bool", .base (.bl b), (show kitB "bool" "str" = some false by decide +kernel), (show kitB "bool" "int" = some true by decide +kernel), (show kitB "bool" "bool" = some true by decide +kernel)⟩
  | int i => exact ⟨"int", .base (.int i), (show kitB "int" "str" = some false by decide +kernel), (show kitB "int" "int" = some true by decide +kernel), (show kitB "int" "bool" = some false by decide +kernel)⟩
  | str z _ _ => exact ⟨"str", .base (.str z), (show kitB "str" "str" = some true by decide +kernel), (show kitB "str" "int" = some false by decide +kernel), (show kitB "str" "bool" = some false by decide +kernel)⟩
  | lst h => exact ⟨"list", .base (.lst h), (show kitB "list" "str" = some false by decide +kernel), (show kitB "list" "int" = some false by decide +kernel), (show kitB "list" "bool" = some false by decide +kernel)⟩
  | tup h => exact ⟨"tuple", .base (.tup h), (show kitB "tuple" "str" = some false by decide +kernel), (show kitB "tuple" "int" = some false by decide +kernel), (show kitB "tuple" "bool" = some false by decide +kernel)⟩
  | dK h => exact ⟨"dict", .base (.dK h), (show kitB "dict" "str" = some false by decide +kernel), (show kitB "dict" "int" = some false by decide +kernel), (show kitB "dict" "bool" = some false by decide +kernel)⟩
theorem Th.keep {H H' : Hp} {x : V} (h : Th H x) (s : Same H H') : Th H' x := by
  cases h with
  | non => exact .non
  | bl b => exact .bl b
  | int i => exact .int i
  | str z a b => exact .str z a b
  | lst h => exact .lst (s _ _ h)
  | tup h => exact .tup (s _ _ h)
  | dK h => exact .dK (s _ _ h)
def offV (p : Addr) : V → Prop | .ref a => a ≠ p | _ => True
theorem Th.but {H H' : Hp} {p : Addr} {x : V} (h : Th H x) (n : offV p x) (s : But p H H') : Th H' x := by
  cases h with
  | non => exact .non
  | bl b => exact .bl b
  | int i => exact .int i
  | str z a b => exact .str z a b
  | lst h => exact .lst (s _ _ n h)
  | tup h => exact .tup (s _ _ n h)
  | dK h => exact .dK (s _ _ n h)
end EE

namespace EE
open PySem PySem.Spec PyProof.Rows L2
section
variable {A B p : Prop}
theorem rd_yes {σ : L2.St} {H : Hp} {Q : Bool → Hp → Prop} (h : Q true H) : tYes σ H Q := h
theorem iteNT (h : B) : if (!true) = true then A else B := iteF h
theorem iteNF (h : A) : if (!false) = true then A else B := iteT h
theorem rd_dec [Decidable p] (h1 : p → A) (h2 : ¬ p → B) : if decide p = true then A else B := by
  by_cases h : p
  · rw [decide_eq_true h]; exact iteT (h1 h)
  · rw [decide_eq_false h]; exact iteF (h2 h)
theorem rd_decN [Decidable p] (h1 : ¬ p → A) (h2 : p → B) : if (!decide p) = true then A else B := by
  by_cases h : p
  · rw [decide_eq_true h]; exact iteF (h2 h)
  · rw [decide_eq_false h]; exact iteT (h1 h)
theorem filterMap_some {α β : Type} (f : α → β) : ∀ l : List α, l.filterMap (fun a => some (f a)) = l.map f
  | [] => rfl
  | a :: l => by
    rw [List.filterMap_cons, filterMap_some f l]
    rfl
end
end EE
namespace EE
open PySem PySem.Spec PyProof.Rows L2
theorem mixL {x m j : Int} (h : 0 < m) (h2 : m < 2147483648) : CMul (x % m) j := .inl ⟨by have := modLo (x := x) h; omega, by have := modHi (x := x) h; omega⟩
theorem cutV_ints (ns : List Int) (lo hi : Option Int) : cutV (ns.map V.int) lo hi = ((ns.drop (HT.sIx ns.length 0 lo)).take (HT.sIx ns.length ns.length hi - HT.sIx ns.length 0 lo)).map V.int := by
  unfold cutV
  rw [List.length_map, List.map_take, List.map_drop]
theorem len_cutI (ns : List Int) (i j : Nat) : ((ns.drop i).take j).length ≤ ns.length := by
  rw [List.length_take, List.length_drop]
  omega
/-- a new pen for the script -/
def spPen (K : PySem.W.Frag) : Sp := fun vs H Q _ => ∃ (a : Addr) (ns : List Int), vs = [.ref a] ∧ SqL K H a (ns.map V.int) ∧ ns.length ≤ 63 ∧ ∀ p q H', H p = none → Same H H' → PenAt 0 H' p q → Q (.ref p) H'
/-- one of a list's items -/
def spPickL : Sp := fun vs H Q _ => ∃ (p q l : Addr) (xs : List V) (n : Nat), vs = [.ref p, .ref l] ∧ H l = some (.lst xs) ∧ l ≠ p ∧ 0 < xs.length ∧ xs.length ≤ 1000 ∧ n ≤ 1000000 ∧ PenAt n H p q ∧
  ∀ x H', x ∈ xs → But p H H' → PenAt (n + 1) H' p q → Q x H'
end EE

/-! Own layer: calls by keywords alone. -/
namespace EE
open PySem PySem.Spec PyProof.Rows L2
section
variable {X : Cx} {CX : CXT} {k n : Nat} {f C : Addr} {fd : FuncData} {ps ks : List Str} {sp : Sp} {E : XK} {x : Str} {p pos : Pos} {e : Expr} {es : List Expr} {kws : List Keyword} {t tk : TA} {g : List Value → List Value → List Value} {gV : List V → List V → List V}
/-- f(k = v, ..) -/
theorem pe_callN0 (F : FnOk X.prog X.w X.K X.mg X.base CX k f fd ps sp) (hr : Room k X.A) (hg : Gl X x) (hm : X.mg x = some (.ref f)) (hk : PySem.W.keepIn X.K (.ref f) = true) (hb : KBn X.K fd ps 0 ks g gV) (hx : Passes CX X E)
    (hkw : PK X kws tk) (hall : (backToKw pos (keywordEach kws X.env)).all (·.1.isSome) = true := by rfl) (hks : (backToKw pos (keywordEach kws X.env)).filterMap (·.1) = ks := by rfl)
    (hdb : (x == ("__debug__" : Str)) = false := by decide)
    (hpl : ((backTo pos (starEach [] X.env)).any (·.1) || (backToKw pos (keywordEach kws X.env)).any (·.1.isNone)) = false := by rfl) :
    PE X (.Call (.Name x p) [] kws pos) (tCallN 0 ks.length sp gV E tNil tk) := by
  refine ⟨fun pins s σ H Q I h => ?_⟩
  refine wpAny_Call_Name_kw (ld_glob I hg hm ?_ hdb)
  refine PySem.W.callWith_KW0 (h₀ := X.base) I.ok.mod.kin hk hall ?_ hpl
  refine thn (hkw.run pos pins s σ H _ I h) fun ws s2 ⟨zs, H2, I2, rz, l1, l2, q2⟩ => ⟨I2.kIn, ?_⟩
  rw [hks]
  exact run_fnN (us := []) (vs := []) F hr hb hx I2 .nil rz rfl l2 q2
end
section
variable {σ : L2.St} {H : Hp} {Q : VK}
theorem rd_callN {n m : Nat} {sp : Sp} {gV : List V → List V → List V} {E : XK} {t tk : TA} (h : t σ H fun vs H1 => tk σ H1 fun zs H2 => vs.length = n ∧ zs.length = m ∧ sp (gV vs zs) H2 Q E) : tCallN n m sp gV E t tk σ H Q := h
theorem rd_iRng1 {ta : TA} {R : It → Hp → Prop} (h : ta σ H fun vs H1 => ∃ j : Int, vs = [.int j] ∧ -(2 ^ 62) ≤ j ∧ j < 2 ^ 62 ∧ R (Itr 0 j.toNat) H1) : iRng1 ta σ H R := h
theorem rd_iRng2 {ta : TA} {R : It → Hp → Prop} (h : ta σ H fun vs H1 => ∃ i j : Int, vs = [.int i, .int j] ∧ (-(2 ^ 62) ≤ i ∧ i < 2 ^ 62 ∧ -(2 ^ 62) ≤ j ∧ j < 2 ^ 62) ∧ R (Itr i (j - i).toNat) H1) : iRng2 ta σ H R := h
theorem rd_exIs {i : Int} {P : Int → Prop} (h : P i) : ∃ j, [V.int i] = [V.int j] ∧ P j := ⟨i, rfl, h⟩
theorem rd_iList {K : PySem.W.Frag} {te : TE} {R : It → Hp → Prop} (h : te σ H fun x H1 => ∃ a, x = .ref a ∧ (∃ xs, SqL K H1 a xs) ∧ R (Itl K a) H1) : iList K te σ H R := h
theorem rd_iTup {K : PySem.W.Frag} {te : TE} {R : It → Hp → Prop} (h : te σ H fun x H1 => ∃ a, x = .ref a ∧ (∃ xs, SqT K H1 a xs) ∧ R (Itt K a) H1) : iTup K te σ H R := h
theorem rd_exR {a : Addr} {P : Addr → Prop} (h : P a) : ∃ b, V.ref a = V.ref b ∧ P b := ⟨a, rfl, h⟩
/-- an item at a drawn place -/
theorem rd_pickL {K : PySem.W.Frag} {p : Addr} {xs : List V} {d : Int} (h : H p = some (.lst xs)) (d0 : 0 ≤ d) (d1 : d < (xs.length : Nat)) (k : ∀ x, x ∈ xs → Q x H) : rIxL K (.ref p) (.int d) H Q := by
  obtain ⟨j, hj, _, hat⟩ := atI_lt d0 d1
  exact rd_ixL (sqL_of h) hat (k _ (List.getElem_mem hj))
/-- a for loop at its walked thing -/
def ForAt (g : TG) (tb : TS) (D : Ends) (σ : L2.St) (J : It) (H1 : Hp) : Prop := ∃ W : Nat → Nat → L2.St → Hp → Prop, (∃ m, W 0 m σ H1) ∧ ∀ i m σ H, W i m σ H →
  (J.stop i H ∧ D.nx σ H) ∨ (J.go i H ∧ ∃ N : L2.St → Hp → Prop, (∀ σ' H', N σ' H' → ∃ m', m' < m ∧ W (i + 1) m' σ' H') ∧ ∀ x H', J.yld i H x H' → g x σ H' fun σ2 H2 => tb { D with nx := N, ct := N, bk := D.nx } σ2 H2)
theorem rd_for {wi : TI} {g : TG} {tb : TS} {D : Ends} (h : wi σ H (ForAt g tb D σ)) : tFor wi g tb D σ H := h
theorem rd_two {A : Prop} {a b : Nat} (h : A) (ha : a = b := by rfl) {c d : Nat} (hc : c = d := by rfl) : a = b ∧ c = d ∧ A := ⟨ha, hc, h⟩
theorem ent_range {n : Nat} {g : TG} {tt : TT} {te : TE} {vs : List Nat} (Pv : Addr → Nat → Hp → Prop) (h0 : ∀ D, H D = none → Pv D 0 (upd H D (.lst [])))
    (hs : ∀ D i H', H D = none → i < n → Pv D i H' → g (.int (0 + i)) (wipe σ vs) H' fun σ2 H2 => wipe σ2 vs = wipe σ vs ∧ tt σ2 H2 fun b H3 =>
      if b = true then te σ2 H3 fun y H4 => ∃ acc, H4 D = some (.lst acc) ∧ acc.length < sizeLine ∧ Pv D (i + 1) (upd H4 D (.lst (acc ++ [y]))) else Pv D (i + 1) H3)
    (hd : ∀ D H', H D = none → Pv D n H' → Q (.ref D) H') : LcAt g tt te vs σ Q (Itr 0 n) H := fun D hD =>
  lc_range (lo := 0) (Pv D) (h0 D hD) (fun i H' hi I => hs D i H' hD hi I) fun H' I => hd D H' hD I
end
/-- a def that others call: where it stands, its promise -/
structure Cal (P : Program) (w : World) (K : PySem.W.Frag) (mg : Str → Option Value) (base : Heap) (k : Nat) (x : Str) (st : Stmt) (ps : List Str) (sp : Sp) (f : Addr) (fd : FuncData) : Prop where
  F : Fun K x x st f fd
  G : FnOk P w K mg base CX0 k f fd ps sp
  g : mg x = some (.ref f)
  b : Binds K fd ps []
/-- the binding of one keyword to the one parameter -/
theorem kbn_one {K : PySem.W.Frag} {x qual : Str} {st : Stmt} {f : Addr} {fd : FuncData} {p : Str} (F : Fun K x qual st f fd)
    (h : ∀ (kV doc pm : Value) (an : Option Addr) (cdv ct : Value) (u : Value), bindArgs (PySem.W.fnOf x qual (defArgs st) (defBody st) (defScope st) .none kV doc pm an cdv ct) ⟨[], [(p, u)]⟩ = pure [(p, u)]) :
    KBn K fd [p] 0 [p] (fun us ws => us ++ ws) (fun us ws => us ++ ws) := by
  obtain ⟨oc, od, kV, doc, pm, an, cdv, ct, osl, rfl, lk, hcd⟩ := F.ex
  refine ⟨fun s us ws _ l1 l2 => ?_, fun r1 r2 => r1.append r2⟩
  match us, ws, l1, l2 with
  | [], [w], _, _ => exact .of_eq (h kV doc pm an cdv ct w)
end EE

namespace EE
open PySem PySem.Spec PyProof.Rows L2
theorem but_new {D p : Addr} {H H' : Hp} {o : HO} (hD : H D = none) (n : D ≠ p) : But D H' (upd H' D o) := but_upd
/-- a change at an address that was new ahead is no change of what stood there -/
theorem But.grow {D p : Addr} {H0 H : Hp} {o : HO} (hD : H0 D = none) (h : But p H0 H) : But p H0 (upd H D o) := fun b u n e => by
  rw [upd_ne (ne_of_none e hD)]
  exact h b u n e
theorem Same.grow {D : Addr} {H0 H : Hp} {o : HO} (hD : H0 D = none) (h : Same H0 H) : Same H0 (upd H D o) := fun b u e => by
  rw [upd_ne (ne_of_none e hD)]
  exact h b u e
theorem lets_at {d : Int} (d0 : 0 ≤ d) (d1 : d < 26) : ∃ c, atI (Str.ofString "abcdefghijklmnopqrstuvwxyz").cps.toList d = some c ∧ c < 128 := by
  have e : (Str.ofString "abcdefghijklmnopqrstuvwxyz").cps.toList = (List.range 26).map (· + 97) := by decide +kernel
  rw [e]
  unfold atI ixN
  rw [if_pos d0, if_pos (by rw [List.length_map, List.length_range]; exact d1)]
  refine ⟨d.toNat + 97, ?_, by omega⟩
  show ((List.range 26).map (· + 97))[d.toNat]? = _
  rw [List.getElem?_map, List.getElem?_range (by omega)]
  rfl
end EE

namespace EE
open PySem PySem.Spec PyProof.Rows L2
section
variable {K : PySem.W.Frag} {σ : L2.St} {H : Hp} {Q : VK}
theorem rd_dnewK (h : ∀ p H2, H p = none → Same H H2 → H2 p = some (.dK []) → Q (.ref p) H2) : tDNewK σ H Q := fun p hp => h p _ hp (same_new hp) upd_same
/-- a displayed dict behind its pairs -/
def DispAt (p : Addr) (ps : List (V × V)) (H : Hp) (Q : VK) : Prop := H p = some (.dK []) ∧ ∃ kvs : List (Key × V), ps = kvs.map (fun kv => (kV kv.1, kv.2)) ∧ kvs.length ≤ 15 ∧ Q (.ref p) (upd H p (.dK (mergeK [] kvs)))
theorem rd_disp {trs : List (TE × TE)} (h : ∀ p H1, H p = none → Same H H1 → H1 p = some (.dK []) → tPairs trs σ H1 fun ps H2 => DispAt p ps H2 Q) : tDisp trs σ H Q := fun p hp => h p _ hp (same_new hp) upd_same
theorem rd_pnil {R : List (V × V) → Hp → Prop} (h : R [] H) : tPairs [] σ H R := h
theorem rd_pcons {tk tv : TE} {r : List (TE × TE)} {R : List (V × V) → Hp → Prop} (h : tk σ H fun x H1 => tv σ H1 fun y H2 => tPairs r σ H2 fun ps H3 => R ((x, y) :: ps) H3) : tPairs ((tk, tv) :: r) σ H R := h
theorem disp_done {p : Addr} {ps : List (V × V)} (kvs : List (Key × V)) (h : H p = some (.dK [])) (e : ps = kvs.map (fun kv => (kV kv.1, kv.2))) (l : kvs.length ≤ 15) (q : ∀ H3, But p H H3 → H3 p = some (.dK (mergeK [] kvs)) → Q (.ref p) H3) : DispAt p ps H Q := ⟨h, kvs, e, l, q _ but_upd upd_same⟩
theorem _root_.L2.Same.disp {p : Addr} {H H1 H2 : Hp} (n : H p = none) (s : Same H H1) (e : But p H1 H2) : Same H H2 := fun b o h => e _ _ (ne_of_none h n) (s _ _ h)
theorem two_bools (b : Bool) : (PyData.list [.bool b, .bool b]).shown.length ≤ sizeLine := by cases b <;> decide +kernel
theorem dp_two {a : Addr} {b c : Bool} (h : H a = some (.lst [.bl b, .bl c])) : Dp K H (.ref a) (.list [.bool b, .bool c]) := .lst (sqL_of h) (.cons (.bl b) (.cons (.bl c) .nil))
theorem rd_rep {l : Addr} {k : Int} {xs : List V} (h : H l = some (.lst xs)) (k0 : 0 ≤ k) (k1 : k ≤ 1000) (hx : xs.length ≤ 1000) (q : ∀ p H2, H p = none → Same H H2 → H2 p = some (.lst (List.replicate k.toNat xs).flatten) → Q (.ref p) H2) : rRep (.ref l) (.int k) H Q := by
  refine ⟨l, k, xs, rfl, rfl, h, by omega, by omega, ?_, fun p hp => q p _ hp (same_new hp) upd_same⟩
  have : xs.length * k.toNat ≤ 1000 * 1000 := Nat.mul_le_mul hx (by omega)
  exact Nat.le_trans this (by decide)
theorem rd_cat {l b : Addr} {xs zs : List V} (h1 : H l = some (.lst xs)) (h2 : H b = some (.lst zs)) (hl : xs.length + zs.length ≤ 100000) (q : ∀ p H2, H p = none → Same H H2 → H2 p = some (.lst (xs ++ zs)) → Q (.ref p) H2) : rCat (.ref l) (.ref b) H Q :=
  ⟨l, b, xs, zs, rfl, rfl, h1, h2, Nat.le_trans hl (by decide), fun p hp => q p _ hp (same_new hp) upd_same⟩
theorem rd_repr {a : Addr} {d : PyData} (h : Dp K H (.ref a) d) (h1 : d.showable = true) (h2 : d.hasDict = false) (h3 : d.depth ≤ 60) (h4 : d.shown.length ≤ sizeLine) (q : Q (.str d.shown) H) : rReprD K [.ref a] H Q := ⟨a, d, rfl, h, h1, h2, h3, h4, q⟩
theorem rd_eqD {x y : V} {d e : PyData} (h1 : Dp K H x d) (h2 : Dp K H y e) (s1 : SeqAt.shaped d = true) (s2 : SeqAt.shaped e = true) (q : Q (.bl (PyData.eqv d e)) H) : rEqD K x y H Q := ⟨d, e, h1, h2, s1, s2, q⟩
theorem rd_neD {x y : V} {d e : PyData} (h1 : Dp K H x d) (h2 : Dp K H y e) (s1 : SeqAt.shaped d = true) (s2 : SeqAt.shaped e = true) (q : Q (.bl (!PyData.eqv d e)) H) : rNeD K x y H Q := ⟨d, e, h1, h2, s1, s2, q⟩
theorem lcat_tup {g : TG} {tt : TT} {te : TE} {vs : List Nat} {a : Addr} {xs : List V} (F : V → Option V) (hl : xs.length ≤ 1000000) (hx : H a = some (.tup xs))
    (hs : ∀ D i x H', H D = none → xs[i]? = some x → LcI xs F D H i H' → g x (wipe σ vs) H' fun σ2 H2 => wipe σ2 vs = wipe σ vs ∧ tt σ2 H2 fun b H3 =>
      if b = true then te σ2 H3 fun y H4 => ∃ acc, H4 D = some (.lst acc) ∧ acc.length < sizeLine ∧ LcI xs F D H (i + 1) (upd H4 D (.lst (acc ++ [y]))) else LcI xs F D H (i + 1) H3)
    (hd : ∀ D H', H D = none → Same H H' → H' D = some (.lst (xs.filterMap F)) → Q (.ref D) H') : LcAt g tt te vs σ Q (Itt K a) H := fun D hD =>
  lc_tup (K := K) (xs := xs) (LcI xs F D H) (LcI.zero hD) (fun i H' _ I => sqT_of (I.same _ _ hx)) (fun i x H' hc I => hs D i x H' hD hc I) fun H' I => hd D H' hD I.same I.done
theorem lcat_list {g : TG} {tt : TT} {te : TE} {vs : List Nat} {a : Addr} {xs : List V} (F : V → Option V) (hl : xs.length ≤ 1000000) (hx : H a = some (.lst xs))
    (hs : ∀ D i x H', H D = none → xs[i]? = some x → LcI xs F D H i H' → g x (wipe σ vs) H' fun σ2 H2 => wipe σ2 vs = wipe σ vs ∧ tt σ2 H2 fun b H3 =>
      if b = true then te σ2 H3 fun y H4 => ∃ acc, H4 D = some (.lst acc) ∧ acc.length < sizeLine ∧ LcI xs F D H (i + 1) (upd H4 D (.lst (acc ++ [y]))) else LcI xs F D H (i + 1) H3)
    (hd : ∀ D H', H D = none → Same H H' → H' D = some (.lst (xs.filterMap F)) → Q (.ref D) H') : LcAt g tt te vs σ Q (Itl K a) H := fun D hD =>
  lc_list (K := K) (xs := xs) (LcI xs F D H) (LcI.zero hD) (fun i H' _ I => sqL_of (I.same _ _ hx)) (fun i x H' hc I => hs D i x H' hD hc I) fun H' I => hd D H' hD I.same I.done
end
end EE

/-! Own layer: the end of a law whose def has a promise at places where nothing is being shown. -/
namespace EE
open PySem PySem.Spec PyProof.Rows L2
section
variable {P : Program} {w : World} {K : PySem.W.Frag} {mg mb : Str → Option Value} {CX : CXT} {k : Nat} {fa a : Addr} {fd : FuncData} {x : Str} {sp : Sp} {S : Shared} {us : List Value} {ns : List Int}
/-- the heap that tracks the script alone (nothing, if the module holds it) -/
def scrH (K : PySem.W.Frag) (a : Addr) (us : List Value) (ns : List Int) : Hp := fun b => if b = a ∧ K.lookup a = none then some (.frz { cls := .type "list", data := .seq us.toArray } (.lst (ns.map V.int))) else none
theorem scrH_some {b : Addr} {u : HO} (h : scrH K a us ns b = some u) : b = a ∧ K.lookup a = none ∧ u = .frz { cls := .type "list", data := .seq us.toArray } (.lst (ns.map V.int)) := by
  unfold scrH at h
  by_cases c : b = a ∧ K.lookup a = none
  · rw [if_pos c] at h
    exact ⟨c.1, c.2, (Option.some.inj h).symm⟩
  · rw [if_neg c] at h
    cases h
theorem scrH_only : Only (scrH K a us ns) := fun b => by
  cases q : scrH K a us ns b with
  | none => exact Or.inl rfl
  | some u =>
    obtain ⟨_, _, rfl⟩ := scrH_some q
    exact Or.inr ⟨_, _, rfl⟩
theorem end_law (kin : K.In S.heap) (gl : S.heap.Ns mainGlobals mg) (bl : S.heap.Ns builtinsNs mb) (bb : ∀ y : Str, y ≠ "__name__" → mb y = bootBuiltins y) (nol : S.heap.NoLimit) (gens : S.gens = #[])
    (scr : S.heap.get? a = some { cls := .type "list", data := .seq us.toArray }) (are : IntsAre us ns) (few : ns.length ≤ sizeLine) (room : RoomG k callerA)
    (F : ∀ base : Heap, K.In base → base.Ns mainGlobals mg → FnG P w K mg base CX k fa fd [x] sp) (bd : ∀ (t : Shared) (u : Value), BindsTo t fd ⟨[u], []⟩ [(x, u)])
    (hsp : ∀ H : Hp, Only H → SqL K H a (ns.map V.int) → sp [.ref a] H (fun v _ => v = .bl true) fun _ _ _ => False) (out : ∀ H e t, CX [] H S (fun _ _ _ => False) e t → False) :
    codeAny (model P w) callerA (Code.call (Value.ref fa) ⟨[.ref a], []⟩) (fun r t => r = .ok (.ret (.bool true)) ∧ OldK S.heap t.heap ∧ t.os = S.os ∧ AllBare t.gens) S := by
  have rel := vals_ints are
  have lens : us.length = ns.length := are.length
  let H := scrH K a us ns
  have one : ∀ {b : Addr} {u : HO}, H b = some u → b = a ∧ K.lookup a = none ∧ u = .frz { cls := .type "list", data := .seq us.toArray } (.lst (ns.map V.int)) := fun h => scrH_some h
  have ok : HOk P w H S.heap := fun b u h => by
    obtain ⟨rfl, _, rfl⟩ := one h
    exact ⟨scr, (by rw [List.length_map]; exact few), us, 0, rel, scr⟩
  -- dicts are not the script
  have ns_of : ∀ {b : Addr} {m : Str → Option Value}, S.heap.Ns b m → (hidT S.heap H).Ns b m := by
    rintro b m ⟨o, es, ep, e, d, r⟩
    refine ⟨o, es, ep, hidT_get e ?_, d, r⟩
    cases q : H b with
    | none => rfl
    | some u =>
      obtain ⟨rfl, _, _⟩ := one q
      rw [scr] at e
      cases e
      cases (show Data.seq us.toArray _ = Data.dict es ep from d)
  have kin0 : K.In (hidT S.heap H) := fun b o e => hidT_get (kin b o e) (by
    cases q : H b with
    | none => rfl
    | some u =>
      obtain ⟨rfl, nk, _⟩ := one q
      rw [nk] at e
      cases e)
  have gl0 := ns_of gl
  obtain ⟨mc, l1, l2⟩ := nol
  have e0 : Env0 P w K mg (hidT S.heap H) callerA [] S H := by
    refine ⟨rfl, ⟨kin0, gl0, ⟨mb, ns_of bl, bb⟩, ⟨mc, ns_of l1, l2⟩⟩, fun b o e => of_hidT e, ?_, trivial, ?_, ok, AllBare.of_eq gens⟩
    · rw [hidT_size]
      exact Nat.le_refl _
    · intro b hb
      cases (show b ∈ ([] : List Addr) from hb)
  have sq : SqL K H a (ns.map V.int) := by
    cases hk : K.lookup a with
    | none => exact Or.inl (Or.inr ⟨_, if_pos ⟨rfl, hk⟩⟩)
    | some o =>
      have e := kin a o hk
      rw [scr] at e
      cases e
      exact Or.inr ⟨_, us.toArray, _, hk, rfl, rfl, rfl, (by rw [List.size_toArray, lens]; exact few), (by simpa using rel)⟩
  refine codeAny_mono ((F _ kin0 gl0).runs callerA room [] S H ⟨[.ref a], []⟩ [.ref a] [.ref a] _ _ e0 (bd S (.ref a)) (Paired.cons rfl .nil) (hsp H scrH_only sq)) fun r t h => ?_
  match r, h with
  | .error e, h => exact (out H e t h).elim
  | .ok .next, h => exact h.elim
  | .ok .brk, h => exact h.elim
  | .ok .cont, h => exact h.elim
  | .ok (.ret u), ⟨v, H1, os, bare, un, ok1, rv, q⟩ =>
    have q1 : v = .bl true := q
    subst q1
    cases (show u = Value.bool true from rv)
    refine ⟨rfl, OldK.of_keep fun b o e => ?_, os, bare⟩
    cases z : H b with
    | none => exact un.keep b o e z (fun m => nomatch (show b ∈ ([] : List Addr) from m)) (fun m => nomatch m)
    | some u =>
      obtain ⟨rfl, _, rfl⟩ := one z
      obtain ⟨e2, _⟩ := ok1 b _ (un.frzs b _ _ z)
      rw [scr] at e
      cases e
      exact e2
end
/-- the goal that k_head leaves, from the law's promise -/
theorem walk_ofG {l : PySem.W.OpenLaw} {n k : Nat} {q : Program} {loose : List Str} {XP : (Str → Option Value) → Heap → Prop} {YP : World → Heap → Prop} {d : DefRec} {K : Params → PySem.W.Frag} {sp : PySem.W.Frag → Sp} {x : Str}
    (hn : l.most = some n) (hn2 : n ≤ sizeLine) (hdf : d.params.defaults = []) (room : RoomG k callerA) (hY : ∀ (w : World) (h : Heap), YP w h → (K w.params).In h)
    (F : ∀ (w : World) (mg : Str → Option Value) (fa : Addr) (h : Heap), (K w.params).In h → h.Ns mainGlobals mg → mg d.name = some (.ref fa) →
      ∃ fd : FuncData, (∀ (s : Shared) (u : Value), BindsTo s fd ⟨[u], []⟩ [(x, u)]) ∧ ∀ base : Heap, (K w.params).In base → base.Ns mainGlobals mg → FnG l.prog w (K w.params) mg base CX0 k fa fd [x] (sp (K w.params)))
    (hsp : ∀ (K : PySem.W.Frag) (H : Hp) (a : Addr) (ns : List Int), ns.length ≤ n → Only H → SqL K H a (ns.map V.int) → sp K [.ref a] H (fun v _ => v = .bl true) fun _ _ _ => False) :
    PySem.W.WalkO q loose XP YP l.row.toRowW d [] (fun f vs => PySem.call f vs) :=
  Att.attach_call hn hdf fun w s0 s1 mg mb fa o pm cd doc a us ns G Y ho hd hcd hmg hobj hints hlen hg => by
    have kin := hY w _ Y
    obtain ⟨fd, bd, hF⟩ := F w mg fa _ kin G.T.g hmg
    exact end_law kin G.T.g G.T.b G.T.builtins G.T.nolimit hg hobj hints (Nat.le_trans hlen hn2) room hF bd (fun H ho hs => hsp (K w.params) H a ns hlen ho hs) fun _ _ _ z => z
end EE

/-! Own layer: own exceptions as values: made, their fields stored and read, isinstance. -/
namespace EE
open PySem PySem.Spec PyProof.Rows L2
/-- what the written part says of an own exception class, as one test -/
def exB (K : PySem.W.Frag) (C : Addr) (bmB : List Value) (newId : String) : Bool :=
  PySem.W.excInitIn K C bmB newId && (PySem.W.excOver K C bmB && (decide (PySem.W.findIn K (.ref C) "__setattr__" = some (some (.builtin "object.__setattr__"))) && (decide (PySem.W.subIn K (.ref C) (.type "BaseException") = some true) &&
  (decide (PySem.W.typeIn K (.ref C) = some (.type "type")) && (PySem.W.keepIn K (.ref C) && (xfB K C && (decide (PySem.W.findIn K (.ref C) "__class__" = some (some (.builtin "object.__class__"))) &&
  (decide (PySem.W.specialIn K (.builtin "object.__class__") "__get__" = some (some (.builtin "getset_descriptor.__get__"))) && (decide (PySem.W.takesIn K (.builtin "object.__class__") = some true) && decide (PySem.W.mroIn K C (.type "object") = some true))))))))))
/-- an own exception class at C -/
structure ExK (K : PySem.W.Frag) (C : Addr) : Prop where
  ini : ∃ (B newId initId : String) (bmB : List Value), ExcBaseFacts B newId initId bmB ∧ StoreFacts B bmB "object.__setattr__" "object" ∧ PySem.W.excInitIn K C bmB newId = true ∧ PySem.W.excOver K C bmB = true
  sa : PySem.W.findIn K (.ref C) "__setattr__" = some (some (.builtin "object.__setattr__"))
  exC : PySem.W.subIn K (.ref C) (.type "BaseException") = some true
  tyC : PySem.W.typeIn K (.ref C) = some (.type "type")
  kC : PySem.W.keepIn K (.ref C) = true
  xf : XfC K C
  ha : PySem.W.findIn K (.ref C) "__class__" = some (some (.builtin "object.__class__"))
  hn : PySem.W.specialIn K (.builtin "object.__class__") "__get__" = some (some (.builtin "getset_descriptor.__get__"))
  ht : PySem.W.takesIn K (.builtin "object.__class__") = some true
  hm : PySem.W.mroIn K C (.type "object") = some true
theorem exB_ok {K : PySem.W.Frag} {C : Addr} {B newId initId : String} {bmB : List Value} (F : ExcBaseFacts B newId initId bmB) (S : StoreFacts B bmB "object.__setattr__" "object") (h : exB K C bmB newId = true) : ExK K C := by
  obtain ⟨h1, h⟩ := Bool.and_eq_true_iff.mp h
  obtain ⟨h2, h⟩ := Bool.and_eq_true_iff.mp h
  obtain ⟨h3, h⟩ := Bool.and_eq_true_iff.mp h
  obtain ⟨h4, h⟩ := Bool.and_eq_true_iff.mp h
  obtain ⟨h5, h⟩ := Bool.and_eq_true_iff.mp h
  obtain ⟨h6, h⟩ := Bool.and_eq_true_iff.mp h
  obtain ⟨h7, h⟩ := Bool.and_eq_true_iff.mp h
  obtain ⟨h8, h⟩ := Bool.and_eq_true_iff.mp h
  obtain ⟨h9, h⟩ := Bool.and_eq_true_iff.mp h
  obtain ⟨ha, hb⟩ := Bool.and_eq_true_iff.mp h
  exact ⟨⟨B, newId, initId, bmB, F, S, h1, h2⟩, of_decide_eq_true h3, of_decide_eq_true h4, of_decide_eq_true h5, h6, xfB_ok h7, of_decide_eq_true h8, of_decide_eq_true h9, of_decide_eq_true ha, of_decide_eq_true hb⟩
theorem exV {K : PySem.W.Frag} {C : Addr} (h : exB K C [.type "ValueError", .type "Exception", .type "BaseException", .type "object"] "ValueError.__new__" = true) : ExK K C := exB_ok F.excBase_ValueError F.store_ValueError h
theorem exL {K : PySem.W.Frag} {C : Addr} (h : exB K C [.type "LookupError", .type "Exception", .type "BaseException", .type "object"] "LookupError.__new__" = true) : ExK K C := exB_ok F.excBase_LookupError F.store_LookupError h
theorem exO {K : PySem.W.Frag} {C : Addr} (h : exB K C [.type "OverflowError", .type "ArithmeticError", .type "Exception", .type "BaseException", .type "object"] "OverflowError.__new__" = true) : ExK K C := exB_ok F.excBase_OverflowError F.store_OverflowError h
theorem exI {K : PySem.W.Frag} {C : Addr} (h : exB K C [.type "IndexError", .type "LookupError", .type "Exception", .type "BaseException", .type "object"] "IndexError.__new__" = true) : ExK K C := exB_ok F.excBase_IndexError F.store_IndexError h
/-! ### the store `self.f = v` -/
section
variable {X : Cx} {pins : List (Addr × Obj)} {σ : L2.St} {H : Hp} {s : Shared} {a C dx : Addr} {f : Str} {y : V} {u : Value} {fs : List (Str × V)} {Q : Unit → Shared → Prop} {E : Value → Shared → Prop} {A : Around}
theorem taker_none {K : PySem.W.Frag} (h : PySem.W.findIn K (.ref C) f = some none) : PySem.W.takerIn K C f = some none := by
  unfold PySem.W.takerIn
  rw [h]
  rfl
theorem st_new (T : ExK X.K C) (I : Inv X pins σ H s) (e : H a = some (exo a C none)) (hno : PySem.W.findIn X.K (.ref C) f = some none) (ry : RelV y u)
    (h : ∀ (dx : Addr) (H' : Hp) s', H dx = none → dx ≠ a → H' a = some (exo a C (some dx)) → H' dx = some (exd dx [(f, y)]) → (∀ b, b ≠ a → b ≠ dx → H' b = H b) → Inv X pins σ H' s' → Q () s') : wpAny (model X.prog X.w) A (setAttr (.ref a) f u) Q E s := by
  obtain ⟨B, newId, initId, bmB, FB, SF, q1, q2⟩ := T.ini
  obtain ⟨cd, hcd, hh⟩ := PySem.W.any_some T.xf.hdC
  obtain ⟨t1, ho⟩ := exo_at I.hok e
  refine PySem.W.set_plain I.kIn (ox := { cls := .ref C, dict := none, data := .fields #[.ref t1, .none, .none, .none, .bool false, .none] }) (od := none) ⟨ho, rfl, rfl, trivial⟩ T.sa ?_
  refine PySem.W.osa_openX (s := { s with toks := s.toks + 1 }) (od := none) SF I.kIn ⟨ho, rfl, rfl, trivial⟩ q2 (taker_none hno) fun b => ?_
  have hxs : a < s.heap.objs.size := Heap.lt_size ho
  have hnd : H s.heap.objs.size = none := I.hok.fresh (Nat.le_refl _)
  refine wpAny_bind (wpAny_pure (wpAny_bind (PySem.W.instanceDict_exc ho (PySem.W.looks_clsIn I.kIn hcd) hh ?_)))
  have hx1 : (s.heap.push (PySem.W.dictOf [] 0)).get? a = some { cls := .ref C, dict := none, data := .fields #[.ref t1, .none, .none, .none, .bool false, .none] } := Heap.get?_push_of_some _ ho
  have hx2 := Heap.get?_update_self (fun o : Obj => { o with dict := some s.heap.objs.size }) hx1 rfl
  have hd1 : (s.heap.push (PySem.W.dictOf [] 0)).get? s.heap.objs.size = some (PySem.W.dictOf [] 0) := Heap.get?_push_size _ rfl
  have ne : s.heap.objs.size ≠ a := Nat.ne_of_gt hxs
  have hd2 : ((s.heap.push (PySem.W.dictOf [] 0)).update a fun o => { o with dict := some s.heap.objs.size }).get? s.heap.objs.size = some (PySem.W.dictOf [] 0) := (Heap.get?_update_ne _ _ _ _ ne).trans hd1
  have hns : ∀ {h : Heap}, h.get? s.heap.objs.size = some (PySem.W.dictOf [] 0) → h.Ns s.heap.objs.size (fun _ => none) := fun hd => ⟨_, #[], _, hd, rfl, fun e he => absurd he (by simp), fun _ => rfl⟩
  have I1 := I.laid (t' := s.toks + 1) (a := s.heap.objs.size) (o := exd s.heap.objs.size []) (h' := s.heap.push (PySem.W.dictOf [] 0)) (fun b o z => Heap.get?_push_of_some _ z) (Nat.le_refl _) (exd_ok (Heap.Ns1.of_empty (hns hd1)) fun g => True.intro)
  have e1 : upd H s.heap.objs.size (exd s.heap.objs.size []) a = some (exo a C none) := (upd_ne (Ne.symm ne)).trans e
  have I2 := I1.write (t' := s.toks + 1) (x := a) (e := a) (o := exo a C (some s.heap.objs.size)) (h' := (s.heap.push (PySem.W.dictOf [] 0)).update a fun o => { o with dict := some s.heap.objs.size }) (by rw [e1]; exact True.intro) (.inl rfl) (fun b o hb z => (Heap.get?_update_ne _ _ _ _ hb).trans z) ⟨_, hx2⟩ (exo_ok hx2)
  refine PySem.HandSPX.store_in_new (hns hd2) fun h' tk' hn' hs => ?_
  have ed : upd (upd H s.heap.objs.size (exd s.heap.objs.size [])) a (exo a C (some s.heap.objs.size)) s.heap.objs.size = some (exd s.heap.objs.size []) := (upd_ne ne).trans upd_same
  have I3 := I2.write (t' := tk') (x := s.heap.objs.size) (e := s.heap.objs.size) (o := exd s.heap.objs.size [(f, y)]) (h' := h') (by rw [ed]; exact True.intro) (.inl rfl) (fun b o hb z => (hs.2 b hb).trans z) (by obtain ⟨o, _, _, z, _⟩ := hn'; exact ⟨o, z⟩) (exd_ok hn' (relO_put (fs := []) ry fun g => True.intro))
  exact h _ _ _ hnd ne ((upd_ne (Ne.symm ne)).trans upd_same) upd_same (fun b n1 n2 => (upd_ne n2).trans ((upd_ne n1).trans (upd_ne n2))) I3
theorem st_old (T : ExK X.K C) (I : Inv X pins σ H s) (e : H a = some (exo a C (some dx))) (ed : H dx = some (exd dx fs)) (hl : fs.length ≤ 900) (hno : PySem.W.findIn X.K (.ref C) f = some none) (ry : RelV y u)
    (h : ∀ s', Inv X pins σ (upd H dx (exd dx ((f, y) :: fs))) s' → Q () s') : wpAny (model X.prog X.w) A (setAttr (.ref a) f u) Q E s := by
  obtain ⟨B, newId, initId, bmB, FB, SF, q1, q2⟩ := T.ini
  obtain ⟨cd, hcd, hh⟩ := PySem.W.any_some T.xf.hdC
  obtain ⟨t1, ho⟩ := exo_at I.hok e
  obtain ⟨mA, hns, rel⟩ := exd_at I.hok ed
  have hw := within_of rel
  obtain ⟨oD, _, _, hoD, _, _⟩ := hns.count hw
  refine PySem.W.set_plain I.kIn (ox := { cls := .ref C, dict := some dx, data := .fields #[.ref t1, .none, .none, .none, .bool false, .none] }) (od := some oD) ⟨ho, rfl, rfl, hoD⟩ T.sa ?_
  refine PySem.W.osa_openX (s := { s with toks := s.toks + 1 }) (od := some oD) SF I.kIn ⟨ho, rfl, rfl, hoD⟩ q2 (taker_none hno) fun b => ?_
  refine wpAny_bind (wpAny_pure (wpAny_bind (wpAny_bind (wpAny_loadPart ho (wpAny_bind ((PySem.W.looks_clsIn I.kIn hcd).at ?_))))))
  rw [hh]
  refine wpAny_pure (a := some dx) ?_
  refine PySem.OEX.store_in_old hns hw (by rw [List.length_map]; omega) fun h' tk' hn' hs => ?_
  exact h _ (I.write (t' := tk') (x := dx) (e := dx) (o := exd dx ((f, y) :: fs)) (by rw [ed]; exact True.intro) (.inl rfl) (fun b o hb z => (hs.2 b hb).trans z) (by obtain ⟨o, _, _, z, _⟩ := hn'; exact ⟨o, z⟩) (exd_ok hn' (relO_put ry rel)))
end
/-- `self.f = e` on an exception that is being made -/
def tStX (K : PySem.W.Frag) (f : Str) (to te : TE) : TS := fun D σ H => te σ H fun y H1 => to σ H1 fun x H2 => ∃ a C : Addr, x = .ref a ∧ ExK K C ∧ PySem.W.findIn K (.ref C) f = some none ∧
  ((H2 a = some (exo a C none) ∧ ∀ dx H', H2 dx = none → dx ≠ a → H' a = some (exo a C (some dx)) → H' dx = some (exd dx [(f, y)]) → (∀ b, b ≠ a → b ≠ dx → H' b = H2 b) → D.nx σ H') ∨
    ∃ (dx : Addr) (fs : List (Str × V)), H2 a = some (exo a C (some dx)) ∧ H2 dx = some (exd dx fs) ∧ fs.length ≤ 900 ∧ D.nx σ (upd H2 dx (exd dx ((f, y) :: fs))))
theorem ps_stx {X : Cx} {o e : Expr} {to te : TE} {f : Str} {p' pos : Pos} (ho : PE X o to) (he : PE X e te) (hs : swapsWith e (some (.Attribute o f p')) pos.line X.env = pure false := by rfl) : PS X (.Assign [.Attribute o f p'] e pos) (tStX X.K f to te) := by
  refine ⟨fun pins s σ H D I h => plainObj_wpAny_Assign_Attribute (thn (he.run pins s σ H _ I h) fun v s1 ⟨y, H1, I1, r1, z1⟩ => thn (ho.run pins s1 σ H1 _ I1 z1) fun u s2 ⟨x, H2, I2, r2, a, C, ex, T, hno, z⟩ => ?_) hs⟩
  subst ex
  obtain rfl : u = Value.ref a := r2
  rcases z with ⟨ea, z⟩ | ⟨dx, fs, ea, ed, hl, z⟩
  · exact st_new T I2 ea hno r1 fun dx H' s' n ne e1 e2 e3 J => ⟨σ, _, J, z dx H' n ne e1 e2 e3⟩
  · exact st_old T I2 ea ed hl hno r1 fun s' J => ⟨σ, _, J, z⟩
end EE
namespace EE
open PySem PySem.Spec
section
variable {prog : Program} {w : World} {M : Model} {A : Around} {E : Value → Shared → Prop} {R : Result → Shared → Prop} {h : Heap} {gs : Array GenState} {dn : Drawn} {tk : Nat} {os : OsState}
variable {nm qn : Str} {C N : Addr} {bs bm bmB : List Value} {hdct : Bool} {sn : List Str} {sub : List Value} {ab : Bool} {col : Option Bool} {dd : Option Addr} {k0 k1 k2 k3 k5 : Option Value} {B newId initId : String} {kws : List (Str × Value)}
theorem kw_check (FB : ExcBaseFacts B newId initId bmB) (hT : ∀ X : String, bm.contains (.type X) = bmB.contains (.type X)) {Q : Unit → Shared → Prop}
    (hC : h.get? C = some (excClassObj nm qn C N bs bm hdct sn sub ab col dd k0 k1 k2 k3 k5 newId)) (done : Q () ⟨h, gs, dn, tk, os⟩) : wpAny M A (checkBuiltinCall newId ⟨[.ref C], kws⟩) Q E ⟨h, gs, dn, tk, os⟩ := by
  have star := FB.noStar
  have hB : (Value.ref C :: bm).contains (.type B) = true := by rw [List.contains_cons, hT, FB.hasB, Bool.or_true]
  simp only [checkBuiltinCall, FB.newKind, FB.newSplit, FB.newRow]
  repeat (first | refine wpAny_loadPart_at hC ?_ | (refine wpAny_isSubtype_exc hC ?_; rw [hB]) | refine wpAny_staticBase_exc hC ?_ | refine wpAny_madeBy_exc hC ?_ | simp only [bne_self_eq_false, Bool.false_eq_true, if_false] | wp_step)
  exact done
theorem kw_new (FB : ExcBaseFacts B newId initId bmB) (hT : ∀ X : String, bm.contains (.type X) = bmB.contains (.type X))
    (hC : h.get? C = some (excClassObj nm qn C N bs bm hdct sn sub ab col dd k0 k1 k2 k3 k5 newId))
    (done : R (.ok (.ret (.ref (h.objs.size + 1)))) ⟨(h.push (PySem.W.kdv_tup [])).push (PySem.HandSPX.excO C h.objs.size), gs, dn, tk, os⟩) :
    codeAny (model prog w) A (.builtin newId ⟨[.ref C], kws⟩) R ⟨h, gs, dn, tk, os⟩ := by
  have ends := FB.ends
  have hB : (Value.ref C :: bm).contains (.type B) = true := by rw [List.contains_cons, hT, FB.hasB, Bool.or_true]
  have hA : (Value.ref C :: bm).contains (.type "AttributeError") = false := by rw [List.contains_cons, hT, FB.noAttr]; rfl
  have hN : (Value.ref C :: bm).contains (.type "NameError") = false := by rw [List.contains_cons, hT, FB.noName]; rfl
  refine codeAny_builtinAt FB.entry ?_
  unfold Builtin.«BaseException.__new__»
  refine wpAt_bind ?_
  show wpAt _ _ _ (stack >>= _) _ _ _
  refine wpAt_bind (wpAt_stack fun p below => wpAt_of_wpAny ?_)
  wp_walk
  refine wpAt_of_wpAny ?_
  rw [FB.owner]
  repeat (first | with_reducible refine wpAny_madeHere_exc FB.canon hC ?_ | with_reducible refine wpAny_loadPart_at hC ?_ | (with_reducible refine wpAny_isSubtype_exc hC ?_; first | rw [hB] | rw [hA] | rw [hN]) | wp_step)
  show R _ _
  rw [Heap.size_push]
  exact done
theorem kw_type_call (FB : ExcBaseFacts B newId initId bmB) (hT : ∀ X : String, bm.contains (.type X) = bmB.contains (.type X)) {fI : Addr} {Q : Fin → Shared → Prop}
    (hC : h.get? C = some (excClassObj nm qn C N bs bm hdct sn sub ab col dd k0 k1 k2 k3 k5 newId))
    (li : PySem.W.Looks (model prog w) h (typeLookup (.ref C) "__init__") (some (.ref fI))) (lb : ∀ self, PySem.W.Looks (model prog w) h (bindSpecial (.ref fI) self) (.ref fI, [self]))
    (go : codeAny (model prog w) A (.call (.ref fI) ⟨[.ref (h.objs.size + 1)], kws⟩)
      (fun r s' => match r with | .ok (.ret v) => v = .none ∧ Q (.done (.ret (.ref (h.objs.size + 1)))) s' | .ok _ => False | .error e => E e s') ⟨(h.push (PySem.W.kdv_tup [])).push (PySem.HandSPX.excO C h.objs.size), gs, dn, tk, os⟩) :
    wpAny (model prog w) A (Builtin.«type.__call__» ⟨[.ref C], kws⟩) Q E ⟨h, gs, dn, tk, os⟩ := by
  repeat (first | with_reducible refine wpAny_loadPart_at hC ?_ | with_reducible refine wpAny_madeBy_exc hC ?_ | wp_step)
  refine codeAny_call_builtin_code (Code.quiet_builtin _ FB.quiet) (kw_check FB hT hC ?_)
  refine kw_new FB hT hC ?_
  show wpAny _ _ _ _ _ _
  have kp : ∀ b o, h.get? b = some o → ((h.push (PySem.W.kdv_tup [])).push (PySem.HandSPX.excO C h.objs.size)).get? b = some o := fun b o e => Heap.get?_push_of_some _ (Heap.get?_push_of_some _ e)
  have hC1 := kp _ _ hC
  have hx : ((h.push (PySem.W.kdv_tup [])).push (PySem.HandSPX.excO C h.objs.size)).get? (h.objs.size + 1) = some (PySem.HandSPX.excO C h.objs.size) := by heap_get
  have hCC : (Value.ref C :: bm).contains (.ref C) = true := by simp
  have i1 := li.keeps kp
  have b1 := (lb (.ref (h.objs.size + 1))).keeps kp
  unfold isInstance
  repeat (first | with_reducible refine wpAny_loadPart_at hx ?_ | (with_reducible refine wpAny_isSubtype_exc hC1 ?_; rw [hCC]) | wp_step)
  show wpAny _ _ (typeLookup (.ref C) _) _ _ _
  refine i1.at ?_
  refine wpAny_holding (wpAny_bind (b1.at ?_))
  refine wpAny_bind (wpAny_call (codeAny_mono go fun r s' z => ?_))
  rcases r with e | (v | _ | _ | _) <;> first | exact z | exact z.elim | skip
  obtain ⟨rfl, z⟩ := z
  first
    | exact wpAny_pure (wpAny_pure z)
    | (wp_walk; exact z)
theorem kw_call (FB : ExcBaseFacts B newId initId bmB) (hT : ∀ X : String, bm.contains (.type X) = bmB.contains (.type X)) {fI : Addr}
    (hC : h.get? C = some (excClassObj nm qn C N bs bm hdct sn sub ab col dd k0 k1 k2 k3 k5 newId))
    (li : PySem.W.Looks (model prog w) h (typeLookup (.ref C) "__init__") (some (.ref fI))) (lb : ∀ self, PySem.W.Looks (model prog w) h (bindSpecial (.ref fI) self) (.ref fI, [self]))
    (go : codeAny (model prog w) (A.under (.builtin "type.__call__" ⟨[.ref C], kws⟩)) (.call (.ref fI) ⟨[.ref (h.objs.size + 1)], kws⟩) (PySem.W.InitBack (h.objs.size + 1) R) ⟨(h.push (PySem.W.kdv_tup [])).push (PySem.HandSPX.excO C h.objs.size), gs, dn, tk, os⟩) :
    codeAny (model prog w) A (.call (.ref C) ⟨[], kws⟩) R ⟨h, gs, dn, tk, os⟩ := by
  have f1 := PySem.tc_lookup
  have f2 := PySem.tc_bind (.ref C)
  have isT : (⟨h, gs, dn, tk, os⟩ : Shared).TypeIs (.ref C) "type" := ⟨_, hC, rfl⟩
  refine codeAny_of_tree ?_
  show wpAny _ _ (callAny (.ref C) _) _ _ _
  repeat (any_goals (first | assumption | with_reducible refine wpAny_loadPart_at hC ?_ | wp_step))
  refine ⟨rfl, ?_⟩
  refine codeAny_call_builtin_at (Code.quiet_builtin _ (by decide +kernel)) PySem.entry_typeCall (wpAny_check_type_call_sub hC (kw_type_call FB hT hC li lb ?_))
  refine codeAny_mono go fun r s' z => ?_
  rcases r with e | (v | _ | _ | _) <;> exact z
end
end EE
namespace EE
open PySem PySem.Spec PyProof.Rows L2
/-- what stands at an exception that was made: its class, its fields -/
def ExV (H : Hp) (C : Addr) (v : V) (fs : List (Str × V)) : Prop := ∃ a dx : Addr, v = .ref a ∧ H a = some (exo a C (some dx)) ∧ H dx = some (exd dx fs)
/-- one that was made of no fields -/
def ExN (H : Hp) (C : Addr) (v : V) : Prop := ∃ a : Addr, v = .ref a ∧ H a = some (exo a C none)
theorem ExV.keep {H H' : Hp} {C : Addr} {v : V} {fs : List (Str × V)} (h : ExV H C v fs) (s : Same H H') : ExV H' C v fs := by
  obtain ⟨a, dx, e, e1, e2⟩ := h
  exact ⟨a, dx, e, s _ _ e1, s _ _ e2⟩
theorem ExN.keep {H H' : Hp} {C : Addr} {v : V} (h : ExN H C v) (s : Same H H') : ExN H' C v := by
  obtain ⟨a, e, e1⟩ := h
  exact ⟨a, e, s _ _ e1⟩
theorem ExV.but {H H' : Hp} {C p : Addr} {v : V} {fs : List (Str × V)} {xs : List V} (h : ExV H C v fs) (hp : H p = some (.lst xs)) (s : But p H H') : ExV H' C v fs := by
  obtain ⟨a, dx, e, e1, e2⟩ := h
  have n1 : a ≠ p := fun z => by
    rw [z, hp] at e1
    cases (show HO.lst xs = HO.ext _ from Option.some.inj e1)
  have n2 : dx ≠ p := fun z => by
    rw [z, hp] at e2
    cases (show HO.lst xs = HO.ext _ from Option.some.inj e2)
  exact ⟨a, dx, e, s _ _ n1 e1, s _ _ n2 e2⟩
/-- C(e, ..), the exception a value; sp is what its __init__ promises -/
def tMkV (C : Addr) (sp : Sp) (ta : TA) : TE := fun σ H Q => ta σ H fun vs H1 => vs.length ≤ 1000 ∧ ∀ a, H1 a = none → sp (.ref a :: vs) (upd H1 a (exo a C none)) (fun v H2 => v = .non ∧ Q (.ref a) H2) (fun _ _ _ => False)
/-- C(k = v, ..), likewise -/
def tMkN (C : Addr) (n : Nat) (sp : Sp) (gV : List V → List V → List V) (tk : TA) : TE := fun σ H Q => tk σ H fun zs H1 => zs.length = n ∧ ∀ a, H1 a = none → sp (gV [.ref a] zs) (upd H1 a (exo a C none)) (fun v H2 => v = .non ∧ Q (.ref a) H2) (fun _ _ _ => False)
/-- C(), no __init__ of its own -/
def tMk0 (C : Addr) : TE := fun σ H Q => ∀ a, H a = none → Q (.ref a) (upd H a (exo a C none))
section
variable {X : Cx} {CX : CXT} {x : Str} {C fI : Addr} {k : Nat} {fd : FuncData} {ps ks : List Str} {sp : Sp} {e : Expr} {es : List Expr} {kws : List Keyword} {ta tk : TA} {p pos : Pos} {g : List Value → List Value → List Value} {gV : List V → List V → List V}
theorem init_of {K : PySem.W.Frag} {h : Heap} {C : Addr} (T : ExK K C) (X : K.In h) : ∃ (B newId initId : String) (bmB : List Value) (nm : Str) (N : Addr) (qn : Str) (bs bm : List Value) (hdct : Bool) (sn : List Str) (sub : List Value) (ab : Bool) (col : Option Bool) (dd : Option Addr) (k0 k1 k2 k3 k5 : Option Value),
    ExcBaseFacts B newId initId bmB ∧ h.get? C = some (excClassObj nm qn C N bs bm hdct sn sub ab col dd k0 k1 k2 k3 k5 newId) ∧ ∀ X : String, bm.contains (.type X) = bmB.contains (.type X) := by
  obtain ⟨B, newId, initId, bmB, FB, SF, q1, q2⟩ := T.ini
  obtain ⟨nm, N, qn, bs, bm, hdct, sn, sub, ab, col, dd, k0, k1, k2, k3, k5, hC, hT⟩ := PySem.W.excInit_of X q1
  exact ⟨B, newId, initId, bmB, nm, N, qn, bs, bm, hdct, sn, sub, ab, col, dd, k0, k1, k2, k3, k5, FB, hC, hT⟩
theorem pe_mkV (T : ExK X.K C) (iC : PySem.W.findIn X.K (.ref C) "__init__" = some (some (.ref fI))) (tI : PySem.W.typeIn X.K (.ref fI) = some (.type "function"))
    (FI : FnOk X.prog X.w X.K X.mg X.base CX k fI fd ps sp) (hr : Room (k + 1) X.A) (hb : Binds X.K fd ps []) (hx : Passes CX X (fun _ _ _ => False)) (hg : Gl X x) (hm : X.mg x = some (.ref C)) (ha : PA X (e :: es) ta)
    (ndb : (x == ("__debug__" : Str)) = false := by decide) (hst : starEach (e :: es) X.env = (false, eval e X.env) :: starEach es X.env := by rfl) (plain : (backTo pos (starEach es X.env)).any (·.1) = false := by rfl) :
    PE X (.Call (.Name x p) (e :: es) [] pos) (tMkV C sp ta) := by
  refine ⟨fun pins s σ H Q I h => wpAny_Call_Name_kw (ld_glob I hg hm ?_ ndb)⟩
  refine PySem.W.callWith_K (h₀ := X.base) I.ok.mod.kin T.kC (thn (ha.run pos pins s σ H _ I h) fun us s1 ⟨vs, H1, I1, r1, hz, q1⟩ => ⟨I1.kIn, ?_⟩) hst plain
  obtain ⟨B, newId, initId, bmB, nm, N, qn, bs, bm, hdct, sn, sub, ab, col, dd, k0, k1, k2, k3, k5, FB, hC, hT⟩ := init_of T I1.kIn
  obtain ⟨hp, gs, dn, tk, os⟩ := s1
  have up : hp.objs.size ≤ hp.objs.size + 1 := Nat.le_succ _
  have q2 := q1 (hp.objs.size + 1) (I1.hok.fresh up)
  have I2 := I1.laid (t' := tk) (a := hp.objs.size + 1) (o := exo (hp.objs.size + 1) C none) (h' := (hp.push (PySem.W.kdv_tup us)).push (PySem.HandSPX.excO C hp.objs.size)) (fun b o z => Heap.get?_push_of_some _ (Heap.get?_push_of_some _ z)) up (exo_ok (t1 := hp.objs.size) (by heap_get))
  have r2 : Vals (V.ref (hp.objs.size + 1) :: vs) (Value.ref (hp.objs.size + 1) :: us) := .cons rfl r1
  have ln : (Value.ref (hp.objs.size + 1) :: us ++ []).length = ps.length := by rw [List.append_nil, ← r2.length, FI.len _ _ _ _ q2]
  have few : us.length ≤ sizeLine := Nat.le_trans (Nat.le_of_eq r1.length.symm) (Nat.le_trans hz (by decide))
  have bd := hb _ (Value.ref (hp.objs.size + 1) :: us) I2.kIn ln
  rw [List.append_nil] at bd
  refine wpAny_call (PySem.HandSPX.call_own FB hT hC (PySem.W.looks_findIn I1.kIn iC) (fun self => PySem.W.bind_fn I1.kIn self tI) few (codeAny_mono (FI.run _ X.stack _ _ ⟨Value.ref (hp.objs.size + 1) :: us, []⟩ _ _ _ _ (hr.make C us []) (I2.env0.make C us []) bd r2 q2) fun r s' z => ?_))
  match r, z with
  | .error er, z => exact hx pins σ _ _ er s' I2 z
  | .ok (.ret u), z =>
    obtain ⟨v, H2, J, rv, ev, q⟩ := I2.after z
    subst ev
    exact ⟨rv, .ref (hp.objs.size + 1), H2, J, rfl, q⟩
  | .ok .next, z => exact z.elim
  | .ok .brk, z => exact z.elim
  | .ok .cont, z => exact z.elim
theorem pe_mkN (T : ExK X.K C) (iC : PySem.W.findIn X.K (.ref C) "__init__" = some (some (.ref fI))) (tI : PySem.W.typeIn X.K (.ref fI) = some (.type "function"))
    (FI : FnOk X.prog X.w X.K X.mg X.base CX k fI fd ps sp) (hr : Room (k + 1) X.A) (hb : KBn X.K fd ps 1 ks g gV) (hx : Passes CX X (fun _ _ _ => False)) (hg : Gl X x) (hm : X.mg x = some (.ref C))
    (hkw : PK X kws tk) (hall : (backToKw pos (keywordEach kws X.env)).all (·.1.isSome) = true := by rfl) (hks : (backToKw pos (keywordEach kws X.env)).filterMap (·.1) = ks := by rfl)
    (ndb : (x == ("__debug__" : Str)) = false := by decide) (plain : ((backTo pos (starEach [] X.env)).any (·.1) || (backToKw pos (keywordEach kws X.env)).any (·.1.isNone)) = false := by rfl) :
    PE X (.Call (.Name x p) [] kws pos) (tMkN C ks.length sp gV tk) := by
  refine ⟨fun pins s σ H Q I h => wpAny_Call_Name_kw (ld_glob I hg hm ?_ ndb)⟩
  refine PySem.W.callWith_KW0 (h₀ := X.base) I.ok.mod.kin T.kC hall (thn (hkw.run pos pins s σ H _ I h) fun us s1 ⟨vs, H1, I1, r1, hz, q1⟩ => ⟨I1.kIn, ?_⟩) plain
  rw [hks]
  obtain ⟨B, newId, initId, bmB, nm, N, qn, bs, bm, hdct, sn, sub, ab, col, dd, k0, k1, k2, k3, k5, FB, hC, hT⟩ := init_of T I1.kIn
  obtain ⟨hp, gs, dn, tk, os⟩ := s1
  have up : hp.objs.size ≤ hp.objs.size + 1 := Nat.le_succ _
  have q2 := q1 (hp.objs.size + 1) (I1.hok.fresh up)
  have I2 := I1.laid (t' := tk) (a := hp.objs.size + 1) (o := exo (hp.objs.size + 1) C none) (h' := (hp.push (PySem.W.kdv_tup [])).push (PySem.HandSPX.excO C hp.objs.size)) (fun b o z => Heap.get?_push_of_some _ (Heap.get?_push_of_some _ z)) up (exo_ok (t1 := hp.objs.size) (by heap_get))
  have r2 := hb.rel (vs := [V.ref (hp.objs.size + 1)]) (us := [Value.ref (hp.objs.size + 1)]) (.cons rfl .nil) r1
  have bd := hb.to ⟨(hp.push (PySem.W.kdv_tup [])).push (PySem.HandSPX.excO C hp.objs.size), gs, dn, tk, os⟩ [Value.ref (hp.objs.size + 1)] us I2.kIn rfl (r1.length.symm.trans hz)
  refine wpAny_call (kw_call FB hT hC (PySem.W.looks_findIn I1.kIn iC) (fun self => PySem.W.bind_fn I1.kIn self tI) (codeAny_mono (FI.run _ X.stack _ _ ⟨[Value.ref (hp.objs.size + 1)], ks.zip us⟩ _ _ _ _ (hr.make C [] _) (I2.env0.make C [] _) bd r2 q2) fun r s' z => ?_))
  match r, z with
  | .error er, z => exact hx pins σ _ _ er s' I2 z
  | .ok (.ret u), z =>
    obtain ⟨v, H2, J, rv, ev, q⟩ := I2.after z
    subst ev
    exact ⟨rv, .ref (hp.objs.size + 1), H2, J, rfl, q⟩
  | .ok .next, z => exact z.elim
  | .ok .brk, z => exact z.elim
  | .ok .cont, z => exact z.elim
end
end EE

/-! Own layer: repr of data with dicts in it. -/
namespace EE
open PySem PySem.Spec PyProof.Rows L2

def keyD : Key → PyData | .inl i => .int i | .inr x => .str x
mutual
/-- v reads as d: dicts of texts and ints too -/
inductive Dq (K : PySem.W.Frag) (H : Hp) : V → PyData → Prop
  | non : Dq K H .non .none
  | bl (b : Bool) : Dq K H (.bl b) (.bool b)
  | int (i : Int) : Dq K H (.int i) (.int i)
  | str (x : Str) : Dq K H (.str x) (.str x)
  | lst {a : Addr} {xs : List V} {ds : List PyData} : SqL K H a xs → DqAll K H xs ds → Dq K H (.ref a) (.list ds)
  | tup {a : Addr} {xs : List V} {ds : List PyData} : SqT K H a xs → DqAll K H xs ds → Dq K H (.ref a) (.tuple ds)
  | dK {a : Addr} {kvs : List (Key × V)} {ds : List PyData} : H a = some (.dK kvs) → DqAll K H (kvs.map (·.2)) ds → Dq K H (.ref a) (.dict (List.zip (kvs.map fun p => keyD p.1) ds))
inductive DqAll (K : PySem.W.Frag) (H : Hp) : List V → List PyData → Prop
  | nil : DqAll K H [] []
  | cons {v : V} {vs : List V} {d : PyData} {ds : List PyData} : Dq K H v d → DqAll K H vs ds → DqAll K H (v :: vs) (d :: ds)
end
theorem DqAll.len {K : PySem.W.Frag} {H : Hp} : ∀ {vs : List V} {ds : List PyData}, DqAll K H vs ds → vs.length = ds.length
  | [], _, h => by cases h; rfl
  | _ :: vs, _, h => by
    cases h with
    | cons _ t => rw [List.length_cons, List.length_cons, DqAll.len t]
section
variable {P : Program} {w : World} {h0 : Heap}
def Shown (P : Program) (w : World) (h0 : Heap) (u : Value) (d : PyData) : Prop := ∃ as bs, Reads h0 u d as ∧ ReadAtMost h0 d.depth bs ∧ ReprK P w bs h0 d.depth u d.shown
def ShownAll (P : Program) (w : World) (h0 : Heap) (us : List Value) (ds : List PyData) : Prop := ∃ as bs, ReadsAll h0 us ds as ∧ ReadAtMost h0 (PyData.depthAll ds) bs ∧ ReprAllK P w bs h0 (PyData.depthAll ds) us (PyData.shownAll ds)
theorem ShownAll.nil : ShownAll P w h0 [] [] := ⟨[], [], .nil, (fun _ z => nomatch z), by simp only [PyData.shownAll]; exact .nil⟩
theorem ShownAll.cons {u : Value} {us : List Value} {d : PyData} {ds : List PyData} (h : Shown P w h0 u d) (t : ShownAll P w h0 us ds) : ShownAll P w h0 (u :: us) (d :: ds) := by
  obtain ⟨as, b1, r, m1, k1⟩ := h
  obtain ⟨cs, b2, rs, m2, k2⟩ := t
  refine ⟨as ++ cs, b1 ++ b2, .cons r rs, (m1.mono (m := PyData.depthAll (d :: ds)) ?_).append (m2.mono ?_), ?_⟩
  · simp only [PyData.depthAll]; exact Nat.le_max_left _ _
  · simp only [PyData.depthAll]; exact Nat.le_max_right _ _
  · simp only [PyData.depthAll, PyData.shownAll]
    exact .cons ((k1.more fun b z => List.mem_append_left _ z).level_le (Nat.le_max_left _ _)) (k2.more_le (fun b z => List.mem_append_right _ z) (Nat.le_max_right _ _))
theorem shown_list {a : Addr} {o : Obj} {l : List Value} {n : Nat} {ds : List PyData} (h1 : h0.get? a = some o) (h2 : o.cls = .type "list") (h3 : o.data = .seq l.toArray n) (t : ShownAll P w h0 l ds) : Shown P w h0 (.ref a) (.list ds) := by
  obtain ⟨as, bs, rs, m, k⟩ := t
  have r : Reads h0 (.ref a) (.list ds) _ := .list h1 h2 h3 rs
  have out : a ∉ bs := not_mem_of_deeper r (by simp only [PyData.depth]; omega) m
  refine ⟨_, a :: bs, r, ReadAtMost.cons r (by simp only [PyData.depth]; omega) m, ?_⟩
  simp only [PyData.depth, PyData.shown]
  cases l with
  | nil =>
    cases rs
    simp only [PyData.shownAll, listText_nil]
    exact ReprK.listEmpty h1 h2 h3
  | cons x l => exact ReprK.list h1 h2 h3 out (by simpa using k.length_eq) (fun i y e => k.item i y (by simpa using e))
theorem shown_tuple {a : Addr} {o : Obj} {l : List Value} {n : Nat} {ds : List PyData} (h1 : h0.get? a = some o) (h2 : o.cls = .type "tuple") (h3 : o.data = .seq l.toArray n) (t : ShownAll P w h0 l ds) : Shown P w h0 (.ref a) (.tuple ds) := by
  obtain ⟨as, bs, rs, m, k⟩ := t
  have r : Reads h0 (.ref a) (.tuple ds) _ := .tuple h1 h2 h3 rs
  have out : a ∉ bs := not_mem_of_deeper r (by simp only [PyData.depth]; omega) m
  refine ⟨_, a :: bs, r, ReadAtMost.cons r (by simp only [PyData.depth]; omega) m, ?_⟩
  simp only [PyData.depth, PyData.shown]
  exact ReprK.tuple h1 h2 h3 out k
theorem shown_dict {a : Addr} {o : Obj} {es : Array DictEntry} {n : Nat} {kvs : List (PyData × PyData)} (h1 : h0.get? a = some o) (h2 : o.cls = .type "dict") (h3 : o.data = .dict es n) (ns : (a == sysModules) = false)
    (t1 : ShownAll P w h0 (es.toList.map (·.key)) (kvs.map (·.1))) (t2 : ShownAll P w h0 (es.toList.map (·.val)) (kvs.map (·.2))) : Shown P w h0 (.ref a) (.dict kvs) := by
  obtain ⟨as, b1, r1, m1, k1⟩ := t1
  obtain ⟨cs, b2, r2, m2, k2⟩ := t2
  have r : Reads h0 (.ref a) (.dict kvs) _ := .dict h1 h2 h3 r1 r2
  have m : ReadAtMost h0 (PyData.depthKv kvs) (b1 ++ b2) := (m1.mono (PyData.depthAll_keys_le kvs)).append (m2.mono (PyData.depthAll_vals_le kvs))
  have out : a ∉ b1 ++ b2 := not_mem_of_deeper r (by simp only [PyData.depth]; omega) m
  refine ⟨_, a :: (b1 ++ b2), r, ReadAtMost.cons r (by simp only [PyData.depth]; omega) m, ?_⟩
  simp only [PyData.depth, PyData.shown, PyData.shownKv_eq]
  exact ReprK.dict h1 h2 h3 ns out (ReprEntriesK.of_two es.toList _ _ (k1.more_le (fun b z => List.mem_append_left _ z) (PyData.depthAll_keys_le kvs)) (k2.more_le (fun b z => List.mem_append_right _ z) (PyData.depthAll_vals_le kvs)))
end
section
variable {X : Cx} {pins : List (Addr × Obj)} {σ : L2.St} {H : Hp} {s : Shared}
theorem keys_shown : ∀ {es : List DictEntry} {kvs : List (Key × Value)}, Pairs (mixKind X.prog X.w) es kvs → PyData.showableAll (kvs.map fun p => keyD p.1) = true → (∀ t ∈ PyData.shownAll (kvs.map fun p => keyD p.1), t.length ≤ sizeLine) → ShownAll X.prog X.w s.heap (es.map (·.key)) (kvs.map fun p => keyD p.1)
  | _, _, .nil, _, _ => ShownAll.nil
  | _, _, .cons (e := e) (kv := kv) (kvs := kvs) k _ t, h, z => by
    have h' : (keyD kv.1).showable = true ∧ PyData.showableAll (kvs.map fun p => keyD p.1) = true := by simpa [PyData.showableAll] using h
    refine ShownAll.cons ?_ (keys_shown t h'.2 fun x hx => z x (by simp only [List.map_cons, PyData.shownAll]; exact List.mem_cons_of_mem _ hx))
    have z0 := z (keyD kv.1).shown (by simp only [List.map_cons, PyData.shownAll]; exact List.mem_cons_self ..)
    show Shown X.prog X.w s.heap e.key (keyD kv.1)
    rcases keyIs_shape k with ⟨i, t, e1, e2⟩ | ⟨x, t, e1, e2⟩
    · rw [e1] at h' ⊢
      rw [e2]
      exact ⟨_, [], Reads.int i t, (fun _ y => nomatch y), by simp only [keyD, PyData.shown]; exact .of_is (ReprIs.int t (by simpa [keyD, PyData.showable] using h'.1)) _ _ _⟩
    · rw [e1] at z0 ⊢
      rw [e2]
      exact ⟨_, [], Reads.str x t, (fun _ y => nomatch y), by simp only [keyD, PyData.shown]; exact .of_is (ReprIs.str x t (by simpa only [keyD, PyData.shown] using z0)) _ _ _⟩
theorem vals_of_pairs : ∀ {es : List DictEntry} {kvs : List (Key × Value)}, Pairs (L2.mixKind X.prog X.w) es kvs → es.map (·.val) = kvs.map (·.2)
  | _, _, .nil => rfl
  | _, _, .cons _ e t => by
    rw [List.map_cons, List.map_cons, e, vals_of_pairs t]
theorem kv_split : ∀ {kvs : List (Key × V)} {vs : List (Key × Value)}, L2.KV kvs vs → kvs.map (·.1) = vs.map (·.1) ∧ Vals (kvs.map (·.2)) (vs.map (·.2))
  | _, _, .nil => ⟨rfl, .nil⟩
  | _, _, .cons h t => by
    obtain ⟨i, j⟩ := kv_split t
    exact ⟨by rw [List.map_cons, List.map_cons, h.1, i], .cons h.2 j⟩
theorem Dq.shown (I : Inv X pins σ H s) {v : V} {d : PyData} (h : Dq X.K H v d) : ∀ u, RelV v u → d.showable = true → d.shown.length ≤ sizeLine → Shown X.prog X.w s.heap u d := by
  refine Dq.rec (motive_1 := fun v d _ => ∀ u, RelV v u → d.showable = true → d.shown.length ≤ sizeLine → Shown X.prog X.w s.heap u d)
    (motive_2 := fun vs ds _ => ∀ us, Vals vs us → PyData.showableAll ds = true → (∀ t ∈ PyData.shownAll ds, t.length ≤ sizeLine) → ShownAll X.prog X.w s.heap us ds) ?_ ?_ ?_ ?_ ?_ ?_ ?_ ?_ ?_ h
  · intro u r _ _
    cases (show u = Value.none from r)
    exact ⟨_, [], Reads.none, (fun _ z => nomatch z), by simp only [PyData.shown]; exact .of_is ReprIs.none _ _ _⟩
  · intro b u r _ _
    cases (show u = Value.bool b from r)
    exact ⟨_, [], Reads.bool b, (fun _ z => nomatch z), by simp only [PyData.shown]; exact .of_is (ReprIs.bool b) _ _ _⟩
  · intro i u r hs _
    obtain ⟨t, rfl⟩ := (show ∃ t, u = Value.int i t from r)
    exact ⟨_, [], Reads.int i t, (fun _ z => nomatch z), by simp only [PyData.shown]; exact .of_is (ReprIs.int t (by simpa [PyData.showable] using hs)) _ _ _⟩
  · intro x u r _ hz
    obtain ⟨t, rfl⟩ := (show ∃ t, u = Value.str x t from r)
    exact ⟨_, [], Reads.str x t, (fun _ z => nomatch z), by simp only [PyData.shown]; exact .of_is (ReprIs.str x t (by simpa only [PyData.shown] using hz)) _ _ _⟩
  · intro a xs ds hq _ ih u r hs hz
    cases (show u = Value.ref a from r)
    have hz' : (listText (PyData.shownAll ds)).length ≤ sizeLine := by simpa only [PyData.shown] using hz
    obtain ⟨its, rv, ⟨o, n, ho, hc, _, hd⟩, _⟩ := I.list hq
    exact shown_list ho hc hd (ih its rv (by simpa [PyData.showable] using hs) fun t ht => Nat.le_trans (listText_mem_le ht) hz')
  · intro a xs ds hq _ ih u r hs hz
    cases (show u = Value.ref a from r)
    have hz' : (tupleText (PyData.shownAll ds)).length ≤ sizeLine := by simpa only [PyData.shown] using hz
    obtain ⟨its, rv, ⟨o, ho, hc, n, hd⟩, _⟩ := I.tuple hq
    exact shown_tuple ho hc hd (ih its rv (by simpa [PyData.showable] using hs) fun t ht => Nat.le_trans (tupleText_mem_le ht) hz')
  · intro a kvs ds hk hall ih u r hs hz
    cases (show u = Value.ref a from r)
    obtain ⟨_, ns, vs, kv, o, es, ep, ho, he, hd, _, hp, _⟩ := (show L2.ObjOk X.prog X.w H s.heap a (.dK kvs) from I.hok a _ hk)
    obtain ⟨ks, rv⟩ := kv_split kv
    have e1 : kvs.map (fun p => keyD p.1) = vs.map fun p => keyD p.1 := by
      have := congrArg (List.map keyD) ks
      simpa [List.map_map, Function.comp_def] using this
    have ln : ds.length = (kvs.map fun p => keyD p.1).length := by rw [List.length_map, ← hall.len, List.length_map]
    have f1 : (List.zip (kvs.map fun p => keyD p.1) ds).map (·.1) = kvs.map fun p => keyD p.1 := List.map_fst_zip (Nat.le_of_eq ln.symm)
    have f2 : (List.zip (kvs.map fun p => keyD p.1) ds).map (·.2) = ds := List.map_snd_zip (Nat.le_of_eq ln)
    have hz' : (dictText (PyData.shownKv (List.zip (kvs.map fun p => keyD p.1) ds))).length ≤ sizeLine := by simpa only [PyData.shown] using hz
    obtain ⟨s1, s2⟩ := PyData.showableKv_split _ (by simpa [PyData.showable] using hs)
    refine shown_dict ho he.1 hd ns ?_ ?_
    · rw [f1, e1]
      rw [f1, e1] at s1
      refine keys_shown hp s1 fun t ht => ?_
      obtain ⟨p, hp1, hp2⟩ := PyData.shownKv_key_le (List.zip (kvs.map fun p => keyD p.1) ds) t (by rw [f1, e1]; exact ht)
      exact Nat.le_trans hp2 (Nat.le_trans (dictText_mem_le hp1) hz')
    · rw [f2, vals_of_pairs hp]
      rw [f2] at s2
      refine ih _ rv s2 fun t ht => ?_
      obtain ⟨p, hp1, hp2⟩ := PyData.shownKv_val_le (List.zip (kvs.map fun p => keyD p.1) ds) t (by rw [f2]; exact ht)
      exact Nat.le_trans hp2 (Nat.le_trans (dictText_mem_le hp1) hz')
  · intro us r _ _
    cases r
    exact ShownAll.nil
  · intro v vs d ds _ _ i1 i2 us r hs hz
    cases r with
    | cons r1 r2 =>
      have hs' : d.showable = true ∧ PyData.showableAll ds = true := by simpa [PyData.showableAll] using hs
      exact ShownAll.cons (i1 _ r1 hs'.1 (hz _ (by simp only [PyData.shownAll]; exact List.mem_cons_self ..))) (i2 _ r2 hs'.2 fun t ht => hz t (by simp only [PyData.shownAll]; exact List.mem_cons_of_mem _ ht))
theorem DqAll.shown (I : Inv X pins σ H s) : ∀ {vs : List V} {ds : List PyData} {us : List Value}, DqAll X.K H vs ds → Vals vs us → PyData.showableAll ds = true → (∀ t ∈ PyData.shownAll ds, t.length ≤ sizeLine) → ShownAll X.prog X.w s.heap us ds
  | [], _, _, h, r, _, _ => by
    cases h
    cases r
    exact ShownAll.nil
  | _ :: vs, _, _, h, r, hs, hz => by
    cases h with
    | @cons _ _ d ds h1 h2 =>
      cases r with
      | cons r1 r2 =>
        have hs' : d.showable = true ∧ PyData.showableAll ds = true := by simpa [PyData.showableAll] using hs
        exact ShownAll.cons (Dq.shown I h1 _ r1 hs'.1 (hz _ (by simp only [PyData.shownAll]; exact List.mem_cons_self ..))) (DqAll.shown I h2 r2 hs'.2 fun t ht => hz t (by simp only [PyData.shownAll]; exact List.mem_cons_of_mem _ ht))
theorem dict_shown (I : Inv X pins σ H s) {a : Addr} {kvs : List (Key × V)} {ds : List PyData} (hk : H a = some (.dK kvs)) (hall : DqAll X.K H (kvs.map (·.2)) ds) (hs : (PyData.dict (List.zip (kvs.map fun p => keyD p.1) ds)).showable = true)
    (hz : (PyData.dict (List.zip (kvs.map fun p => keyD p.1) ds)).shown.length ≤ sizeLine) : ∃ (o : Obj) (es : Array DictEntry) (n : Nat), s.heap.get? a = some o ∧ o.cls = .type "dict" ∧ o.data = .dict es n ∧ (a == sysModules) = false ∧
      ShownAll X.prog X.w s.heap (es.toList.map (·.key)) ((List.zip (kvs.map fun p => keyD p.1) ds).map (·.1)) ∧ ShownAll X.prog X.w s.heap (es.toList.map (·.val)) ((List.zip (kvs.map fun p => keyD p.1) ds).map (·.2)) := by
  obtain ⟨_, ns, vs, kv, o, es, ep, ho, he, hd, _, hp, _⟩ := (show L2.ObjOk X.prog X.w H s.heap a (.dK kvs) from I.hok a _ hk)
  obtain ⟨ks, rv⟩ := kv_split kv
  have e1 : kvs.map (fun p => keyD p.1) = vs.map fun p => keyD p.1 := by
    have := congrArg (List.map keyD) ks
    simpa [List.map_map, Function.comp_def] using this
  have ln : ds.length = (kvs.map fun p => keyD p.1).length := by rw [List.length_map, ← hall.len, List.length_map]
  have f1 : (List.zip (kvs.map fun p => keyD p.1) ds).map (·.1) = kvs.map fun p => keyD p.1 := List.map_fst_zip (Nat.le_of_eq ln.symm)
  have f2 : (List.zip (kvs.map fun p => keyD p.1) ds).map (·.2) = ds := List.map_snd_zip (Nat.le_of_eq ln)
  have hz' : (dictText (PyData.shownKv (List.zip (kvs.map fun p => keyD p.1) ds))).length ≤ sizeLine := by simpa only [PyData.shown] using hz
  obtain ⟨s1, s2⟩ := PyData.showableKv_split _ (by simpa [PyData.showable] using hs)
  refine ⟨o, es, ep, ho, he.1, hd, ns, ?_, ?_⟩
  · rw [f1, e1]
    rw [f1, e1] at s1
    refine keys_shown hp s1 fun t ht => ?_
    obtain ⟨p, hp1, hp2⟩ := PyData.shownKv_key_le (List.zip (kvs.map fun p => keyD p.1) ds) t (by rw [f1, e1]; exact ht)
    exact Nat.le_trans hp2 (Nat.le_trans (dictText_mem_le hp1) hz')
  · rw [f2, vals_of_pairs hp]
    rw [f2] at s2
    refine DqAll.shown I hall rv s2 fun t ht => ?_
    obtain ⟨p, hp1, hp2⟩ := PyData.shownKv_val_le (List.zip (kvs.map fun p => keyD p.1) ds) t (by rw [f2]; exact ht)
    exact Nat.le_trans hp2 (Nat.le_trans (dictText_mem_le hp1) hz')
theorem shows_dq (I : Inv X pins σ H s) {a : Addr} {d : PyData} (h : Dq X.K H (.ref a) d) (hs : d.showable = true) (hz : d.shown.length ≤ sizeLine) : ∃ T idr, ShowsBy X.prog X.w s.heap a d T idr := by
  cases h with
  | @lst _ xs ds hq ha =>
    have hz' : (listText (PyData.shownAll ds)).length ≤ sizeLine := by simpa only [PyData.shown] using hz
    obtain ⟨its, rv, ⟨o, n, h1, h2, _, h3⟩, _⟩ := I.list hq
    obtain ⟨as, bs, rs, m, k⟩ := DqAll.shown I ha rv (by simpa [PyData.showable] using hs) fun t ht => Nat.le_trans (listText_mem_le ht) hz'
    have out : a ∉ bs := not_mem_of_deeper (.list h1 h2 h3 rs) (by simp only [PyData.depth]; omega) m
    refine ⟨"list", "list.__repr__", F.slot_list_repr.toG, F.slot_list_str, F.slot_list_format, fun s hk0 => ⟨o, hk0 _ _ h1, h2⟩, fun A E s Q hg hu hk0 hQ => ?_⟩
    simp only [PyData.depth] at hu
    simp only [PyData.shown] at hQ
    cases its with
    | nil =>
      cases rs
      simp only [PyData.shownAll, listText_nil] at hQ
      exact call_list_repr_empty ⟨o, hk0 _ _ h1, h2⟩ (hk0 _ _ h1) h3 (hQ s.heap _ _ fun _ _ e => e)
    | cons x l => exact call_list_reprK h1 h2 h3 out (by simpa using k.length_eq) (fun i y e => k.item i y (by simpa using e)) hg (fun b _ => Clear.nil b) hu hk0 hQ hz'
  | @tup _ xs ds hq ha =>
    have hz' : (tupleText (PyData.shownAll ds)).length ≤ sizeLine := by simpa only [PyData.shown] using hz
    obtain ⟨its, rv, ⟨o, h1, h2, n, h3⟩, _⟩ := I.tuple hq
    obtain ⟨as, bs, rs, m, k⟩ := DqAll.shown I ha rv (by simpa [PyData.showable] using hs) fun t ht => Nat.le_trans (tupleText_mem_le ht) hz'
    have out : a ∉ bs := not_mem_of_deeper (.tuple h1 h2 h3 rs) (by simp only [PyData.depth]; omega) m
    refine ⟨"tuple", "tuple.__repr__", F.slot_tuple_repr, F.slot_tuple_str, F.slot_tuple_format, fun s hk0 => ⟨o, hk0 _ _ h1, h2⟩, fun A E s Q hg hu hk0 hQ => ?_⟩
    simp only [PyData.depth] at hu
    simp only [PyData.shown] at hQ
    exact call_tuple_reprK h1 h2 h3 out k hg (fun b _ => Clear.nil b) hu hk0 hQ hz'
  | @dK _ kvs ds hk ha =>
    obtain ⟨o, es, n, h1, h2, h3, ns, t1, t2⟩ := dict_shown I hk ha hs hz
    obtain ⟨as, b1, r1, m1, k1⟩ := t1
    obtain ⟨cs, b2, r2, m2, k2⟩ := t2
    generalize List.zip (kvs.map fun p => keyD p.1) ds = ps at hs hz r1 m1 k1 r2 m2 k2 ⊢
    have m : ReadAtMost s.heap (PyData.depthKv ps) (b1 ++ b2) := (m1.mono (PyData.depthAll_keys_le ps)).append (m2.mono (PyData.depthAll_vals_le ps))
    have out : a ∉ b1 ++ b2 := not_mem_of_deeper (.dict h1 h2 h3 r1 r2) (by simp only [PyData.depth]; omega) m
    have hz' : (dictText (PyData.shownKv ps)).length ≤ sizeLine := by simpa only [PyData.shown] using hz
    refine ⟨"dict", "dict.__repr__", F.slot_dict_repr, F.slot_dict_str, F.slot_dict_format, fun s hk0 => ⟨o, hk0 _ _ h1, h2⟩, fun A E s Q hg hu hk0 hQ => ?_⟩
    simp only [PyData.depth] at hu
    simp only [PyData.shown, PyData.shownKv_eq] at hQ
    exact call_dict_reprK h1 h2 h3 ns out (ReprEntriesK.of_two es.toList _ _ (k1.more_le (fun b z => List.mem_append_left _ z) (PyData.depthAll_keys_le ps)) (k2.more_le (fun b z => List.mem_append_right _ z) (PyData.depthAll_vals_le ps))) hg (fun b _ => Clear.nil b) hu hk0 hQ (by rw [← PyData.shownKv_eq]; exact hz')
end
/-- repr(x), x a list, a tuple, a dict -/
def rReprQ (K : PySem.W.Frag) : List V → Hp → VK → Prop := fun xs H Q => ∃ (a : Addr) (d : PyData), xs = [.ref a] ∧ Dq K H (.ref a) d ∧ d.showable = true ∧ d.depth ≤ 60 ∧ d.shown.length ≤ sizeLine ∧ Q (.str d.shown) H
theorem cr_reprQ {X : Cx} (hg : X.A.guards = some []) (hu : X.A.units + 64 < cLine) : CallR X (.builtin "repr") (rReprQ X.K) := by
  intro pins s σ H xs us Q I r h
  obtain ⟨a, d, rfl, hd, h1, h3, h4, q⟩ := h
  obtain ⟨u, rfl, hu'⟩ := vals1 r
  obtain rfl : u = Value.ref a := hu'
  obtain ⟨T, idr, S⟩ := shows_dq I hd h1 h4
  refine call_repr_slot (by omega) (S.typeIs s fun _ _ e => e) S.slotRepr (S.call X.A.in1 _ s _ hg (by show X.A.units + 1 + d.depth < cLine; omega) (fun _ _ e => e) fun h' u tk k => ⟨_, _, rfl, ⟨.str _, H, I.kept (t' := tk) k, ⟨_, rfl⟩, q⟩⟩)
end EE

/-! Own layer: list(enumerate(x)), x a list. -/
namespace EE
open PySem PySem.Spec PyProof.Rows L2
theorem enum_len : typeLookup (.type "enumerate") "__len__" = pure none := by rw [typeLookup_type, builtinLookup_eq_fast]; kernel_rfl
theorem enum_hint : typeLookup (.type "enumerate") "__length_hint__" = pure none := by rw [typeLookup_type, builtinLookup_eq_fast]; kernel_rfl
section
variable {M : Model} {prog : Program} {w : World} {A : Around} {E : Value → Shared → Prop} {s : Shared} {r : Addr}
theorem hint_enum {Q : Bool → Shared → Prop} (hT : s.TypeIs (.ref r) "enumerate") (h : Q true s) : wpAny M A (Builtin.List.listLengthHint (.ref r)) Q E s := by
  unfold Builtin.List.listLengthHint
  refine wpAny_bind (wpAny_specialOf hT enum_len ?_)
  wp_walk
  rw [show typeLookup (.type "enumerate") (Str.ofString "__length_hint__") = pure none from enum_hint]
  exact wpAny_pure (wpAny_pure h)
end
/-- the pairs that enumerate gives of xs, the first j of them -/
def EnumVs (H : Hp) (xs vs : List V) : Prop := ∀ j v, vs[j]? = some v → ∃ T x, v = .ref T ∧ xs[j]? = some x ∧ H T = some (.tup [.int (j : Nat), x])
theorem EnumVs.keep {H H' : Hp} {xs vs : List V} (h : EnumVs H xs vs) (k : ∀ a ys, H a = some (.tup ys) → H' a = some (.tup ys)) : EnumVs H' xs vs := fun j v e => by
  obtain ⟨T, x, e1, e2, e3⟩ := h j v e
  exact ⟨T, x, e1, e2, k _ _ e3⟩
/-- the enumerate object at e behind i turns -/
def EnSt (h : Heap) (e it S : Addr) (i : Nat) : Prop := (∃ old, IsEnum h e it (i : Nat) old) ∨ ∃ old T f oT, IsEnumHeld h e it (i : Nat) old T f ∧ h.get? T = some oT ∧ T ≠ e ∧ T ≠ it ∧ T ≠ S
theorem EnSt.keep {h h' : Heap} {e it S : Addr} {i : Nat} (x : EnSt h e it S i) (ne : e ≠ S) (k : ∀ b o, b ≠ S → h.get? b = some o → h'.get? b = some o) : EnSt h' e it S i := by
  rcases x with ⟨old, z⟩ | ⟨old, T, f, oT, z, z2, n1, n2, n3⟩
  · exact .inl ⟨old, k _ _ ne z⟩
  · exact .inr ⟨old, T, f, oT, k _ _ ne z, k _ _ n3 z2, n1, n2, n3⟩
theorem iter_keep {h h' : Heap} {it l S : Addr} {i : Nat} (x : h.IsListIter it l i) (ne : it ≠ S) (k : ∀ b o, b ≠ S → h.get? b = some o → h'.get? b = some o) : h'.IsListIter it l i := by
  obtain ⟨o, z, r⟩ := x
  exact ⟨o, k _ _ ne z, r⟩
section
variable {X : Cx} {pins : List (Addr × Obj)} {σ : L2.St} {A : Around} {R : Result → Shared → Prop} {l e it S : Addr} {xs : List V} {res : Value} {H0 : Hp} {g : Array GenState} {dn : Drawn} {os : OsState}
/-- one step of enumerate, the last pair held or let go -/
theorem enum_next {H : Hp} {s : Shared} {i : Nat} {E : Value → Shared → Prop} {Q : Option Value → Shared → Prop} (st : EnSt s.heap e it S i) (hit : s.heap.IsListIter it l i) (hne : e ≠ it) {its : Array Value} {u : Value} (hl : s.heap.IsList l its) (hu : its[i]? = some u) (hS : S < s.heap.objs.size)
    (h : ∀ h' t, EnSt h' e it S (i + 1) → h'.IsListIter it l (i + 1) → h'.get? s.heap.objs.size = some { cls := .type "tuple", data := .seq #[.int i t, u] } → h'.objs.size = s.heap.objs.size + 1 → (∀ b o, b ≠ e → b ≠ it → s.heap.get? b = some o → h'.get? b = some o) →
      Q (some (.ref s.heap.objs.size)) { s with heap := h', toks := s.toks + 1 }) : wpAny (model X.prog X.w) A (pyNext (.ref e)) Q E s := by
  have e1 : (((i + 1 : Nat) : Nat) : Int) = (i : Int) + 1 := by omega
  obtain ⟨oi, hoi, _⟩ := id hit
  have li : it < s.heap.objs.size := Heap.lt_size hoi
  rcases st with ⟨old, z⟩ | ⟨old, T, f, oT, z, z2, n1, n2, n3⟩
  · have le : e < s.heap.objs.size := Heap.lt_size z
    exact wpAny_pyNext_enum_item z hit hl hu hne fun h' a1 a2 a3 a4 a5 => h h' _ (.inr ⟨u, s.heap.objs.size, false, _, by rw [e1]; exact a1, a3, Nat.ne_of_gt le, Nat.ne_of_gt li, Nat.ne_of_gt hS⟩) a2 a3 a4 a5
  · exact wpAny_pyNext_enum_item_held z z2 n1 n2 hit hl hu hne fun h' a1 a2 a3 a4 a5 => h h' _ (.inr ⟨old, T, true, oT, by rw [e1]; exact a1, a5 _ _ n1 n2 z2, n1, n2, n3⟩) a2 a3 a4 a5
theorem enum_end {s : Shared} {i : Nat} {E : Value → Shared → Prop} {Q : Option Value → Shared → Prop} (hh : A.handled = none) (st : EnSt s.heap e it S i) (hit : s.heap.IsListIter it l i) {its : Array Value} (hl : s.heap.IsList l its) (hu : its[i]? = none)
    (h : ∀ h', Heap.ExtBut it s.heap h' → Q none { s with heap := h' }) : wpAny (model X.prog X.w) A (pyNext (.ref e)) Q E s := by
  rcases st with ⟨old, z⟩ | ⟨old, T, f, oT, z, _⟩
  · exact wpAny_pyNext_enum_end hh z hit hl hu h
  · exact wpAny_pyNext_enum_end_held hh z hit hl hu h
theorem enum_loop (hh : A.handled = none) (few : xs.length ≤ 100000)
    (hR : ∀ H' s' vs, Inv X pins σ H' s' → Same H0 H' → H' S = some (.lst vs) → vs.length = xs.length → EnumVs H' xs vs → R (.ok (.ret res)) s') :
    ∀ (k i : Nat) (H : Hp) (s : Shared) (vs : List V), xs.length - i = k → i ≤ xs.length → Inv X pins σ H s → Same H0 H → H0 S = none → H S = some (.lst vs) → vs.length = i → EnumVs H xs vs → SqL X.K H l xs → EnSt s.heap e it S i → s.heap.IsListIter it l i → e ≠ it → e ≠ S → it ≠ S → l ≠ S →
      FpOk X pins H e → FpOk X pins H it → codeAny (model X.prog X.w) A (.builtin "list.extend.loop" ⟨[.ref S, .ref e, res], []⟩) R s := by
  intro k
  induction k with
  | zero =>
    intro i H s vs hk hi I sm hS0 hS hv en hq st hit n1 n2 n3 n4 f1 f2
    refine codeAny_builtin PySem.F.entry_extend_loop ?_
    rw [Around.under_plainId PySem.F.plain_extend_loop _]
    show wpAny _ A.in1 (pyNext (.ref e) >>= _) _ _ _
    obtain ⟨its, rv, p, hz⟩ := I.list hq
    have hl := rv.length
    refine wpAny_bind (enum_end (X := X) (A := A.in1) hh st hit p.isList (by simp; omega) fun h' eb => ?_)
    obtain ⟨f20, f21, f22, f23, f24, f25⟩ := f2
    exact wpAny_pure (hR H _ vs (I.turned (t' := s.toks) (fun b o hb q => eb b o hb q) f20 f21 f23 f24 f25) sm hS (by omega) en)
  | succ k ih =>
    intro i H s vs hk hi I sm hS0 hS hv en hq st hit n1 n2 n3 n4 f1 f2
    have hlt : i < xs.length := by omega
    refine codeAny_builtin PySem.F.entry_extend_loop ?_
    rw [Around.under_plainId PySem.F.plain_extend_loop _]
    show wpAny _ A.in1 (pyNext (.ref e) >>= _) _ _ _
    obtain ⟨its, rv, p, hz⟩ := I.list hq
    obtain ⟨u, hu, ru⟩ := rv.get (List.getElem?_eq_getElem hlt)
    obtain ⟨_, its0, n0, rv0, hS1⟩ := (show ObjOk X.prog X.w H s.heap S (.lst vs) from I.hok S _ hS)
    have hSl : S < s.heap.objs.size := Heap.lt_size hS1
    refine wpAny_bind (enum_next (X := X) (A := A.in1) (H := H) st hit n1 p.isList (u := u) (by simpa using hu) hSl fun h' t st' hit' hT hsz hk2 => ?_)
    have new : ObjOk X.prog X.w (upd H s.heap.objs.size (.tup [.int (i : Nat), xs[i]])) h' s.heap.objs.size (.tup [.int (i : Nat), xs[i]]) := ⟨by show 2 ≤ sizeLine; decide, [.int i t, u], .cons ⟨_, rfl⟩ (.cons ru .nil), ⟨_, hT, rfl, _, rfl⟩⟩
    have hf : ∀ b ∈ [e, it], FpOk X pins H b := fun b hb => by
      rcases List.mem_cons.mp hb with z | hb
      · rw [z]; exact f1
      · rw [List.mem_singleton.mp hb]; exact f2
    have I1 := I.turnedNew (t' := s.toks + 1) (ch := [e, it]) (fun b ob hb q => hk2 b ob (fun z => hb (by simp [z])) (fun z => hb (by simp [z])) q) hf (Nat.le_refl _) new
    have hnew : H s.heap.objs.size = none := I.hok.fresh (Nat.le_refl _)
    have sT : Same H (upd H s.heap.objs.size (.tup [.int (i : Nat), xs[i]])) := same_new hnew
    have hST := sT _ _ hS
    have hS2 := hk2 S _ (Ne.symm n2) (Ne.symm n3) hS1
    show wpAny _ A.in1 (updateSeq S (·.push (Value.ref s.heap.objs.size)) >>= _) _ _ _
    refine wpAny_bind (wpAny_updateSeq hS2 rfl (wpAny_pure ⟨plainId_quiet PySem.F.plain_extend_loop _, ?_⟩) ?_ ?_)
    · have up : ∀ b o, b ≠ S → h'.get? b = some o → (h'.update S (Obj.mapSeq (·.push (Value.ref s.heap.objs.size)))).get? b = some o := fun b o hb z => (Heap.get?_update_other _ _ (Ne.symm hb)).trans z
      have hS3 := Heap.get?_update_self (Obj.mapSeq (·.push (Value.ref s.heap.objs.size))) hS2 rfl
      have I2 := I1.write (t' := s.toks + 1) (x := S) (e := S) (o := .lst (vs ++ [.ref s.heap.objs.size])) (h' := h'.update S (Obj.mapSeq (·.push (Value.ref s.heap.objs.size)))) (by rw [hST]; exact True.intro) (.inl rfl) up ⟨_, hS3⟩
        ⟨by rw [List.length_append, hv]; show i + 1 ≤ sizeLine; rw [sizeLine_eq]; omega, its0 ++ [Value.ref s.heap.objs.size], n0 + 1, rv0.append (Paired.cons (show RelV (.ref s.heap.objs.size) (.ref s.heap.objs.size) from rfl) .nil), by rw [hS3, Obj.mapSeq_push_plain]; simp⟩
      have hTS : s.heap.objs.size ≠ S := Nat.ne_of_gt hSl
      have kt : ∀ a ys, upd H s.heap.objs.size (.tup [.int (i : Nat), xs[i]]) a = some (.tup ys) → upd (upd H s.heap.objs.size (.tup [.int (i : Nat), xs[i]])) S (.lst (vs ++ [.ref s.heap.objs.size])) a = some (.tup ys) := fun a ys z => by
        have ne : a ≠ S := fun y => by
          rw [y, hST] at z
          cases z
        rw [upd_ne ne]
        exact z
      refine ih (i + 1) _ _ (vs ++ [.ref s.heap.objs.size]) (by omega) hlt I2 (Same.grow hS0 (fun b o z => sT _ _ (sm _ _ z))) hS0 upd_same (by rw [List.length_append, hv]; rfl) ?_ ?_ (st'.keep n2 up) (iter_keep hit' n3 up) n1 n2 n3 n4 ?_ ?_
      · intro j v hj
        rcases Nat.lt_trichotomy j vs.length with z | z | z
        · rw [List.getElem?_append_left z] at hj
          obtain ⟨T, x, e1, e2, e3⟩ := en j v hj
          exact ⟨T, x, e1, e2, kt _ _ (sT _ _ e3)⟩
        · subst z
          have hv2 : V.ref s.heap.objs.size = v := by simpa using hj
          subst hv2
          subst hv
          exact ⟨_, _, rfl, List.getElem?_eq_getElem hlt, kt _ _ upd_same⟩
        · rw [List.getElem?_eq_none (by rw [List.length_append, List.length_singleton]; omega)] at hj
          cases hj
      · exact (but_upd (p := S) (o := .lst (vs ++ [.ref s.heap.objs.size]))).seq n4 (Same.seq sT hq)
      · obtain ⟨a1, a2⟩ := f1
        refine ⟨?_, a2⟩
        rw [upd_ne n2, upd_ne]
        · exact a1
        · intro z
          rcases st with ⟨old, y⟩ | ⟨old, T, f, oT, y, _⟩ <;> exact absurd (Heap.lt_size y) (by rw [z]; exact Nat.lt_irrefl _)
      · obtain ⟨a1, a2⟩ := f2
        refine ⟨?_, a2⟩
        rw [upd_ne n3, upd_ne]
        · exact a1
        · intro z
          obtain ⟨oi, hoi, _⟩ := hit
          exact absurd (Heap.lt_size hoi) (by rw [z]; exact Nat.lt_irrefl _)
    · have := rv0.length
      simp
      rw [← this, hv, sizeLine_eq]
      omega
    · have := rv0.length
      simp
      rw [← this, hv, sizeLine_eq]
      omega
/-- list.__init__(S, e) -/
theorem enum_init {H : Hp} {s : Shared} (hh : A.handled = none) (few : xs.length ≤ 100000) (I : Inv X pins σ H s) (sm : Same H0 H) (hS0 : H0 S = none) (hS : H S = some (.lst [])) (hS1 : s.heap.get? S = some { cls := .type "list", data := .seq #[] }) (hq : SqL X.K H l xs)
    (he : IsEnum s.heap e it 0 .none) (hit : s.heap.IsListIter it l 0) (n1 : e ≠ it) (n2 : e ≠ S) (n3 : it ≠ S) (n4 : l ≠ S) (f1 : FpOk X pins H e) (f2 : FpOk X pins H it)
    (hR : ∀ H' s' vs, Inv X pins σ H' s' → Same H0 H' → H' S = some (.lst vs) → vs.length = xs.length → EnumVs H' xs vs → R (.ok (.ret .none)) s') :
    wpAny (model X.prog X.w) A.in1 (Builtin.«list.__init__» ⟨[.ref S, .ref e], []⟩)
      (fun fin s' => match fin with | .done f => R (.ok f) s' | .again c' => c'.quiet = true ∧ codeAny (model X.prog X.w) A c' R s') (fun e s' => R (.error e) s') s := by
  show wpAny _ _ (do let old ← Builtin.List.listItems (.ref S); Builtin.List.listUpdate (.ref S) (fun _ => #[]); letGo old.toList.reverse; Builtin.List.listExtendWith (.ref S) (.ref e) .none) _ _ s
  refine wpAny_bind ?_
  unfold Builtin.List.listItems
  refine wpAny_bind (wpAny_seqItems hS1 rfl (wpAny_pure ?_))
  show wpAny _ _ (updateSeq S (fun _ => #[]) >>= fun _ => letGo (#[] : Array Value).toList.reverse >>= fun _ => Builtin.List.listExtendWith (.ref S) (.ref e) .none) _ _ s
  refine wpAny_bind (wpAny_updateSeq hS1 rfl ?_)
  have hS2 := Heap.get?_update_self (Obj.mapSeq (fun _ => (#[] : Array Value))) hS1 rfl
  have k2 : ∀ b o, b ≠ S → s.heap.get? b = some o → (s.heap.update S (Obj.mapSeq (fun _ => (#[] : Array Value)))).get? b = some o := fun b o hb z => (Heap.get?_update_other _ _ (Ne.symm hb)).trans z
  refine wpAny_bind (wpAny_letGo ?_)
  have he2 : IsEnum (s.heap.update S (Obj.mapSeq (fun _ => (#[] : Array Value)))) e it 0 .none := k2 _ _ n2 he
  unfold Builtin.List.listExtendWith
  refine wpAny_bind (wpAny_typeOf (T := "enumerate") ⟨_, he2, rfl⟩ ?_)
  have h1 : Builtin.List.listSameRef (.ref S) (.ref e) = false := by simp [Builtin.List.listSameRef, Ne.symm n2]
  have h2 : (Value.type "enumerate" == Value.type "list") = false := by decide
  have h3 : (Value.type "enumerate" == Value.type "tuple") = false := by decide
  simp only [h1, h2, h3, Bool.or_false, Bool.false_eq_true, if_false]
  refine wpAny_bind (wpAny_pyIter_enum he2 ?_)
  refine wpAny_bind (wpAny_holding (hint_enum ⟨_, he2, rfl⟩ ?_))
  refine wpAny_ite_split (fun _ => ?_) (fun z => absurd rfl z)
  refine wpAny_bind (wpAny_rule (wpAny_bind ?_))
  show wpAny _ _ (updateSeq S (·.push .none) >>= fun _ => updateSeq S (·.pop)) _ _ _
  refine wpAny_bind (wpAny_updateSeq hS2 rfl ?_)
  have hS3 := Heap.get?_update_self (Obj.mapSeq (·.push Value.none)) hS2 rfl
  refine wpAny_updateSeq (hz := by seq_fits) hS3 rfl ?_
  have hS4 := Heap.get?_update_self (Obj.mapSeq (·.pop)) hS3 rfl
  have kp : ∀ b o, b ≠ S → s.heap.get? b = some o → (((s.heap.update S (Obj.mapSeq (fun _ => (#[] : Array Value)))).update S (Obj.mapSeq (·.push Value.none))).update S (Obj.mapSeq (·.pop))).get? b = some o :=
    fun b o hb z => (Heap.get?_update_other _ _ (Ne.symm hb)).trans ((Heap.get?_update_other _ _ (Ne.symm hb)).trans (k2 b o hb z))
  have I2 := I.write (t' := s.toks) (x := S) (e := S) (o := .lst []) (h' := ((s.heap.update S (Obj.mapSeq (fun _ => (#[] : Array Value)))).update S (Obj.mapSeq (·.push Value.none))).update S (Obj.mapSeq (·.pop))) (by rw [hS]; exact True.intro) (.inl rfl) kp ⟨_, hS4⟩
    ⟨Nat.zero_le _, [], _, .nil, hS4⟩
  have eu : upd H S (.lst []) = H := by
    funext b
    by_cases hb : b = S
    · rw [hb, upd_same, hS]
    · rw [upd_ne hb]
  rw [eu] at I2
  exact wpAny_pure ⟨plainId_quiet PySem.F.plain_extend_loop _, enum_loop (A := A) hh few hR xs.length 0 H _ [] (Nat.sub_zero _) (Nat.zero_le _) I2 sm hS0 hS rfl (fun j v z => by simp at z) hq (.inl ⟨.none, kp _ _ n2 he⟩) (iter_keep hit n3 kp) n1 n2 n3 n4 f1 f2⟩
end
/-- list(enumerate(e)) -/
def tLenum (K : PySem.W.Frag) (ta : TE) : TE := fun σ H Q => ta σ H fun x H1 => ∃ a xs, x = .ref a ∧ SqL K H1 a xs ∧ xs.length ≤ 100000 ∧ ∀ S vs H', H1 S = none → Same H1 H' → H' S = some (.lst vs) → vs.length = xs.length → EnumVs H' xs vs → Q (.ref S) H'
theorem pe_lenum {X : Cx} {a : Expr} {ta : TE} {p1 p2 q1 q2 : Pos} (hc : X.calm = true) (hg : Gl X "list") (hm : X.mg "list" = none) (hg2 : Gl X "enumerate") (hm2 : X.mg "enumerate" = none) (ha : PE X a ta) (na : starEach [a] X.env = (false, eval a X.env) :: starEach [] X.env := by rfl)
    (nb : starEach [.Call (.Name "enumerate" p2) [a] [] q2] X.env = (false, eval (.Call (.Name "enumerate" p2) [a] [] q2) X.env) :: starEach [] X.env := by rfl) :
    PE X (.Call (.Name "list" p1) [.Call (.Name "enumerate" p2) [a] [] q2] [] q1) (tLenum X.K ta) := by
  refine ⟨fun pins s σ H Q I h => ?_⟩
  refine Call_ (ld_blt I hg hm boot_list (PyProof.Rows.callWith_type1 (args_cons ?_ nb) nb))
  refine Call_ (ld_blt I hg2 hm2 boot_enumerate (PyProof.Rows.callWith_type1 (one_arg ha I h (fun v s2 x H2 I2 r q => ?_) na) na))
  obtain ⟨l, xs, rfl, hq, few, q⟩ := q
  obtain rfl : v = .ref l := r
  obtain ⟨its, rv, pl, hz⟩ := I2.list hq
  refine call_enumerate_list pl.isList fun h' he hit hsz hk => args_nil ?_
  obtain ⟨hp, g, d, tk, os⟩ := s2
  have lll : l < hp.objs.size := pl.lt
  have I3 : Inv X pins σ H2 ⟨h', g, d, tk, os⟩ := I2.kept (t' := tk) hk
  refine callType_codes (Q₁ := fun obj s1 => obj = .ref h'.objs.size ∧ s1 = ⟨h'.push { cls := .type "list", data := .seq #[] }, g, d, tk, os⟩) PySem.F.called_list (PySem.F.typeCall_list_1 _) PySem.F.entry_list_init (code_list_new _ ⟨rfl, rfl⟩) fun obj s1 h1 => ?_
  obtain ⟨rfl, rfl⟩ := h1
  have hS : (h'.push { cls := .type "list", data := .seq #[] }).get? h'.objs.size = some { cls := .type "list", data := .seq #[] } := Heap.get?_push_size _ rfl
  have hn : H2 h'.objs.size = none := I3.hok.fresh (Nat.le_refl _)
  have I4 := I3.laid (t' := tk) (a := h'.objs.size) (o := .lst []) (h' := h'.push { cls := .type "list", data := .seq #[] }) (fun b o z => Heap.get?_push_of_some _ z) (Nat.le_refl _) ⟨Nat.zero_le _, [], 0, .nil, hS⟩
  have fp : ∀ b, hp.objs.size ≤ b → b ≠ h'.objs.size → FpOk X pins (upd H2 h'.objs.size (.lst [])) b := fun b hb n => I2.fpOk hb (by rw [upd_ne n]; exact I2.hok.fresh hb)
  have z1 : hp.objs.size + 1 ≠ h'.objs.size := by rw [hsz]; exact Nat.ne_of_lt (Nat.lt_succ_self _)
  have z2 : hp.objs.size ≠ h'.objs.size := by rw [hsz]; exact Nat.ne_of_lt (Nat.lt_add_of_pos_right (by decide))
  have z3 : l ≠ h'.objs.size := Nat.ne_of_lt (Nat.lt_of_lt_of_le lll (by rw [hsz]; exact Nat.le_add_right _ _))
  refine ⟨⟨_, hS, rfl⟩, PySem.F.args_list_init_2 _ _, enum_init (A := X.A.in1) (H0 := H2) (I3.ok.hd hc) few I4 (same_new hn) hn upd_same hS (Same.seq (same_new hn) hq) (Heap.get?_push_of_some _ he) ?_ (Nat.succ_ne_self _) z1 z2 z3 (fp _ (Nat.le_succ _) z1) (fp _ (Nat.le_refl _) z2) fun H' s' vs J sm eS lv en => ⟨rfl, ?_⟩⟩
  · obtain ⟨o, z, r⟩ := hit
    exact ⟨o, Heap.get?_push_of_some _ z, r⟩
  · exact ⟨.ref h'.objs.size, H', J, rfl, q _ vs H' hn sm eS lv en⟩
theorem rd_lenum {K : PySem.W.Frag} {ta : TE} {σ : L2.St} {H : Hp} {Q : VK} (h : ta σ H fun x H1 => ∃ a xs, x = .ref a ∧ SqL K H1 a xs ∧ xs.length ≤ 100000 ∧ ∀ S vs H', H1 S = none → Same H1 H' → H' S = some (.lst vs) → vs.length = xs.length → EnumVs H' xs vs → Q (.ref S) H') : tLenum K ta σ H Q := h
end EE

/-! Own layer: exception values read. -/
namespace EE
open PySem PySem.Spec PyProof.Rows L2
/-- x.f, x an exception that was made -/
def tXv (K : PySem.W.Frag) (f : Str) (te : TE) : TE := fun σ H Q => te σ H fun x H1 => ∃ (a dx C : Addr) (fs : List (Str × V)) (v : V), x = .ref a ∧ H1 a = some (exo a C (some dx)) ∧ H1 dx = some (exd dx fs) ∧ ExK K C ∧ PySem.W.findIn K (.ref C) f = some none ∧ fs.lookup f = some v ∧ Q v H1
/-- isinstance(x, c), x an exception that was made -/
def rIsX (K : PySem.W.Frag) : List V → Hp → VK → Prop := fun xs H Q => ∃ (a C : Addr) (d : Option Addr) (c : V) (cv : Value) (b : Bool), xs = [.ref a, c] ∧ H a = some (exo a C d) ∧ (∀ dx, d = some dx → ∃ fs, H dx = some (exd dx fs)) ∧ ClsV c cv ∧ ExK K C ∧ PySem.W.kitOne K (.ref C) cv = some b ∧ Q (.bl b) H
section
variable {X : Cx} {e : Expr} {te : TE} {pos : Pos} {n : Str}
theorem pe_xv (he : PE X e te) (hb : attributeBase e n X.env (eval e X.env) = eval e X.env := by rfl) : PE X (.Attribute e n pos) (tXv X.K n te) := by
  refine ⟨fun pins s σ H Q I h => attr_of hb (thn (he.run pins s σ H _ I h) fun u s1 ⟨x, H1, I1, rx, a, dx, C, fs, v, ex, ea, ed, T, hno, hl, q⟩ => ?_)⟩
  subst ex
  obtain rfl : u = Value.ref a := rx
  obtain ⟨t1, ho⟩ := exo_at I1.hok ea
  obtain ⟨mA, hns, rel⟩ := exd_at I1.hok ed
  obtain ⟨od, hod, look⟩ := lookIn_ns hns
  obtain ⟨u, hu, ru⟩ := RelO.some_of (v := v) (o := mA n) (by rw [← hl]; exact rel n)
  exact HandSPX.exc_get I1.kIn (od := some od) ⟨ho, rfl, rfl, hod⟩ T.xf.ga T.xf.gg T.xf.exC (PySem.W.findObj_own T.xf.hdC hno rfl (by rw [look, hu])) (handed_of ru) ⟨v, H1, I1.tok _, ru, q⟩
theorem call_isX : CallR X (.builtin "isinstance") (rIsX X.K) := by
  intro pins s σ H xs us Q I r h
  obtain ⟨a, C, d, c, cv, b, rfl, ea, ed, k, T, e, q⟩ := h
  obtain ⟨u1, u2, rfl, r1, r2⟩ := vals2 r
  obtain rfl : u1 = Value.ref a := r1
  have e2 := k.eq r2
  subst e2
  obtain ⟨t1, ho⟩ := exo_at I.hok ea
  obtain ⟨cd, hcd, _⟩ := PySem.W.any_some T.xf.hdC
  have J : ∃ od, PySem.W.InstAt s.heap a { cls := .ref C, dict := d, data := .fields #[.ref t1, .none, .none, .none, .bool false, .none] } C od := by
    cases d with
    | none => exact ⟨none, ho, rfl, rfl, trivial⟩
    | some dx =>
      obtain ⟨fs, z⟩ := ed dx rfl
      obtain ⟨mA, hns, _⟩ := exd_at I.hok z
      obtain ⟨od, hod, _⟩ := lookIn_ns hns
      exact ⟨some od, ho, rfl, rfl, hod⟩
  obtain ⟨od, J⟩ := J
  exact PySem.W.kia_one (PySem.W.kitx_exc (by rw [hcd]; rfl) T.xf.ga T.xf.gg T.xf.exC T.ha T.hn T.ht T.hm) I.kIn J e (fun z => nomatch z) fun tk => ⟨.bl b, H, I.tok tk, rfl, q⟩
theorem pe_mk0 {C : Addr} {bmB : List Value} {B newId initId : String} {x : Str} {p : Pos} (FB : ExcBaseFacts B newId initId bmB) (q : PySem.W.excIn X.K C bmB newId = true) (kC : PySem.W.keepIn X.K (.ref C) = true) (hg : Gl X x) (hm : X.mg x = some (.ref C)) (ndb : (x == ("__debug__" : Str)) = false := by decide) :
    PE X (.Call (.Name x p) [] [] pos) (tMk0 C) := by
  refine ⟨fun pins s σ H Q I h => wpAny_Call_Name_kw (ld_glob I hg hm (PySem.W.callWith_K0 I.kIn kC ?_) ndb)⟩
  obtain ⟨bm, N, nm, qn, bs, hdct, sn, sub, ab, col, dd, k0, k1, k2, k3, k5, mN, hC, hN, hni, T⟩ := exc_obj I.kIn q
  refine wpAny_call_exc_subT FB T hC hN hni (fun h' a hm => ?_) (Nat.zero_le _)
  have hn : H a = none := I.hok.gone hm.new
  obtain ⟨t, ht, _, _⟩ := hm.there
  exact ⟨.ref a, upd H a (exo a C none), I.laidN hm.keeps hm.new hn (exo_ok ht), rfl, h a hn⟩
end
section
variable {K : PySem.W.Frag} {σ : L2.St} {H : Hp} {Q : VK} {C : Addr}
theorem rd_xv {f : Str} {te : TE} (h : te σ H fun x H1 => ∃ (a dx C : Addr) (fs : List (Str × V)) (v : V), x = .ref a ∧ H1 a = some (exo a C (some dx)) ∧ H1 dx = some (exd dx fs) ∧ ExK K C ∧ PySem.W.findIn K (.ref C) f = some none ∧ fs.lookup f = some v ∧ Q v H1) : tXv K f te σ H Q := h
theorem rd_isX {C : Addr} {x c : V} {cv : Value} {fs : List (Str × V)} {b : Bool} (h : ExV H C x fs) (k : ClsV c cv) (T : ExK K C) (e : PySem.W.kitOne K (.ref C) cv = some b) (q : Q (.bl b) H) : rIsX K [x, c] H Q := by
  obtain ⟨a, dx, rfl, e1, e2⟩ := h
  exact ⟨a, C, some dx, c, cv, b, rfl, e1, fun d z => by cases z; exact ⟨fs, e2⟩, k, T, e, q⟩
theorem rd_isX0 {C : Addr} {x c : V} {cv : Value} {b : Bool} (h : ExN H C x) (k : ClsV c cv) (T : ExK K C) (e : PySem.W.kitOne K (.ref C) cv = some b) (q : Q (.bl b) H) : rIsX K [x, c] H Q := by
  obtain ⟨a, rfl, e1⟩ := h
  exact ⟨a, C, none, c, cv, b, rfl, e1, (fun d z => nomatch z), k, T, e, q⟩
theorem rd_mk0 (h : ∀ v H', Same H H' → ExN H' C v → Q v H') : tMk0 C σ H Q := fun a ha => h _ _ (same_new ha) ⟨a, rfl, upd_same⟩
/-- what an __init__ of one field promises -/
def spI1 (K : PySem.W.Frag) (C : Addr) (f : Str) : Sp := fun vs H Q _ => ∃ (a : Addr) (y : V), vs = [.ref a, y] ∧ H a = some (exo a C none) ∧ ∀ (dx : Addr) (H' : Hp), H dx = none → dx ≠ a → H' a = some (exo a C (some dx)) → H' dx = some (exd dx [(f, y)]) → (∀ b, b ≠ a → b ≠ dx → H' b = H b) → Q .non H'
/-- of two -/
def spI2 (K : PySem.W.Frag) (C : Addr) (f g : Str) : Sp := fun vs H Q _ => ∃ (a : Addr) (y z : V), vs = [.ref a, y, z] ∧ H a = some (exo a C none) ∧ ∀ (dx : Addr) (H' : Hp), H dx = none → dx ≠ a → H' a = some (exo a C (some dx)) → H' dx = some (exd dx [(g, z), (f, y)]) → (∀ b, b ≠ a → b ≠ dx → H' b = H b) → Q .non H'
/-- an exception of the class at C is made of vs -/
def MkSp (C : Addr) (sp : Sp) (vs : List V) (H1 : Hp) (Q : VK) : Prop := vs.length ≤ 1000 ∧ ∀ a, H1 a = none → sp (.ref a :: vs) (upd H1 a (exo a C none)) (fun v H2 => v = .non ∧ Q (.ref a) H2) (fun _ _ _ => False)
def MkSpN (C : Addr) (n : Nat) (sp : Sp) (gV : List V → List V → List V) (zs : List V) (H1 : Hp) (Q : VK) : Prop := zs.length = n ∧ ∀ a, H1 a = none → sp (gV [.ref a] zs) (upd H1 a (exo a C none)) (fun v H2 => v = .non ∧ Q (.ref a) H2) (fun _ _ _ => False)
theorem rd_mkV {ta : TA} {sp : Sp} (h : ta σ H fun vs H1 => MkSp C sp vs H1 Q) : tMkV C sp ta σ H Q := h
theorem rd_mkN {n : Nat} {sp : Sp} {gV : List V → List V → List V} {tk : TA} (h : tk σ H fun zs H1 => MkSpN C n sp gV zs H1 Q) : tMkN C n sp gV tk σ H Q := h
theorem same_made {H H' : Hp} {a dx : Addr} {o : HO} (ha : H a = none) (hd : upd H a o dx = none) (k : ∀ b, b ≠ a → b ≠ dx → H' b = upd H a o b) : Same H H' := fun b u e => by
  have n1 : b ≠ a := ne_of_none e ha
  have n2 : b ≠ dx := fun z => by
    rw [z] at e
    rw [z] at n1
    rw [upd_ne n1, e] at hd
    cases hd
  rw [k b n1 n2, upd_ne n1]
  exact e
/-- behind the one value -/
theorem mk1_at {f : Str} {y : V} (k : ∀ v H', Same H H' → ExV H' C v [(f, y)] → Q v H') : MkSp C (spI1 K C f) [y] H Q :=
  ⟨show 1 ≤ 1000 by decide, fun a ha => ⟨a, y, rfl, upd_same, fun dx H' d1 d2 d3 d4 d5 => ⟨rfl, k _ _ (same_made ha d1 d5) ⟨a, dx, rfl, d3, d4⟩⟩⟩⟩
theorem mk2_at {f g : Str} {y z : V} (k : ∀ v H', Same H H' → ExV H' C v [(g, z), (f, y)] → Q v H') : MkSp C (spI2 K C f g) [y, z] H Q :=
  ⟨show 2 ≤ 1000 by decide, fun a ha => ⟨a, y, z, rfl, upd_same, fun dx H' d1 d2 d3 d4 d5 => ⟨rfl, k _ _ (same_made ha d1 d5) ⟨a, dx, rfl, d3, d4⟩⟩⟩⟩
theorem mkn1_at {f : Str} {y : V} (k : ∀ v H', Same H H' → ExV H' C v [(f, y)] → Q v H') : MkSpN C 1 (spI1 K C f) (fun us ws => us ++ ws) [y] H Q := ⟨rfl, (mk1_at (K := K) k).2⟩
theorem mkn2_at {f g : Str} {y z : V} (k : ∀ v H', Same H H' → ExV H' C v [(g, z), (f, y)] → Q v H') : MkSpN C 2 (spI2 K C f g) (fun us ws => us ++ ws.reverse) [z, y] H Q := ⟨rfl, (mk2_at (K := K) k).2⟩
end
end EE

/-! Own layer: flat data, more readings. -/
namespace EE
open PySem PySem.Spec PyProof.Rows L2
theorem gone_of {H H' : Hp} {p : Addr} (s : Same H H') (h : H' p = none) : H p = none := by
  cases q : H p with
  | none => rfl
  | some o =>
    rw [s _ _ q] at h
    cases h
/-! ### flat data: a scalar, or a list, a tuple, a dict of scalars -/
inductive Sc : V → PyData → Prop
  | non : Sc .non .none
  | bl (b : Bool) : Sc (.bl b) (.bool b)
  | int (i : Int) : Sc (.int i) (.int i)
  | str (x : Str) : Sc (.str x) (.str x)
inductive Fl (H : Hp) : V → PyData → Prop
  | sc {v : V} {d : PyData} (h : Sc v d) : Fl H v d
  | lst {a : Addr} {xs : List V} {ds : List PyData} (h : H a = some (.lst xs)) (s : Paired Sc xs ds) : Fl H (.ref a) (.list ds)
  | tup {a : Addr} {xs : List V} {ds : List PyData} (h : H a = some (.tup xs)) (s : Paired Sc xs ds) : Fl H (.ref a) (.tuple ds)
  | dK {a : Addr} {kvs : List (Key × V)} {ds : List PyData} (h : H a = some (.dK kvs)) (s : Paired Sc (kvs.map (·.2)) ds) : Fl H (.ref a) (.dict (List.zip (kvs.map fun p => keyD p.1) ds))
theorem Fl.keep {H H' : Hp} {v : V} {d : PyData} (h : Fl H v d) (s : Same H H') : Fl H' v d := by
  cases h with
  | sc h => exact .sc h
  | lst h t => exact .lst (s _ _ h) t
  | tup h t => exact .tup (s _ _ h) t
  | dK h t => exact .dK (s _ _ h) t
theorem Fl.but {H H' : Hp} {p : Addr} {v : V} {d : PyData} (h : Fl H v d) (n : offV p v) (s : But p H H') : Fl H' v d := by
  cases h with
  | sc h => exact .sc h
  | lst h t => exact .lst (s _ _ n h) t
  | tup h t => exact .tup (s _ _ n h) t
  | dK h t => exact .dK (s _ _ n h) t
theorem Sc.dq {K : PySem.W.Frag} {H : Hp} {v : V} {d : PyData} (h : Sc v d) : Dq K H v d := by
  cases h with
  | non => exact .non
  | bl b => exact .bl b
  | int i => exact .int i
  | str x => exact .str x
theorem scs_dq {K : PySem.W.Frag} {H : Hp} {vs : List V} {ds : List PyData} (h : Paired Sc vs ds) : DqAll K H vs ds := by
  induction h with
  | nil => exact .nil
  | cons h _ ih => exact .cons h.dq ih
theorem Fl.dq {K : PySem.W.Frag} {H : Hp} {v : V} {d : PyData} (h : Fl H v d) : Dq K H v d := by
  cases h with
  | sc h => exact h.dq
  | lst h s => exact .lst (sqL_of h) (scs_dq s)
  | tup h s => exact .tup (sqT_of h) (scs_dq s)
  | dK h s => exact .dK h (scs_dq s)
section
variable {K : PySem.W.Frag} {σ : L2.St} {H : Hp} {Q : VK}
/-- what `self.f = e` asks of its two values -/
def StAt (K : PySem.W.Frag) (f : Str) (y x : V) (D : Ends) (σ : L2.St) (H2 : Hp) : Prop := ∃ a C : Addr, x = .ref a ∧ ExK K C ∧ PySem.W.findIn K (.ref C) f = some none ∧
  ((H2 a = some (exo a C none) ∧ ∀ dx H', H2 dx = none → dx ≠ a → H' a = some (exo a C (some dx)) → H' dx = some (exd dx [(f, y)]) → (∀ b, b ≠ a → b ≠ dx → H' b = H2 b) → D.nx σ H') ∨
    ∃ (dx : Addr) (fs : List (Str × V)), H2 a = some (exo a C (some dx)) ∧ H2 dx = some (exd dx fs) ∧ fs.length ≤ 900 ∧ D.nx σ (upd H2 dx (exd dx ((f, y) :: fs))))
theorem rd_stx {f : Str} {to te : TE} {D : Ends} (h : te σ H fun y H1 => to σ H1 fun x H2 => StAt K f y x D σ H2) : tStX K f to te D σ H := h
theorem rd_par {i j : Nat} {ta : TA} {D : Ends} (h : ta σ H fun vs H1 => ∃ v w, vs = [v, w] ∧ D.nx ((σ.set i (some v)).set j (some w)) H1) : tPar i j ta D σ H := h
theorem rd_exP {v w : V} {P : V → V → Prop} (h : P v w) : ∃ a b, [v, w] = [a, b] ∧ P a b := ⟨v, w, rfl, h⟩
theorem rd_inT {x : V} {p : Addr} {xs : List V} (h : H p = some (.tup xs)) (f1 : flatV x = true) (f2 : xs.all flatV = true) (q : Q (.bl (inV x xs)) H) : rIn K false x (.ref p) H Q := ⟨p, xs, rfl, .inr (sqT_of h), f1, f2, q⟩
theorem rd_neB {b c : Bool} (q : Q (.bl (!decide (b = c))) H) : rNe (.bl b) (.bl c) H Q := ⟨rfl, by
  have e : decide (V.bl b = V.bl c) = decide (b = c) := by simp
  rw [e]; exact q⟩
theorem rd_gtup {n : Nat} {t : TGs} {a : Addr} {xs : List V} {Q : L2.St → Hp → Prop} (h : H a = some (.tup xs)) (hl : xs.length = n) (q : t xs σ H Q) : gTup K n t (.ref a) σ H Q := ⟨a, xs, rfl, sqT_of h, hl, q⟩
theorem rd_gcons {t : TG} {u : TGs} {v : V} {r : List V} {Q : L2.St → Hp → Prop} (h : t v σ H fun σ' H' => u r σ' H' Q) : gCons t u (v :: r) σ H Q := ⟨v, r, rfl, h⟩
theorem rd_gnil {Q : L2.St → Hp → Prop} (h : Q σ H) : gNil [] σ H Q := ⟨rfl, h⟩
theorem rd_app {l : Addr} {xs : List V} {y : V} (h : H l = some (.lst xs)) (hl : xs.length ≤ 1000) (q : ∀ H1, But l H H1 → H1 l = some (.lst (xs ++ [y])) → Q .non H1) : rAppend (.ref l) [y] H Q := ⟨l, xs, y, rfl, rfl, h, small1000 hl, q _ but_upd upd_same⟩
theorem rd_reprQ {a : Addr} {d : PyData} (h : Dq K H (.ref a) d) (h1 : d.showable = true) (h3 : d.depth ≤ 60) (h4 : d.shown.length ≤ sizeLine) (q : Q (.str d.shown) H) : rReprQ K [.ref a] H Q := ⟨a, d, rfl, h, h1, h3, h4, q⟩
end
theorem inV_int {i : Int} : ∀ {ns : List Int}, inV (.int i) (ns.map V.int) = decide (i ∈ ns)
  | [] => rfl
  | n :: ns => by
    have e : inV (.int i) ((n :: ns).map V.int) = ((n == i) || inV (.int i) (ns.map V.int)) := rfl
    rw [e, inV_int (ns := ns)]
    by_cases h : n = i
    · subst h; simp
    · have h2 : ¬ i = n := fun z => h z.symm
      simp [h, h2]
theorem rd_inI {K : PySem.W.Frag} {H : Hp} {Q : VK} {i : Int} {p : Addr} (ns : List Int) (h : H p = some (.tup (ns.map V.int))) (q : Q (.bl (decide (i ∈ ns))) H) : rIn K false (.int i) (.ref p) H Q := by
  refine rd_inT h rfl ?_ ?_
  · clear h q
    induction ns with
    | nil => rfl
    | cons n ns ih => exact ih
  · rw [inV_int]
    exact q
/-- a field is read -/
def XvAt (K : PySem.W.Frag) (f : Str) (x : V) (H1 : Hp) (Q : VK) : Prop := ∃ (a dx C : Addr) (fs : List (Str × V)) (v : V), x = .ref a ∧ H1 a = some (exo a C (some dx)) ∧ H1 dx = some (exd dx fs) ∧ ExK K C ∧ PySem.W.findIn K (.ref C) f = some none ∧ fs.lookup f = some v ∧ Q v H1
theorem rd_xvA {K : PySem.W.Frag} {σ : L2.St} {H : Hp} {Q : VK} {f : Str} {te : TE} (h : te σ H fun x H1 => XvAt K f x H1 Q) : tXv K f te σ H Q := h
theorem xv_at {K : PySem.W.Frag} {f : Str} {x v : V} {H : Hp} {Q : VK} {C : Addr} {fs : List (Str × V)} (h : ExV H C x fs) (T : ExK K C) (n : PySem.W.findIn K (.ref C) f = some none) (l : fs.lookup f = some v) (q : Q v H) : XvAt K f x H Q := by
  obtain ⟨a, dx, e, e1, e2⟩ := h
  exact ⟨a, dx, C, fs, v, e, e1, e2, T, n, l, q⟩
/-- an exception of the class at C, of fields or of none -/
def ExAny (H : Hp) (C : Addr) (v : V) : Prop := ExN H C v ∨ ∃ fs, ExV H C v fs
theorem ExAny.keep {H H' : Hp} {C : Addr} {v : V} (h : ExAny H C v) (s : Same H H') : ExAny H' C v := h.imp (fun z => z.keep s) fun ⟨fs, z⟩ => ⟨fs, z.keep s⟩
theorem isx_at {K : PySem.W.Frag} {H : Hp} {Q : VK} {C D : Addr} {x : V} {b : Bool} (h : ExAny H C x) (T : ExK K C) (e : PySem.W.kitOne K (.ref C) (.ref D) = some b) (q : Q (.bl b) H) : rIsX K [x, .ref D] H Q := by
  rcases h with h | ⟨fs, h⟩
  · exact rd_isX0 h (.own D) T e q
  · exact rd_isX h (.own D) T e q
theorem isx_ty {K : PySem.W.Frag} {H : Hp} {Q : VK} {C : Addr} {x : V} {n : String} {b : Bool} (h : ExAny H C x) (T : ExK K C) (e : PySem.W.kitOne K (.ref C) (.type n) = some b) (q : Q (.bl b) H) : rIsX K [x, .ty n] H Q := by
  rcases h with h | ⟨fs, h⟩
  · exact rd_isX0 h (.ty n) T e q
  · exact rd_isX h (.ty n) T e q
theorem atI_nat {xs : List V} {i : Nat} {v : V} (h : xs[i]? = some v) : atI xs (0 + (i : Int)) = some v := by
  have hi := (List.getElem?_eq_some_iff.mp h).1
  unfold atI ixN
  rw [if_pos (by omega), if_pos (by omega), Option.bind_some, show (0 + (i : Int)).toNat = i by omega]
  exact h
theorem ix_listK {X : Cx} {K : PySem.W.Frag} (e : X.K = K) : IxR X (rIxL K) := by
  subst e
  exact ix_list
/-- both ways of a conditional expression give what R tells, and the walk goes on once -/
theorem rd_ifJ {σ : L2.St} {H : Hp} {Q : VK} {b : Bool} {ta tb : TE} (R : V → Hp → Prop) (h1 : ∀ Q1 : VK, (∀ v H', R v H' → Q1 v H') → b = true → ta σ H Q1) (h2 : ∀ Q1 : VK, (∀ v H', R v H' → Q1 v H') → b = false → tb σ H Q1) (hq : ∀ v H', R v H' → Q v H') : if b = true then ta σ H Q else tb σ H Q :=
  rd_ite (h1 Q hq) (h2 Q hq)
/-! ### error classes as the law's texts need them -/
structure Err (P : Program) (w : World) (K : PySem.W.Frag) (mg : Str → Option Value) (base : Heap) (x : Str) (C fI : Addr) (fd : FuncData) (ps : List Str) (sp : Sp) : Prop where
  T : ExK K C
  g : mg x = some (.ref C)
  iC : PySem.W.findIn K (.ref C) "__init__" = some (some (.ref fI))
  tI : PySem.W.typeIn K (.ref fI) = some (.type "function")
  G : FnOk P w K mg base CX0 1 fI fd ("self" :: ps) sp
  b : Binds K fd ("self" :: ps) []
  n : ∀ f ∈ ps, PySem.W.findIn K (.ref C) f = some none
structure Err0 (K : PySem.W.Frag) (mg : Str → Option Value) (x : Str) (C : Addr) (bm : List Value) (newId : String) : Prop where
  T : ExK K C
  g : mg x = some (.ref C)
  q : PySem.W.excIn K C bm newId = true
  k : PySem.W.keepIn K (.ref C) = true
/-- one keyword behind self -/
theorem kbn_self {K : PySem.W.Frag} {x qual : Str} {st : Stmt} {f : Addr} {fd : FuncData} {p : Str} (F : Fun K x qual st f fd)
    (h : ∀ (kV doc pm : Value) (an : Option Addr) (cdv ct : Value) (u v : Value), bindArgs (PySem.W.fnOf x qual (defArgs st) (defBody st) (defScope st) .none kV doc pm an cdv ct) ⟨[v], [(p, u)]⟩ = pure [(("self" : Str), v), (p, u)]) :
    KBn K fd ["self", p] 1 [p] (fun us ws => us ++ ws) (fun us ws => us ++ ws) := by
  obtain ⟨oc, od, kV, doc, pm, an, cdv, ct, osl, rfl, lk, hcd⟩ := F.ex
  refine ⟨fun s us ws _ l1 l2 => ?_, fun r1 r2 => r1.append r2⟩
  match us, ws, l1, l2 with
  | [v], [w], _, _ => exact .of_eq (h kV doc pm an cdv ct w v)
theorem vals_rev : ∀ {xs : List V} {us : List Value}, Vals xs us → Vals xs.reverse us.reverse
  | _, _, .nil => .nil
  | _, _, .cons r t => by
    rw [List.reverse_cons, List.reverse_cons]
    exact (vals_rev t).append (.cons r .nil)
/-- two keywords behind self, the other way round -/
theorem kbn_self2 {K : PySem.W.Frag} {x qual : Str} {st : Stmt} {f : Addr} {fd : FuncData} {p q : Str} (F : Fun K x qual st f fd)
    (h : ∀ (kV doc pm : Value) (an : Option Addr) (cdv ct : Value) (u v w : Value), bindArgs (PySem.W.fnOf x qual (defArgs st) (defBody st) (defScope st) .none kV doc pm an cdv ct) ⟨[w], [(q, u), (p, v)]⟩ = pure [(("self" : Str), w), (p, v), (q, u)]) :
    KBn K fd ["self", p, q] 1 [q, p] (fun us ws => us ++ ws.reverse) (fun us ws => us ++ ws.reverse) := by
  obtain ⟨oc, od, kV, doc, pm, an, cdv, ct, osl, rfl, lk, hcd⟩ := F.ex
  refine ⟨fun s us ws _ l1 l2 => ?_, fun r1 r2 => r1.append (vals_rev r2)⟩
  match us, ws, l1, l2 with
  | [w], [u, v], _, _ => exact .of_eq (h kV doc pm an cdv ct u v w)
/-! ### tables of subclass tests -/
theorem tab_at {K : PySem.W.Frag} {L : List Addr} {c : Value} {T : List (Option Bool)} (h : L.map (fun i => PySem.W.kitOne K (.ref i) c) = T) {i : Nat} (hi : i < L.length) : PySem.W.kitOne K (.ref (L.getD i 0)) c = T.getD i none := by
  rw [← h, List.getD_eq_getElem?_getD, List.getD_eq_getElem?_getD, List.getElem?_map, List.getElem?_eq_getElem hi]
  rfl
end EE

/-! Own layer: except (A, B) as e, the caught exception kept as a value. -/
namespace EE
open PySem PySem.Spec PyProof.Rows L2
/-- at e: an exception that has flown, its class and its dict alone told -/
def exw (e : Addr) (cls : Value) (d : Option Addr) : HO := .ext fun h => ∃ (o : Obj) (vs : Array Value), h.get? e = some o ∧ o.cls = cls ∧ o.dict = d ∧ o.data = .fields vs
theorem exw_ok {P : Program} {w : World} {H : Hp} {h : Heap} {e : Addr} {cls : Value} {d : Option Addr} {o : Obj} {vs : Array Value} (he : h.get? e = some o) (z : Zc cls d o) (hd : o.data = .fields vs) : ObjOk P w H h e (exw e cls d) :=
  ⟨⟨o, vs, he, z.1, z.2, hd⟩, ⟨o, he⟩, fun h1 h2 ⟨o', vs', q, r⟩ k => ⟨o', vs', k _ q, r⟩⟩
theorem exw_at {P : Program} {w : World} {H : Hp} {h : Heap} {e : Addr} {cls : Value} {d : Option Addr} (hok : HOk P w H h) (he : H e = some (exw e cls d)) : ∃ (o : Obj) (vs : Array Value), h.get? e = some o ∧ o.cls = cls ∧ o.dict = d ∧ o.data = .fields vs := by
  have x : ObjOk P w H h e (.ext fun h => ∃ (o : Obj) (vs : Array Value), h.get? e = some o ∧ o.cls = cls ∧ o.dict = d ∧ o.data = .fields vs) := hok e _ he
  exact x.1
section
variable {X : Cx} {pins : List (Addr × Obj)} {σ : L2.St} {H : Hp} {s : Shared}
/-- an object of ours that stands there untracked is tracked from now on -/
theorem _root_.L2.Inv.adopt {a : Addr} {o : Obj} {ob : HO} (I : Inv X pins σ H s) (ha : s.heap.get? a = some o) (nc : ∀ v, o.data ≠ .cell v) (na : H a = none) (n0 : X.s_0.heap.get? a = none) (nL : a ≠ X.env.locals) (nP : ∀ p ∈ X.pn ++ pins, p.1 ≠ a)
    (new : ObjOk X.prog X.w (upd H a ob) s.heap a ob) : Inv X pins σ (upd H a ob) s := by
  have n0' : ∀ b u, X.s_0.heap.get? b = some u → b ≠ a := fun b u e z => by
    rw [z, n0] at e
    cases e
  have nH : ∀ b u, H b = some u → b ≠ a := fun b u e => ne_of_none e na
  refine ⟨I.ok, I.os, I.bare, ⟨I.base.keep, I.base.slot, fun b u e n hx => ?_, I.base.there, fun b xs e => ?_, fun b u v e => ?_, fun b ps e => ?_⟩, I.loc, I.cell, ?_, fun x c e => ?_, fun p hp => ?_, fun b u e => ?_, I.len⟩
  · rw [upd_ne (n0' b u e)]
    exact I.base.free b u e n hx
  · have q := I.base.tups b xs e
    rw [upd_ne (nH _ _ q)]
    exact q
  · have q := I.base.frzs b u v e
    rw [upd_ne (nH _ _ q)]
    exact q
  · obtain ⟨m, q⟩ := I.base.tbls b ps e
    exact ⟨m, by rw [upd_ne (nH _ _ q)]; exact q⟩
  · rw [upd_ne (Ne.symm nL)]
    exact I.free
  · have ne : c ≠ a := fun z => by
      obtain ⟨v, o', h1, h2⟩ := I.cell x c e
      rw [z, ha] at h1
      cases h1
      exact nc _ h2
    rw [upd_ne ne]
    exact I.freeC x c e
  · obtain ⟨q1, q2, q3⟩ := I.pin p hp
    exact ⟨q1, by rw [upd_ne (nP p hp)]; exact q2, q3⟩
  · by_cases hb : b = a
    · subst hb
      rw [upd_same] at e
      cases e
      exact new
    · rw [upd_ne hb] at e
      refine (I.hok b u e).stay (fun c v _ z => z) (fun c z => ?_) fun c xs z => ?_
      · rw [upd_ne (nH _ _ z)]
        exact z
      · rw [upd_ne (nH _ _ z)]
        exact z
theorem fly_keeps {B h h' : Heap} {l : List Env} {e : Addr} {Z : Obj → Prop} (x : HandSPX.FlyingZ B l e Z h) (k : ∀ b o, h.get? b = some o → h'.get? b = some o) : HandSPX.FlyingZ B l e Z h' := by
  obtain ⟨q1, q2, q3, oe, vs, T, oT, ts, h1, h2, h3, h4, h5, h6, h7, h8, h9⟩ := x
  exact ⟨fun b o z => k _ _ (q1 b o z), q2, Heap.FunFrames.of_keeps (fun b o z _ => ⟨o, k b o z, rfl⟩) q3, oe, vs, T, oT, ts, k _ _ h1, h2, h3, h4, h5, h6, k _ _ h7, h8, h9⟩
end
/-- a global name that means the class -/
def NameIs (X : Cx) (x : Str) (c : Value) : Prop := Names X x c
/-- what `except (A, B) as n: suite` wishes of an exception of the body: slot i is n's; behind the suite the exception is a value at a -/
def wVal (K : PySem.W.Frag) (c1 c2 : Value) (i : Nat) (ts : Addr → Value → Option Addr → TS) (Wout : WX) (D : Ends) : WX := fun cls d σ H =>
  ∃ b, PySem.W.exmAny K cls [c1, c2] = some b ∧ (b = true → ∀ a, H a = none → ts a cls d
    { nx := fun σ' H' => H' a = none → D.nx (σ'.set i none) (upd H' a (exw a cls d)), rt := fun v H' => H' a = none → D.rt v (upd H' a (exw a cls d)), bk := fun σ' H' => H' a = none → D.bk (σ'.set i none) (upd H' a (exw a cls d)), ct := fun σ' H' => H' a = none → D.ct (σ'.set i none) (upd H' a (exw a cls d)) } (σ.set i (some (.ref a))) H) ∧
    (b = false → Wout cls d σ H)
section
variable {X : Cx} {x1 x2 n : Str} {c1 c2 : Value} {i kk : Nat} {body suite : List Stmt} {b0 : Stmt} {p1 p2 pt pos pos' : Pos} {tb : WX → TS} {ts : Addr → Value → Option Addr → TS} {Wout : WX}
theorem ps_tryV (hs : X.stack = X.env :: X.outer) (hf : X.env.frame = some X.env.locals) (hex : X.ex = []) (hN : X.N.Nodup) (hi : X.N[i]? = some n) (hln : X.env.kindOf n = some .local) (hc1 : Names X x1 c1) (hc2 : Names X x2 c2) (tk : Takes X Wout)
    (hb : ∀ (W : WX) (pn : List (Addr × Obj)) (xe : Value → Shared → Prop), Takes (X.tr pn xe) W → PassesOwn (model X.prog X.w) X.A X.env xe → PSs (X.tr pn xe) body (tb W))
    (hsu : ∀ (a : Addr) (oe : Obj) (cls : Value) (d : Option Addr) (pn : List (Addr × Obj)), Zc cls d oe → (∃ vs, oe.data = .fields vs) → PSs (X.suite a ((a, oe) :: pn)) (b0 :: suite) (ts a cls d)) :
    PS X (.Try body [.ExceptHandler (some (.Tuple [.Name x1 p1, .Name x2 p2] kk pt)) (some n) (b0 :: suite) pos'] [] [] pos) (fun D σ H => tb (wVal X.K c1 c2 i ts Wout D) D σ H) := by
  refine ⟨fun pins s σ H D I h => ?_⟩
  have ok := I.ok
  have hfr : X.A.frames = some (X.env :: X.outer) := by rw [ok.frames, hs]
  have hloc : Loc X.env.scope n := .inl hln
  refine wpAny_Try_except ?_
  refine wpAny_mono ((hb (wVal X.K c1 c2 i ts Wout D) (X.pn ++ pins) (fun e z1 => wpAny (model X.prog X.w) X.A (noteFrame e X.env) (fun _ z2 => wpAny (model X.prog X.w) X.A (setFlight e none) (fun _ z3 =>
    wpAny (model X.prog X.w) X.A (handleBy e X.env [.ExceptHandler (some (.Tuple [.Name x1 p1, .Name x2 p2] kk pt)) (some n) (b0 :: suite) pos']) (SP X pins D) X.xe z3) X.xe z2) X.xe z1) (fun u s' xx => ?_) PassesOwn.looking).run [] s σ H D (I.toTry _) h) (fun f s1 hsp => ?_) (fun e s1 he => he)
  · obtain ⟨a, B, sI, pins', σ', H', cls, d, rfl, J', nb, up, sky, na, os, ag, b, hb1, hyes, hno⟩ := xx
    have J : Inv X pins σ' H' sI := J'.ofTry ok
    have sky' : Sky B (X.env :: X.outer) a (Zc cls d) X.env.locals s'.heap := by rw [← hs]; exact sky
    show wpAny (model X.prog X.w) X.A (noteFrame (.ref a) X.env) _ _ _
    refine Sky.land Zc.steady hfr hf sky' fun h3 fl3 up3 => ?_
    have J3 : Inv X pins σ' H' { s' with heap := h3 } := J.landed nb fl3.1 (up.trans up3) os ag
    obtain ⟨oe3, vs3, he3, hz3, hd3⟩ := fl3.there
    have notFr : ∀ {h : Heap} {o : Obj} {vs : Array Value}, h.FunFrames B (X.env :: X.outer) → h.get? a = some o → o.data = .fields vs → a ∉ frs (X.env :: X.outer) := fun {h o vs} ff e dd hm => by
      obtain ⟨_, o', e', hnf⟩ := ff.mem hm
      rw [e] at e'; cases e'
      exact hnf _ dd
    have nfr := notFr fl3.2.2.1 he3 hd3
    have nL : a ≠ X.env.locals := fun z => nfr (List.mem_filterMap.mpr ⟨X.env, List.mem_cons_self, by rw [hf, z]⟩)
    have nF : a ∉ X.fs := fun hm => by
      obtain ⟨e, he, q⟩ := List.mem_filterMap.mp hm
      exact nfr (List.mem_filterMap.mpr ⟨e, List.mem_cons_of_mem _ he, q⟩)
    have nI : ∀ b o, sI.heap.get? b = some o → b ≠ a := fun b o e z => by
      rw [z] at e
      have q := nb a o e (by rw [hs]; exact nfr)
      rw [fl3.2.1] at q
      cases q
    have n0 : X.s_0.heap.get? a = none := by
      cases q : X.s_0.heap.get? a with
      | none => rfl
      | some o =>
        obtain ⟨o', z⟩ := J.base.there a o q (by rw [hex]; exact fun z => nomatch z)
        exact absurd rfl (nI a o' z)
    have nP : ∀ p ∈ X.pn ++ pins, p.1 ≠ a := fun p hp => nI _ _ (J.pin p hp).1
    have S3 := J3.suite he3 hd3 na nL nF
    refine wpAny_handleBy_cons (codeAny_handlers_test ?_) (by intro q; cases q)
    have LT : PySem.W.Looks (model X.prog X.w) h3 (typeOf (.ref a)) cls := fun A Q E s k q => wpAny_typeOf_ref (k _ _ he3) (by rw [hz3.1]; exact q)
    have nm : ∀ {x : Str} {c : Value} {p : Pos}, Names X x c → ∀ {Q : Value → Shared → Prop} {E : Value → Shared → Prop}, Q c { s' with heap := h3 } → wpAny (model X.prog X.w) (X.A.mark (some (.ref a))) (eval (.Name x p) X.env) Q E { s' with heap := h3 } := fun {x c p} hc {Q E} q => by
      obtain ⟨hg, hdbg, hm | ⟨hm, hv, hnn⟩⟩ := hc
      · exact ld_glob (X := X.suite a ((a, oe3) :: (X.pn ++ pins))) S3 hg hm q hdbg
      · exact ld_blt (X := X.suite a ((a, oe3) :: (X.pn ++ pins))) S3 hg hm hv q hnn hdbg
    refine wpAny_Tuple ?_
    refine wpAny_items_cons (nm hc1 ?_)
    refine wpAny_items_cons (nm hc2 ?_)
    refine wpAny_items_nil ⟨by size_fits, ?_⟩
    have kp : ∀ q o, h3.get? q = some o → (h3.push { cls := .type "tuple", data := .seq [c1, c2].toArray }).get? q = some o := fun _ _ z => Heap.get?_push_of_some _ z
    have fl3' := fly_keeps fl3 kp
    have up3' : h3.UpToSlots (h3.push { cls := .type "tuple", data := .seq [c1, c2].toArray }) := Heap.UpToSlots.of_keeps kp
    refine (PySem.W.exm_tup2 (M := model X.prog X.w) (J3.kIn.keeps kp) (LT.keeps kp) (Heap.get?_push_size h3 rfl) hb1).here ?_
    cases b with
    | true =>
      refine codeAny_handlers_suite_as ?_
      refine HandSPX.lands_againZ fl3' fun h4 fl4 up4 => ?_
      have J4 : Inv X pins σ' H' { s' with heap := h4 } := J.landed nb fl4.1 (((up.trans up3).trans up3').trans up4) os ag
      obtain ⟨oe4, vs4, he4, hz4, hd4⟩ := fl4.there
      have S4 := J4.suite he4 hd4 na nL nF
      refine store_ok (X := X.suite a ((a, oe4) :: (X.pn ++ pins))) (v := .ref a) S4 hN hi hloc rfl (fun s5 S5 => ?_) (.inr hln)
      refine wpAny_mono ((hsu a oe4 cls d (X.pn ++ pins) hz4 ⟨_, hd4⟩).run [] s5 _ H' _ S5 (hyes rfl a na)) (fun f s6 hsp => ?_) (fun _ _ z => False.elim z)
      have end_ : ∀ {σ6 : L2.St} {H6 : Hp} {Q : Shared → Prop}, Inv (X.suite a ((a, oe4) :: (X.pn ++ pins))) [] σ6 H6 s6 → (∀ s7, H6 a = none → Inv X pins (σ6.set i none) (upd H6 a (exw a cls d)) s7 → Q s7) →
          wpAny (model X.prog X.w) X.A (do bindName X.env n .none; unbindBehindTheSuite X.env n pos') (fun _ s7 => Q s7) X.xe s6 := fun {σ6 H6 Q} S6 hq => by
        obtain ⟨q1, q2, _⟩ := S6.pin (a, oe4) (List.mem_append_left _ List.mem_cons_self)
        have J6 := (S6.unsuite ok).adopt q1 (fun v z => by rw [hd4] at z; cases z) q2 n0 nL nP (exw_ok (P := X.prog) (w := X.w) q1 hz4 hd4)
        exact gone_ok J6 hN hi hln fun s7 J7 => hq s7 q2 J7
      cases f with
      | next =>
        obtain ⟨σ6, H6, S6, q6⟩ := hsp
        exact end_ S6 fun s7 na6 J7 => ⟨_, _, J7, q6 na6⟩
      | brk =>
        obtain ⟨σ6, H6, S6, q6⟩ := hsp
        exact end_ S6 fun s7 na6 J7 => ⟨_, _, J7, q6 na6⟩
      | cont =>
        obtain ⟨σ6, H6, S6, q6⟩ := hsp
        exact end_ S6 fun s7 na6 J7 => ⟨_, _, J7, q6 na6⟩
      | ret u =>
        obtain ⟨v6, σ6, H6, S6, r6, q6⟩ := hsp
        exact end_ S6 fun s7 na6 J7 => ⟨_, _, _, J7, r6, q6 na6⟩
    | false =>
      show wpAny _ X.A (handleBy (.ref a) X.env []) _ _ _
      refine wpAny_handleBy_nil ?_
      obtain ⟨k1, k2, k3, oe, vs, T, oT, ts', he, hz, hd, h1, hr⟩ := id fl3'
      unfold PySem.passOn
      refine wpAny_bind (wpAny_field he hd h1 ?_)
      rw [if_neg (show ¬ ((Value.ref T == Value.none) = true) from by simp)]
      have fin : wpAny (model X.prog X.w) X.A (setFlight (.ref a) X.env.frame) (fun _ z4 => wpAny (model X.prog X.w) X.A (throw (.ref a) : Sem Flow) (SP X pins D) X.xe z4) X.xe { s' with heap := h3.push { cls := .type "tuple", data := .seq [c1, c2].toArray } } := by
        rw [hf]
        refine HandSPX.setFlight_upZ fl3' fun h4 hh4 up4 => wpAny_throw (tk _ _ ?_)
        exact ⟨a, B, sI, pins, σ', H', cls, d, rfl, J, nb, ((up.trans up3).trans up3').trans up4, .inr (.inr (by rw [hs]; exact hh4)), na, os, ag, hno rfl⟩
      first
        | exact wpAny_bind (wpAny_pure (wpAny_bind fin))
        | exact wpAny_bind fin
  · cases f with
    | next =>
      obtain ⟨σ', H', J', q⟩ := hsp
      exact wpAny_execs_nil ⟨σ', H', J'.ofTry ok, q⟩
    | brk =>
      obtain ⟨σ', H', J', q⟩ := hsp
      exact ⟨σ', H', J'.ofTry ok, q⟩
    | cont =>
      obtain ⟨σ', H', J', q⟩ := hsp
      exact ⟨σ', H', J'.ofTry ok, q⟩
    | ret u =>
      obtain ⟨v, σ', H', J', r, q⟩ := hsp
      exact ⟨v, σ', H', J'.ofTry ok, r, q⟩
end
end EE
namespace EE
open PySem PySem.Spec PyProof.Rows L2
/-! ### raise C(e, ..), C an own class with an __init__ of its own -/
def MkR (C : Addr) (sp : Sp) (vs : List V) (H1 : Hp) (Q : XK) : Prop := vs.length ≤ 1000 ∧ ∀ a, H1 a = none → sp (.ref a :: vs) (upd H1 a (exo a C none))
  (fun v H2 => v = .non ∧ ∃ (d : Addr) (fs : List (Str × V)), H2 a = some (exo a C (some d)) ∧ H2 d = some (exd d fs) ∧ H1 d = none ∧ Q (.ref C) (some d) (upd (L2.del H2 a) d (.xd fs))) (fun _ _ _ => False)
def tMkR (C : Addr) (sp : Sp) (ta : TA) : L2.St → Hp → XK → Prop := fun σ H Q => ta σ H fun vs H1 => MkR C sp vs H1 Q
theorem rd_mkR {C : Addr} {sp : Sp} {ta : TA} {σ : L2.St} {H : Hp} {Q : XK} (h : ta σ H fun vs H1 => MkR C sp vs H1 Q) : tMkR C sp ta σ H Q := h
section
variable {X : Cx} {CX : CXT} {x : Str} {C fI : Addr} {k : Nat} {fd : FuncData} {ps : List Str} {sp : Sp} {e : Expr} {es : List Expr} {ta : TA} {p pos : Pos}
theorem pmk_x (T : ExK X.K C) (iC : PySem.W.findIn X.K (.ref C) "__init__" = some (some (.ref fI))) (tI : PySem.W.typeIn X.K (.ref fI) = some (.type "function"))
    (FI : FnOk X.prog X.w X.K X.mg X.base CX k fI fd ps sp) (hr : Room (k + 1) X.A) (hb : Binds X.K fd ps []) (hx : Passes CX X (fun _ _ _ => False)) (hg : Gl X x) (hm : X.mg x = some (.ref C)) (ha : PA X (e :: es) ta)
    (ndb : (x == ("__debug__" : Str)) = false := by decide) (hst : starEach (e :: es) X.env = (false, eval e X.env) :: starEach es X.env := by rfl) (plain : (backTo pos (starEach es X.env)).any (·.1) = false := by rfl) :
    PMk X (.Call (.Name x p) (e :: es) [] pos) (tMkR C sp ta) := by
  intro pins s σ H Q I h
  refine wpAny_Call_Name_kw (ld_glob I hg hm ?_ ndb)
  refine PySem.W.callWith_K (h₀ := X.base) I.ok.mod.kin T.kC (thn (ha.run pos pins s σ H _ I h) fun us s1 ⟨vs, H1, I1, r1, hz, q1⟩ => ⟨I1.kIn, ?_⟩) hst plain
  obtain ⟨B, newId, initId, bmB, nm, N, qn, bs, bm, hdct, sn, sub, ab, col, dd, k0, k1, k2, k3, k5, FB, hC, hT⟩ := init_of T I1.kIn
  obtain ⟨hp, gs, dn, tk, os⟩ := s1
  have up : hp.objs.size ≤ hp.objs.size + 1 := Nat.le_succ _
  have kk : ∀ b o, hp.get? b = some o → ((hp.push (PySem.W.kdv_tup us)).push (PySem.HandSPX.excO C hp.objs.size)).get? b = some o := fun b o z => Heap.get?_push_of_some _ (Heap.get?_push_of_some _ z)
  have q2 := q1 (hp.objs.size + 1) (I1.hok.fresh up)
  have I2 := I1.laid (t' := tk) (a := hp.objs.size + 1) (o := exo (hp.objs.size + 1) C none) (h' := (hp.push (PySem.W.kdv_tup us)).push (PySem.HandSPX.excO C hp.objs.size)) kk up (exo_ok (t1 := hp.objs.size) (by heap_get))
  have r2 : Vals (V.ref (hp.objs.size + 1) :: vs) (Value.ref (hp.objs.size + 1) :: us) := .cons rfl r1
  have ln : (Value.ref (hp.objs.size + 1) :: us ++ []).length = ps.length := by rw [List.append_nil, ← r2.length, FI.len _ _ _ _ q2]
  have few : us.length ≤ sizeLine := Nat.le_trans (Nat.le_of_eq r1.length.symm) (Nat.le_trans hz (by decide))
  have bd := hb _ (Value.ref (hp.objs.size + 1) :: us) I2.kIn ln
  rw [List.append_nil] at bd
  refine wpAny_call (PySem.HandSPX.call_own FB hT hC (PySem.W.looks_findIn I1.kIn iC) (fun self => PySem.W.bind_fn I1.kIn self tI) few (codeAny_mono (FI.run _ X.stack _ _ ⟨Value.ref (hp.objs.size + 1) :: us, []⟩ _ _ _ _ (hr.make C us []) (I2.env0.make C us []) bd r2 q2) fun r s' z => ?_))
  match r, z with
  | .error er, z => exact hx pins σ _ _ er s' I2 z
  | .ok (.ret u), ⟨v, H2, os2, bare2, un2, hok2, rv, ev, d, fs, ea, ed, hd1, q3⟩ =>
    subst ev
    obtain ⟨h2, g2, d2, t2, os'⟩ := s'
    exact ⟨rv, mk_end (raises_own T.exC T.tyC) I1 up kk un2 hok2 os2 bare2 ea ed hd1 q3⟩
  | .ok .next, z => exact z.elim
  | .ok .brk, z => exact z.elim
  | .ok .cont, z => exact z.elim
end
theorem same_raised {H1 H' : Hp} {a dx : Addr} {o u : HO} (ha : H1 a = none) (hd : upd H1 a o dx = none) (k : ∀ b, b ≠ a → b ≠ dx → H' b = upd H1 a o b) : Same H1 (upd (L2.del H' a) dx u) := fun b w e => by
  have n1 : b ≠ a := ne_of_none e ha
  have n2 : b ≠ dx := fun z => by
    rw [z] at e n1
    rw [upd_ne n1, e] at hd
    cases hd
  rw [upd_ne n2, del_ne n1, k b n1 n2, upd_ne n1]
  exact e
theorem none_new {H1 : Hp} {a dx : Addr} {o : HO} (hn : dx ≠ a) (hd : upd H1 a o dx = none) : H1 dx = none := by rw [upd_ne hn] at hd; exact hd
section
variable {K : PySem.W.Frag} {C : Addr} {H : Hp} {Q : XK}
theorem raise1_at {f : Str} {y : V} (k : ∀ d H', Same H H' → H d = none → H' d = some (.xd [(f, y)]) → Q (.ref C) (some d) H') : MkR C (spI1 K C f) [y] H Q :=
  ⟨show 1 ≤ 1000 by decide, fun a ha => ⟨a, y, rfl, upd_same, fun dx H' d1 d2 d3 d4 d5 => ⟨rfl, dx, _, d3, d4, none_new d2 d1, k _ _ (same_raised ha d1 d5) (none_new d2 d1) upd_same⟩⟩⟩
theorem raise2_at {f g : Str} {y z : V} (k : ∀ d H', Same H H' → H d = none → H' d = some (.xd [(g, z), (f, y)]) → Q (.ref C) (some d) H') : MkR C (spI2 K C f g) [y, z] H Q :=
  ⟨show 2 ≤ 1000 by decide, fun a ha => ⟨a, y, z, rfl, upd_same, fun dx H' d1 d2 d3 d4 d5 => ⟨rfl, dx, _, d3, d4, none_new d2 d1, k _ _ (same_raised ha d1 d5) (none_new d2 d1) upd_same⟩⟩⟩
end
/-! ### what was caught, read -/
/-- an exception that was caught: its class, its fields -/
def ExW (H : Hp) (C : Addr) (v : V) (fs : List (Str × V)) : Prop := ∃ a dx : Addr, v = .ref a ∧ H a = some (exw a (.ref C) (some dx)) ∧ H dx = some (.xd fs)
theorem ExW.keep {H H' : Hp} {C : Addr} {v : V} {fs : List (Str × V)} (h : ExW H C v fs) (s : Same H H') : ExW H' C v fs := by
  obtain ⟨a, dx, e, e1, e2⟩ := h
  exact ⟨a, dx, e, s _ _ e1, s _ _ e2⟩
def XwAt (K : PySem.W.Frag) (f : Str) (x : V) (H1 : Hp) (Q : VK) : Prop := ∃ (C : Addr) (fs : List (Str × V)) (v : V), ExW H1 C x fs ∧ ExK K C ∧ PySem.W.findIn K (.ref C) f = some none ∧ fs.lookup f = some v ∧ Q v H1
def tXw (K : PySem.W.Frag) (f : Str) (te : TE) : TE := fun σ H Q => te σ H fun x H1 => XwAt K f x H1 Q
def rIsW (K : PySem.W.Frag) : List V → Hp → VK → Prop := fun xs H Q => ∃ (x c : V) (C : Addr) (fs : List (Str × V)) (cv : Value) (b : Bool), xs = [x, c] ∧ ExW H C x fs ∧ ClsV c cv ∧ ExK K C ∧ PySem.W.kitOne K (.ref C) cv = some b ∧ Q (.bl b) H
def rIsWT (K : PySem.W.Frag) : List V → Hp → VK → Prop := fun xs H Q => ∃ (x : V) (tp C : Addr) (cs : List V) (fs : List (Str × V)) (us : List Value) (b : Bool), xs = [x, .ref tp] ∧ ExW H C x fs ∧ H tp = some (.tup cs) ∧ Paired ClsV cs us ∧ ExK K C ∧ PySem.W.kitAny K (.ref C) us = some b ∧ Q (.bl b) H
section
variable {X : Cx} {pins : List (Addr × Obj)} {σ : L2.St} {H : Hp} {s : Shared} {C : Addr} {v : V} {fs : List (Str × V)}
theorem exw_inst (I : Inv X pins σ H s) (h : ExW H C v fs) : ∃ (a : Addr) (o od : Obj) (mA : Str → Option Value), v = .ref a ∧ PySem.W.InstAt s.heap a o C (some od) ∧ (∀ f, RelO (fs.lookup f) (mA f)) ∧ ∀ name, PySem.W.lookIn name od = some (mA name) := by
  obtain ⟨a, dx, e, e1, e2⟩ := h
  obtain ⟨o, vs, ho, hc, hd, hv⟩ := exw_at I.hok e1
  obtain ⟨mA, hns, rel⟩ := (show ObjOk X.prog X.w H s.heap dx (.xd fs) from I.hok dx _ e2)
  obtain ⟨od, hod, look⟩ := lookIn_ns hns
  exact ⟨a, o, od, mA, e, ⟨ho, hc, by unfold PySem.W.notCls; rw [hv], by rw [hd]; exact hod⟩, rel, look⟩
theorem pe_xw {e : Expr} {te : TE} {pos : Pos} {n : Str} (he : PE X e te) (hb : attributeBase e n X.env (eval e X.env) = eval e X.env := by rfl) : PE X (.Attribute e n pos) (tXw X.K n te) := by
  refine ⟨fun pins s σ H Q I h => attr_of hb (thn (he.run pins s σ H _ I h) fun u s1 ⟨x, H1, I1, rx, C, fs, v, hx, T, hno, hl, q⟩ => ?_)⟩
  obtain ⟨a, o, od, mA, rfl, J, rel, look⟩ := exw_inst I1 hx
  obtain rfl : u = Value.ref a := rx
  obtain ⟨u, hu, ru⟩ := RelO.some_of (v := v) (o := mA n) (by rw [← hl]; exact rel n)
  exact HandSPX.exc_get I1.kIn J T.xf.ga T.xf.gg T.xf.exC (PySem.W.findObj_own T.xf.hdC hno rfl (by rw [look, hu])) (handed_of ru) ⟨v, H1, I1.tok _, ru, q⟩
theorem kitx_of {K : PySem.W.Frag} {a C : Addr} {o od : Obj} (T : ExK K C) : PySem.W.KitX K (.ref a) (.ref C) (fun h => PySem.W.InstAt h a o C (some od)) := by
  obtain ⟨cd, hcd, _⟩ := PySem.W.any_some T.xf.hdC
  exact PySem.W.kitx_exc (by rw [hcd]; rfl) T.xf.ga T.xf.gg T.xf.exC T.ha T.hn T.ht T.hm
theorem call_isW : CallR X (.builtin "isinstance") (rIsW X.K) := by
  intro pins s σ H xs us Q I r h
  obtain ⟨x, c, C, fs, cv, b, rfl, hx, k, T, e, q⟩ := h
  obtain ⟨u1, u2, rfl, r1, r2⟩ := vals2 r
  obtain ⟨a, o, od, mA, rfl, J, _, _⟩ := exw_inst I hx
  obtain rfl : u1 = Value.ref a := r1
  have e2 := k.eq r2
  subst e2
  exact PySem.W.kia_one (kitx_of T) I.kIn J e (fun z => nomatch z) fun tk => ⟨.bl b, H, I.tok tk, rfl, q⟩
theorem call_isWT : CallR X (.builtin "isinstance") (rIsWT X.K) := by
  intro pins s σ H xs us Q I r h
  obtain ⟨x, tp, C, cs, fs, ws, b, rfl, hx, hT, k, T, e, q⟩ := h
  obtain ⟨u1, u2, rfl, r1, r2⟩ := vals2 r
  obtain ⟨a, o, od, mA, rfl, J, _, _⟩ := exw_inst I hx
  obtain rfl : u1 = Value.ref a := r1
  cases (show u2 = Value.ref tp from r2)
  obtain ⟨_, its, rv, o2, h1, h2, n, h3⟩ := (show ObjOk X.prog X.w H s.heap tp (.tup cs) from I.hok tp _ hT)
  have e3 := ClsV.all k rv
  subst e3
  obtain ⟨oc, od2, dt, sl⟩ := o2
  simp only at h2 h3
  subst h2 h3
  exact PySem.W.kia_tup (kitx_of T) I.kIn J h1 e (fun z => nomatch z) fun tk => ⟨.bl b, H, I.tok tk, rfl, q⟩
end
theorem rd_xw {K : PySem.W.Frag} {f : Str} {te : TE} {σ : L2.St} {H : Hp} {Q : VK} (h : te σ H fun x H1 => XwAt K f x H1 Q) : tXw K f te σ H Q := h
end EE

/-! Own layer: a list comprehension whose element may raise. -/
namespace EE
open PySem PySem.Spec PyProof.Rows L2
section
variable {X : Cx} {pins : List (Addr × Obj)} {σ : L2.St} {H : Hp} {s : Shared}
/-- an object that none tracks may be left out of sight -/
theorem _root_.L2.Inv.hide {c : Addr} {G : Heap} (I : Inv X pins σ H s) (g1 : ∀ b, b ≠ c → G.get? b = s.heap.get? b) (n0 : X.s_0.heap.get? c = none) (hn : H c = none) (nL : c ≠ X.env.locals) (nC : ∀ x d, X.env.cells.lookup x = some d → d ≠ c) (nP : ∀ p ∈ X.pn ++ pins, p.1 ≠ c) :
    Inv X pins σ H { s with heap := G } := by
  have gk : ∀ b o, b ≠ c → s.heap.get? b = some o → G.get? b = some o := fun b o n e => (g1 b n).trans e
  have n0' : ∀ b u, X.s_0.heap.get? b = some u → b ≠ c := fun b u e z => by
    rw [z, n0] at e
    cases e
  have nH : ∀ b u, H b = some u → b ≠ c := fun b u e => ne_of_none e hn
  refine ⟨I.ok, I.os, I.bare, ⟨fun b o e n hb hq => gk b o (n0' b o e) (I.base.keep b o e n hb hq), fun b o e n hb hq => ?_, I.base.free, fun b o e hq => ?_, I.base.tups, I.base.frzs, I.base.tbls⟩, ?_, fun x d e => ?_, I.free, I.freeC, fun p hp => ?_, fun b u e => ?_, I.len⟩
  · obtain ⟨sl, q⟩ := I.base.slot b o e n hb hq
    exact ⟨sl, gk b _ (n0' b o e) q⟩
  · obtain ⟨o', q⟩ := I.base.there b o e hq
    exact ⟨o', gk b o' (n0' b o e) q⟩
  · obtain ⟨m, ⟨o, es, ep, ho, r⟩, hl⟩ := I.loc
    refine ⟨m, ⟨o, es, ep, gk _ _ (Ne.symm nL) ho, r⟩, fun i x v e1 e2 e3 => ?_⟩
    obtain ⟨u, r', l⟩ := hl i x v e1 e2 e3
    refine ⟨u, r', ?_⟩
    rcases l with l | ⟨k, d, ed, o', ho', hd'⟩
    · exact .inl l
    · exact .inr ⟨k, d, ed, o', gk d o' (nC x d ed) ho', hd'⟩
  · obtain ⟨v, o', ho', hd'⟩ := I.cell x d e
    exact ⟨v, o', gk d o' (nC x d e) ho', hd'⟩
  · obtain ⟨e, r⟩ := I.pin p hp
    exact ⟨gk _ _ (nP p hp) e, r⟩
  · refine (I.hok b u e).stay (fun d v hd q => gk d v ?_ q) (fun _ z => z) fun _ _ z => z
    rcases hd with z | z
    · rw [z]; exact nH _ _ e
    · exact nH _ _ z
theorem ff_move {h h' B B' : Heap} {c : Addr} : ∀ {l : List Env}, h.FunFrames B l → c ∉ frs l → (∀ b o, b ≠ c → h.get? b = some o → h'.get? b = some o) → (∀ b o, B'.get? b = some o → B.get? b = some o) → h'.FunFrames B' l
  | [], _, _, _, _ => trivial
  | env :: l, x, n, k, q => by
    obtain ⟨hk, ⟨L, o, hf, hn, ho, hd⟩, hr⟩ := x
    have ne : L ≠ c := fun z => n (List.mem_filterMap.mpr ⟨env, List.mem_cons_self, by rw [hf, z]⟩)
    refine ⟨hk, ⟨L, o, hf, ?_, k _ _ ne ho, hd⟩, ff_move hr (fun hm => ?_) k q⟩
    · cases e : B'.get? L with
      | none => rfl
      | some u =>
        rw [q _ _ e] at hn
        cases hn
    · obtain ⟨e, he, z⟩ := List.mem_filterMap.mp hm
      exact n (List.mem_filterMap.mpr ⟨e, List.mem_cons_of_mem _ he, z⟩)
/-- a block's context with a wish about exceptions of its own -/
abbrev _root_.L2.Cx.blkX (X : Cx) (s : Shared) (H : Hp) (scope : Scope) (cenv : Env) (fp : List Addr) (xe : Value → Shared → Prop) : Cx := { X.blk s H scope cenv fp with xe := xe }
/-- what a block is to do with an exception -/
def blkXe (X : Cx) (cenv : Env) : Value → Shared → Prop := notedBy (model X.prog X.w) X.A cenv (CompFails (model X.prog X.w) X.A X.xe cenv)
theorem blk_passes {E0 : XK} {scope : Scope} {cl : List (Str × Addr)} {fp : List Addr} (tk : Takes X (fun cls d _ H => E0 cls d H)) (hs : X.stack = X.env :: X.outer) (hf : X.env.frame = some X.env.locals) (I : Inv X pins σ H s) (hfp : ∀ b ∈ fp, FpOk X pins H b) :
    Passes (L2.CX X.prog X.w) (X.blkX s H scope (compEnvC scope cl s.heap.objs.size X.env) fp (blkXe X (compEnvC scope cl s.heap.objs.size X.env))) E0 := by
  intro pinsB σB HB sB e s' IB c
  have hfr : X.A.frames = some (X.env :: X.outer) := by rw [I.ok.frames, hs]
  have cc := c
  obtain ⟨a0, B0, _, cls0, d0, rfl, fl0, _⟩ := cc
  obtain ⟨a, B, sI, pinsI, σI, HI, cls, d, ea, II, nb, up, sky, na, os, ag, hE⟩ := XE.of_call (W := fun cls d _ H => E0 cls d H) IB (fun _ _ _ z => z) c
  cases ea
  have nb : ∀ b o, sI.heap.get? b = some o → b ∉ frs X.stack → B.get? b = some o := nb
  have sky : Sky B X.stack a0 (Zc cls d) s.heap.objs.size s'.heap := sky
  -- the exception flies
  have fl : HandSPX.FlyingZ B X.stack a0 (Zc cls d) s'.heap := by
    obtain ⟨_, _, _, oe, vs, T, oT, ts, h1, h2, h3, h4, h5, h6, h7, h8, h9⟩ := fl0
    rcases sky with ⟨_, _, _, oe', vs', k1, k2, k3, k4⟩ | fl | ⟨_, _, _, oe', vs', T', oT', ts', k1, k2, k3, k4, k5, k6, k7, k8, k9⟩
    · rw [h1] at k1
      cases k1
      rw [h3] at k3
      cases k3
      rw [h4] at k4
      cases k4
    · exact fl
    · rw [h1] at k1
      cases k1
      rw [h3] at k3
      cases k3
      rw [h4] at k4
      cases k4
      rw [h7] at k7
      cases k7
      rw [h8] at k8
      cases k8
      rw [h9] at k9
      cases k9
  -- the names' block, as the loop left it
  obtain ⟨mI, hnI, _⟩ := II.loc
  have hnI : sI.heap.Ns s.heap.objs.size mI := hnI
  have hCf : HI s.heap.objs.size = none := II.free
  have cFr : s.heap.objs.size ∉ frs X.stack := fun hm => by
    obtain ⟨_, o, ho, _⟩ := I.stack.mem hm
    exact absurd (Heap.lt_size ho) (Nat.lt_irrefl _)
  show wpAny _ _ (noteFrame (.ref a0) X.env) _ _ _
  have fl2 : HandSPX.FlyingZ B (X.env :: X.outer) a0 (Zc cls d) s'.heap := by rw [← hs]; exact fl
  refine HandSPX.looks_onZ Zc.steady hfr hf fl2 fun h2 held up2 => ?_
  have hn2 : h2.Ns s.heap.objs.size mI := up2.ns (up.ns hnI)
  refine ⟨mI, hn2, fun h4 m4 hn4 sb => ?_⟩
  have sb : Heap.SameBut s.heap.objs.size h2 h4 := sb
  obtain ⟨oC, esC, epC, hoC, hdC, _⟩ := id hn2
  -- the ground without the names' block
  obtain ⟨B', b1, b2⟩ := restrict B fun b => decide (b ≠ s.heap.objs.size)
  have bk : ∀ b, b ≠ s.heap.objs.size → B'.get? b = B.get? b := fun b hb => b1 b (decide_eq_true hb)
  have bC : B'.get? s.heap.objs.size = none := b2 _ (decide_eq_false fun z => z rfl)
  have bsub : ∀ b o, B'.get? b = some o → B.get? b = some o ∧ b ≠ s.heap.objs.size := fun b o z => by
    have n : b ≠ s.heap.objs.size := fun y => by
      rw [y, bC] at z
      cases z
    exact ⟨(bk b n).symm.trans z, n⟩
  obtain ⟨G, g1, g2⟩ := restrict sI.heap fun b => decide (b ≠ s.heap.objs.size)
  have gk : ∀ b, b ≠ s.heap.objs.size → G.get? b = sI.heap.get? b := fun b hb => g1 b (decide_eq_true hb)
  have gC : G.get? s.heap.objs.size = none := g2 _ (decide_eq_false fun z => z rfl)
  obtain ⟨q1, q2, q3, oe, vs, T, oT, ts, h1, hz, h3, h4', h5, h6, h7, h8, h9⟩ := held
  have dd : ∀ {b : Addr} {o : Obj} {vs : Array Value}, h2.get? b = some o → o.data = .fields vs → b ≠ s.heap.objs.size := fun {b o vs} e1 e2 z => by
    rw [z, hoC] at e1
    cases e1
    rw [hdC] at e2
    cases e2
  have k4 : ∀ b o, b ≠ s.heap.objs.size → h2.get? b = some o → h4.get? b = some o := fun b o n z => (sb.2 b n).trans z
  have nA := dd h1 h3
  have nT := dd h7 h8
  have cFr' : s.heap.objs.size ∉ frs (X.env :: X.outer) := by rw [← hs]; exact cFr
  have b0 : ∀ {b : Addr}, B.get? b = none → B'.get? b = none := fun {b} z => by
    cases e : B'.get? b with
    | none => rfl
    | some u =>
      rw [(bsub _ _ e).1] at z
      cases z
  have held4 : HandSPX.HeldZ B' (X.env :: X.outer) a0 (Zc cls d) X.env.locals h4 := ⟨fun b o z => k4 b o (bsub b o z).2 (q1 b o (bsub b o z).1), b0 q2, ff_move q3 cFr' k4 (fun b o z => (bsub b o z).1), oe, vs, T, oT, ts, k4 _ _ nA h1, hz, h3, h4', b0 h5, h6, k4 _ _ nT h7, h8, h9⟩
  unfold PySem.passOn
  refine wpAny_bind (wpAny_field (k4 _ _ nA h1) h3 h4' ?_)
  rw [if_neg (show ¬ ((Value.ref T == Value.none) = true) from by simp)]
  have IX : Inv X pins σ HI sI := I.call' (ch := fp) II.os II.base II.hok II.bare fun b hb => ⟨(hfp b hb).2.2.2.1, (hfp b hb).2.1, (hfp b hb).2.2.2.2.1, (hfp b hb).2.2.2.2.2⟩
  have n0 : X.s_0.heap.get? s.heap.objs.size = none := by
    cases e : X.s_0.heap.get? s.heap.objs.size with
    | none => rfl
    | some o => exact absurd (Nat.lt_of_lt_of_le (Heap.lt_size e) I.sz) (Nat.lt_irrefl _)
  have IG : Inv X pins σ HI { sI with heap := G } := IX.hide gk n0 hCf (Nat.ne_of_gt I.lt) (fun x c e z => by
      obtain ⟨v, q⟩ := I.cell x c e
      exact absurd (z ▸ q.lt) (Nat.lt_irrefl _)) fun p hp z => absurd (z ▸ Heap.lt_size (I.pin p hp).1) (Nat.lt_irrefl _)
  have fin : wpAny (model X.prog X.w) X.A (setFlight (.ref a0) X.env.frame) (fun _ z4 => wpAny (model X.prog X.w) X.A (throw (.ref a0) : Sem Value) (fun _ _ => False) X.xe z4) X.xe { s' with heap := h4 } := by
    rw [hf]
    refine HandSPX.setFlight_onZ held4 fun h5 hh5 up5 => wpAny_throw (tk _ _ ?_)
    refine ⟨a0, B', { sI with heap := G }, pins, σ, HI, cls, d, rfl, IG, fun b o z hb => ?_, ?_, .inr (.inr (by rw [hs]; exact hh5)), na, os, ag, hE⟩
    · have n : b ≠ s.heap.objs.size := fun y => by
        have z' : G.get? b = some o := z
        rw [y, gC] at z'
        cases z'
      rw [bk b n]
      exact nb b o ((gk b n).symm.trans z) hb
    · refine Heap.UpToSlots.trans (h₂ := h4) (fun b o z hd => ?_) up5
      have n : b ≠ s.heap.objs.size := fun y => by
        have z' : G.get? b = some o := z
        rw [y, gC] at z'
        cases z'
      obtain ⟨sl, e⟩ := up b o ((gk b n).symm.trans z) hd
      obtain ⟨sl2, e2⟩ := up2 b _ e hd
      exact ⟨sl2, k4 b _ n e2⟩
  first
    | exact wpAny_bind (wpAny_pure (wpAny_bind fin))
    | exact wpAny_bind fin
end
end EE
namespace EE
open PySem PySem.Spec PyProof.Rows L2
section
variable {X : Cx}
theorem pe_lcX {elt tg iter : Expr} {scope : Scope} {own : List (Str × Nat)} {pos : Pos} {wi : TI} {g : TG} {te : TE} {E0 : XK} (tk : Takes X (fun cls d _ H => E0 cls d H)) (hs : X.stack = X.env :: X.outer) (hf : X.env.frame = some X.env.locals) (hc : X.calm = true) (hN : X.N.Nodup) (hi : PI X tg iter wi) (ok : BlkOk X.N X.env.scope scope own)
    (hg : ∀ (s : Shared) (H : Hp) (C : Addr) (cl : List (Str × Addr)) (fp : List Addr), PG (X.blk s H scope (compEnvC scope cl C X.env) fp) tg g)
    (he : ∀ (s : Shared) (H : Hp) (C : Addr) (cl : List (Str × Addr)) (fp : List Addr) (xe : Value → Shared → Prop), Passes (L2.CX X.prog X.w) (X.blkX s H scope (compEnvC scope cl C X.env) fp xe) E0 → PE (X.blkX s H scope (compEnvC scope cl C X.env) fp xe) elt te) (hfd : ∀ x, foldedSetIterable iter X.env x = pure x := by intro _; rfl) :
    PE X (.ListComp elt [⟨tg, iter, [], 0⟩] scope pos) (tLc wi g tYes te (own.map (·.2))) := by
  refine ⟨fun pins s σ H Q I h => ?_⟩
  rw [eval_ListComp]
  have hfree : ∀ y ∈ scope.names, y.2 = .free → ∃ c, X.env.cells.lookup y.1 = some c := fun y hy e => (ok.free y hy e).elim (fun k => I.ok.has _ (.inl k)) fun k => I.ok.has _ (.inr k)
  refine comprehension_at (use := none) rfl hfd (closure_ok hfree) ok.kind (fun y hy e => by rw [ok.uniq y hy, e]) (thn (hi.run pins s σ H _ I h) fun xv s1 hx => thn hx fun itv s2 h2 => ?_)
  obtain ⟨it, fp, tn, J, H2, e, I2, T, st2, f2, q⟩ := h2
  subst e
  refine wpAny_newObj_type (newEnv_comp ?_) (by show 0 ≤ sizeLine; decide)
  generalize hD : s2.heap.objs.size = D
  have hDn : H2 D = none := I2.hok.fresh (Nat.le_of_eq hD)
  obtain ⟨W, ⟨m0, w0⟩, turn⟩ := q D hDn
  generalize hs3 : ({ s2 with heap := s2.heap.push { cls := .type "list", data := .seq ([] : List Value).toArray } } : Shared) = s3
  have I3 : Inv X pins σ (upd H2 D (.lst [])) s3 := by
    rw [← hs3]
    refine I2.laid (t' := s2.toks) (fun b o e => Heap.get?_push_of_some _ e) (Nat.le_of_eq hD) ⟨Nat.zero_le _, [], 0, .nil, ?_⟩
    rw [← hD]
    exact Heap.get?_push_size _ rfl
  have h3 : s3.heap = s2.heap.push { cls := .type "list", data := .seq ([] : List Value).toArray } := by rw [← hs3]
  have sz : ∀ b ∈ fp, b < s2.heap.objs.size := fun b hb => let ⟨_, e, _⟩ := T.obj _ _ st2 b hb; Heap.lt_size e
  have f3 : ∀ b ∈ fp, FpOk X pins (upd H2 D (.lst [])) b ∧ b < s3.heap.objs.size := fun b hb =>
    ⟨⟨by rw [upd_ne (by rw [← hD]; exact Nat.ne_of_lt (sz b hb))]; exact (f2 b hb).1, (f2 b hb).2⟩, by rw [h3, Heap.size_push]; exact Nat.lt_succ_of_lt (sz b hb)⟩
  have st3 : tn 0 s3.heap := T.keep _ _ _ st2 fun b _ o e => by rw [h3]; exact Heap.get?_push_of_some _ e
  have I4 := block_start I3 ok hN f3
  have pg := hg s3 (upd H2 D (.lst [])) s3.heap.objs.size (cellsFrom (s3.heap.objs.size + 1) scope.names (cloFrom X.env.cells scope.names [])) fp
  have ps := blk_passes (scope := scope) (cl := cellsFrom (s3.heap.objs.size + 1) scope.names (cloFrom X.env.cells scope.names [])) tk hs hf I3 (fun b hb => (f3 b hb).1)
  have pe := he s3 (upd H2 D (.lst [])) s3.heap.objs.size (cellsFrom (s3.heap.objs.size + 1) scope.names (cloFrom X.env.cells scope.names [])) fp _ ps
  show codeAny _ _ (.compStart (.ListComp elt [⟨tg, iter, [], 0⟩] scope pos) 0 (.ref it) (.ref D) (compEnvC scope (cellsFrom (s3.heap.objs.size + 1) scope.names (cloFrom X.env.cells scope.names [])) s3.heap.objs.size X.env))
    (compEnds (model X.prog X.w) X.A X.xe none (EP X pins σ Q) (.ref D) (compEnvC scope (cellsFrom (s3.heap.objs.size + 1) scope.names (cloFrom X.env.cells scope.names [])) s3.heap.objs.size X.env)) { s3 with heap := pushCells (s3.heap.push { cls := .type "dict", data := .dict #[] }) scope.names }
  have nfp : ∀ b ∈ fp, (upd H2 D (.lst [])) b = none := fun b hb => (f3 b hb).1.1
  generalize hce : compEnvC scope (cellsFrom (s3.heap.objs.size + 1) scope.names (cloFrom X.env.cells scope.names [])) s3.heap.objs.size X.env = ce at I4 pg pe ⊢
  have cL : ce.locals = s3.heap.objs.size := by subst hce; rfl
  generalize hH3 : upd H2 D (.lst []) = H3 at I3 I4 pg pe w0 nfp f3
  generalize hs4 : ({ s3 with heap := pushCells (s3.heap.push { cls := .type "dict", data := .dict #[] }) scope.names } : Shared) = s4 at I4 ⊢
  have st4 : tn 0 s4.heap := T.keep _ _ _ st3 fun b _ o e => by rw [← hs4]; exact pushCells_keeps _ _ _ _ (Heap.get?_push_of_some _ e)
  have stat : ∀ {σ' : L2.St} {H' : Hp} {s' : Shared}, Inv (X.blk s3 H3 scope ce fp) [] σ' H' s' → (∀ b ∈ fp, H' b = none) → ∀ b ∈ fp, FpOk (X.blk s3 H3 scope ce fp) [] H' b := fun {σ' H' s'} I' hn b hb =>
    ⟨hn b hb, (I'.ok.exf b hb).1, I'.ok.exfs b hb, .inl hb, fun x c e => (I'.ok.exf b hb).2 x c e, fun p hp => absurd (show p ∈ ([] : List (Addr × Obj)) ++ [] from hp) (by simp)⟩
  have loop : codeAny (model X.prog X.w) X.A (.compLoop (.ListComp elt [⟨tg, iter, [], 0⟩] scope pos) 0 (.ref it) (.ref D) ce) (compEnds (model X.prog X.w) X.A X.xe none (EP X pins σ Q) (.ref D) ce) s4 := by
    refine compLoop_any (fun n s' => ∃ i H', Inv (X.blk s3 H3 scope ce fp) [] (wipe σ (own.map (·.2))) H' s' ∧ tn i s'.heap ∧ (∀ b ∈ fp, H' b = none) ∧ W i n H') ?_ m0 ⟨0, H3, I4, st4, nfp, w0⟩
    rintro n s5 ⟨i, H5, I5, st5, n5, w5⟩
    rcases turn i n H5 w5 with ⟨stop, qq⟩ | ⟨go, Nx, hNx, step⟩
    · refine thnF (T.done (X.blk s3 H3 scope ce fp) rfl rfl rfl hc i [] s5 _ H5 (fun _ _ => False) I5 (stat I5 n5) st5 stop) fun r s6 ⟨hr, I6⟩ => ?_
      subst hr
      have I7 : Inv X pins σ H5 s6 := I3.call' (ch := fp) I6.os I6.base I6.hok I6.bare fun b hb => ⟨(f3 b hb).1.2.2.2.1, (f3 b hb).1.2.1, (f3 b hb).1.2.2.2.2.1, (f3 b hb).1.2.2.2.2.2⟩
      have nC : H5 s3.heap.objs.size = none := by
        have z : H5 ce.locals = none := I6.free
        rw [cL] at z
        exact z
      obtain ⟨m, hn, _⟩ := I6.loc
      have hn : s6.heap.Ns ce.locals m := hn
      obtain ⟨k0, k1, k2, k3, k4, k5⟩ := I3.fpOk (Nat.le_refl _) nC
      refine ⟨m, hn, fun h' sb => ?_⟩
      rw [cL] at sb
      exact ⟨.ref D, H5, I7.turned (t' := s6.toks) (fun b o hb e => (sb.2 b hb).trans e) k0 k1 k3 k4 k5, rfl, qq⟩
    · refine thnF (T.item (X.blk s3 H3 scope ce fp) rfl rfl rfl hc i [] s5 _ H5 (fun _ _ => False) I5 (stat I5 n5) st5 go) fun r s6 ⟨u, hr, h6⟩ => ?_
      subst hr
      refine thnF h6 fun _ s7 ⟨x, H7, I7, r7, y7, st7, n7⟩ => ?_
      have I7' := I7.pinned (stat I7 n7) (T.obj _ _ st7)
      refine thnF (pg.run _ s7 _ H7 x u _ I7' r7 (step x H7 y7)) fun _ s8 ⟨σ8, H8, I8, hw8, q8⟩ => wpAny_tests_nil ?_
      have fin : ∀ {s' : Shared} {H' : Hp}, Inv (X.blk s3 H3 scope ce fp) ([] ++ pinsAt fp s7.heap) σ8 H' s' → Nx H' → ∃ m, m < n ∧ ∃ i H', Inv (X.blk s3 H3 scope ce fp) [] (wipe σ (own.map (·.2))) H' s' ∧ tn i s'.heap ∧ (∀ b ∈ fp, H' b = none) ∧ W i m H' := fun {s' H'} I' nx => by
        obtain ⟨m', hm, w'⟩ := hNx H' nx
        have pin' : ∀ b ∈ fp, ∀ o, s7.heap.get? b = some o → s'.heap.get? b = some o ∧ H' b = none := fun b hb o e =>
          let z := I'.pin (b, o) (List.mem_append_right _ (List.mem_append_right _ (mem_pinsAt hb e)))
          ⟨z.1, z.2.1⟩
        have hl : (wipe σ (own.map (·.2))).length = σ8.length := by rw [← hw8, wipe_length]
        refine ⟨m', hm, i + 1, H', (I'.unpinned (pins := [])).weak hl (fun j v e => ?_), T.keep _ _ _ st7 fun b hb o e => (pin' b hb o e).1, fun b hb => ?_, w'⟩
        · rw [← hw8] at e
          exact (wipe_some e).1
        · obtain ⟨o, e, _⟩ := T.obj _ _ st7 b hb
          exact (pin' b hb o e).2
      simp only [if_true]
      have q8 : te σ8 H8 (fun y H4 => ∃ acc, H4 D = some (.lst acc) ∧ acc.length < sizeLine ∧ Nx (upd H4 D (.lst (acc ++ [y])))) := by
        have z : (if true = true then te σ8 H8 (fun y H4 => ∃ acc, H4 D = some (.lst acc) ∧ acc.length < sizeLine ∧ Nx (upd H4 D (.lst (acc ++ [y])))) else Nx H8) := q8
        rw [if_pos rfl] at z
        exact z
      refine wpAny_mono (pe.run _ s8 σ8 H8 _ (I8.wish _) q8) (fun z s10 ⟨yv, H10, I10, r10, acc, hD10, hz10, nx⟩ => ?_) (fun e s' z => ?_)
      · exact app_ok (X := X.blk s3 H3 scope ce fp) (I10.wish (fun _ _ => False)) hD10 hz10 r10 fun s11 I11 => fin I11 nx
      · subst hce
        exact z
  exact codeAny_compStart_list loop (T.self X.A 0 _ _ _ st4 loop)
end
end EE

/-! Own layer: lambdas as values; functions that a local holds, called. -/
namespace EE
open PySem PySem.Spec PyProof.Rows L2 LamX
/-- at f: a lambda -/
def LamO (f : Addr) (q : Str) (params : Arguments) (body : Expr) (scope : Scope) (cl : List (Str × Addr)) (c : Addr) : HO := .ext fun h => ∃ pm ctv : Value, h.get? f = some (PySem.W.kla_obj "<lambda>" q params body scope cl pm c ctv)
theorem lamO_at {P : Program} {w : World} {H : Hp} {h : Heap} {f c : Addr} {q : Str} {params : Arguments} {body : Expr} {scope : Scope} {cl : List (Str × Addr)} (hok : HOk P w H h) (e : H f = some (LamO f q params body scope cl c)) : ∃ pm ctv : Value, h.get? f = some (PySem.W.kla_obj "<lambda>" q params body scope cl pm c ctv) := by
  obtain ⟨z, _, _⟩ := hok f _ e
  exact z
theorem lamO_ok {P : Program} {w : World} {H : Hp} {h : Heap} {f c : Addr} {q : Str} {params : Arguments} {body : Expr} {scope : Scope} {cl : List (Str × Addr)} {pm ctv : Value} (e : h.get? f = some (PySem.W.kla_obj "<lambda>" q params body scope cl pm c ctv)) : ObjOk P w H h f (LamO f q params body scope cl c) :=
  ⟨⟨pm, ctv, e⟩, ⟨_, e⟩, fun h1 h2 ⟨p, t, z⟩ k => ⟨p, t, k _ z⟩⟩
section
variable {X : Cx} {pins : List (Addr × Obj)} {σ : L2.St} {H : Hp} {s : Shared}
/-- lambda ..: body, its object tracked -/
def tLamV (X : Cx) (T : List (Addr × Str)) (params : Arguments) (body : Expr) (scope : Scope) : TE := fun _ H Q => Tabs T H ∧ ∀ (f c : Addr) (H1 : Hp), ExtN H H1 → Tabs T H1 → H f = none → H1 f = some (LamO f (X.env.qual ++ "<lambda>") params body scope (cloFrom X.env.cells scope.names []) c) → H1 c = some (CodeO c (X.env.qual ++ "<lambda>")) → Q (.ref f) H1
theorem pe_lam {T : List (Addr × Str)} {c P : Addr} {params : Arguments} {body : Expr} {scope : Scope} {pos : Pos} (TB : TabB X.base X.mg c P) (hcode : X.env.code = .ref c) (hm : (P, X.env.qual ++ "<lambda>") ∈ T) (hu : ∀ p ∈ T, p.1 = P → p.2 = X.env.qual ++ "<lambda>") (hdef : defaultsOf params X.env = ([], []))
    (hfree : X.Ok → ∀ y ∈ scope.names, y.2 = .free → ∃ c, X.env.cells.lookup y.1 = some c) : PE X (.Lambda params body scope pos) (tLamV X T params body scope) := by
  refine ⟨fun pins s σ H Q I h => ?_⟩
  obtain ⟨hT, h⟩ := h
  obtain ⟨ps, hP, ht, ha⟩ := hT _ hm
  have bP : s.heap.BuiltinsAt X.mg P := TB.bm.keeps I.bk
  have hP' : s.heap.get? P = some { cls := .none, data := .fields ps } := I.hok P _ hP
  refine PySem.W.kla_eval hdef ?_
  cases hc : codeAmong pos ps.toList with
  | none =>
    refine PySem.W.kla_makeFunction (mg := X.mg) (c := c) (P := P) (ps := ps) (closure_ok (hfree I.ok)) I.ok.glob (I.mod.glob.keeps I.bk) hcode (TB.code.keeps I.bk) hP' ht hc TB.gP bP fun c' ctv h' tk hx hge hlt hrec htb => ?_
    obtain ⟨c2, oc, vs, t, e2, hoc, hd, hv⟩ := hrec
    cases e2
    have nC : H c' = none := I.hok.fresh hge
    have I1 := inv_table (t' := tk) (more := #[rawInt pos.line, rawInt pos.col, .ref c']) (h' := h') I hP (fun b o hb e => hx b o hb e) htb hge ⟨oc, vs, t, hoc, hd, hv⟩
    have hE : ExtN H (upd (upd H P (.tbl (ps ++ #[rawInt pos.line, rawInt pos.col, .ref c']))) c' (CodeO c' (X.env.qual ++ "<lambda>"))) := fun b o e n => by
      rw [upd_ne (ne_of_none e nC), upd_ne (fun z => n ps (Option.some.inj (e.symm.trans (by rw [z]; exact hP))))]
      exact e
    have eL : (ps ++ #[rawInt pos.line, rawInt pos.col, .ref c']).toList = ps.toList ++ [rawInt pos.line, rawInt pos.col, .ref c'] := by simp
    have T1 : Tabs T (upd (upd H P (.tbl (ps ++ #[rawInt pos.line, rawInt pos.col, .ref c']))) c' (CodeO c' (X.env.qual ++ "<lambda>"))) := fun p hp => by
      by_cases hb : p.1 = P
      · rw [hu p hp hb, hb]
        refine ⟨_, by rw [upd_ne (ne_of_none hP nC), upd_same], by rw [eL]; exact PySem.TriplesOk_snoc _ _ _ _ ht, fun p' cv hcv => ?_⟩
        rw [eL] at hcv
        rcases among_app _ ht hcv with z | z
        · obtain ⟨c0, e1, e2⟩ := ha p' cv z
          exact ⟨c0, e1, hE _ _ e2 codeO_ne⟩
        · exact ⟨c', z, upd_same⟩
      · obtain ⟨ps', a1, a2, a3⟩ := hT p hp
        refine ⟨ps', by rw [upd_ne (ne_of_none a1 nC), upd_ne hb]; exact a1, a2, fun p' cv hcv => ?_⟩
        obtain ⟨c0, e1, e2⟩ := a3 p' cv hcv
        exact ⟨c0, e1, hE _ _ e2 codeO_ne⟩
    have hsz : s.heap.objs.size ≤ h'.objs.size := Nat.le_trans hge (Nat.le_of_lt hlt)
    have hf : (h'.push (PySem.W.kla_obj "<lambda>" (X.env.qual ++ "<lambda>") params body scope (cloFrom X.env.cells scope.names []) ((X.mg "__name__").getD .none) c' ctv)).get? h'.objs.size = some (PySem.W.kla_obj "<lambda>" (X.env.qual ++ "<lambda>") params body scope (cloFrom X.env.cells scope.names []) ((X.mg "__name__").getD .none) c' ctv) := Heap.get?_push_size _ rfl
    have I2 := I1.laid (t' := tk) (a := h'.objs.size) (o := LamO h'.objs.size (X.env.qual ++ "<lambda>") params body scope (cloFrom X.env.cells scope.names []) c') (fun b o z => Heap.get?_push_of_some _ z) (Nat.le_refl _) (lamO_ok hf)
    have nf := I1.hok.fresh (Nat.le_refl _)
    have sm := same_new (o := LamO h'.objs.size (X.env.qual ++ "<lambda>") params body scope (cloFrom X.env.cells scope.names []) c') nf
    exact ⟨.ref h'.objs.size, _, I2, rfl, h _ c' _ (fun b o e n => sm _ _ (hE b o e n)) (T1.ext sm) (I.hok.fresh hsz) upd_same (sm _ _ upd_same)⟩
  | some cv =>
    obtain ⟨c', e, hco⟩ := ha pos cv hc
    subst e
    refine PySem.W.kla_makeFunctionHit (mg := X.mg) (c := c) (P := P) (ps := ps) (closure_ok (hfree I.ok)) I.ok.glob (I.mod.glob.keeps I.bk) hcode (TB.code.keeps I.bk) hP' ht hc bP fun ctv h' tk hx hsz => ?_
    have I1 : Inv X pins σ H { s with heap := h', toks := tk } := I.kept hx
    have hf : (h'.push (PySem.W.kla_obj "<lambda>" (X.env.qual ++ "<lambda>") params body scope (cloFrom X.env.cells scope.names []) ((X.mg "__name__").getD .none) c' ctv)).get? h'.objs.size = some (PySem.W.kla_obj "<lambda>" (X.env.qual ++ "<lambda>") params body scope (cloFrom X.env.cells scope.names []) ((X.mg "__name__").getD .none) c' ctv) := Heap.get?_push_size _ rfl
    have I2 := I1.laid (t' := tk) (a := h'.objs.size) (o := LamO h'.objs.size (X.env.qual ++ "<lambda>") params body scope (cloFrom X.env.cells scope.names []) c') (fun b o z => Heap.get?_push_of_some _ z) (Nat.le_refl _) (lamO_ok hf)
    have nf := I1.hok.fresh (Nat.le_refl _)
    have sm := same_new (o := LamO h'.objs.size (X.env.qual ++ "<lambda>") params body scope (cloFrom X.env.cells scope.names []) c') nf
    exact ⟨.ref h'.objs.size, _, I2, rfl, h _ c' _ (ExtN.of sm) (hT.ext sm) (I.hok.fresh hsz) upd_same (sm _ _ hco)⟩
end
section
variable {P : Program} {w : World} {K : PySem.W.Frag} {mg : Str → Option Value} {base : Heap}
/-- a lambda without captured names, called -/
theorem lam_call {CX : CXT} {A : Around} {outer : List Env} {s : Shared} {H : Hp} {Q : VK} {E : XK} {k : Nat} {f c : Addr} {q : Str} {params : Arguments} {body : Expr} {scope : Scope} {N ps : List Str} {vs : List V} {us : List Value} (hr : Room (k + 1) A) (e0 : Env0 P w K mg base A outer s H)
    (hf : H f = some (LamO f q params body scope [] c)) (hc : H c = some (CodeO c q)) (S : FnScope N ps scope) (hb : ∀ (pm ctv : Value) (us : List Value), us.length = ps.length → bindArgs (PySem.W.kla_fn "<lambda>" q params body scope [] pm (.ref c) ctv) ⟨us, []⟩ = pure (ps.zip us)) (r : Vals vs us) (hl : vs.length = ps.length)
    (hbody : Room k (A.deeper (envOfC q scope s.heap.objs.size f (.ref c))) → ∃ t, PE (cxOf CX P w K mg base N q scope f (.ref c) A outer s H E) body t ∧ t (start N vs) H Q) : codeAny (model P w) A (.call (.ref f) ⟨us, []⟩) (CR CX outer P w H s Q E) s := by
  obtain ⟨pm, ctv, of1⟩ := lamO_at e0.hok hf
  have nol := e0.mod.nolimit.keeps (h' := s.heap) fun b o z => (e0.bs b o z).1
  have kinds : ∀ y ∈ ps.zip us, scope.names.lookup y.1 = some .local ∨ (scope.names.lookup y.1 = some .cell ∧ ((cellsFrom (s.heap.objs.size + 1) scope.names []).lookup y.1).isSome = true) := by
    rintro ⟨n, v⟩ hy
    exact (S.par n (List.of_mem_zip hy).1).imp id fun z => ⟨z, PySem.W.cellsFrom_some _ _ _ (Or.inl z)⟩
  refine PySem.W.kla_callFunE hr.depth of1 rfl S.co S.gen rfl (NdefX.codeO_at e0.hok hc) ?_
  rw [hb pm ctv us (r.length.symm.trans hl)]
  refine wpAny_pure (wpAny_newFunctionEnv_cells S.kind kinds fun env henv t1 x1 => ?_)
  cases henv
  refine ⟨nol.keeps x1.toInCall.keep, ?_⟩
  obtain ⟨t, ht, hq⟩ := hbody (hr.deeper _)
  have I := inv_start (CX := CX) (E := E) S hr.hd e0 hl r x1
  refine PySem.W.kla_codeExpr (wpAny_mono (ht.run [] t1 (start N vs) H Q I hq) (fun v s' hv => ?_) fun e s' z => z)
  obtain ⟨w', H', J', rv, q'⟩ := hv
  exact ⟨w', H', J'.os, J'.bare, J'.base, J'.hok, rv, q'⟩
/-- what a call of the function at f does -/
def CallsAt (P : Program) (w : World) (K : PySem.W.Frag) (mg : Str → Option Value) (base : Heap) (CX : CXT) (k : Nat) (f : Addr) (vs : List V) (H : Hp) (Q : VK) (E : XK) : Prop :=
  ∀ (A : Around) (outer : List Env) (s : Shared) (us : List Value), Room k A → Env0 P w K mg base A outer s H → Vals vs us → codeAny (model P w) A (.call (.ref f) ⟨us, []⟩) (CR CX outer P w H s Q E) s
theorem calls_fn {CX : CXT} {k : Nat} {f : Addr} {fd : FuncData} {ps : List Str} {sp : Sp} {vs : List V} {H : Hp} {Q : VK} {E : XK} (F : FnOk P w K mg base CX k f fd ps sp) (hb : Binds K fd ps []) (h : sp vs H Q E) : CallsAt P w K mg base CX k f vs H Q E := fun A outer s us hr e0 r => by
  have kin : K.In s.heap := e0.mod.kin.keeps fun b o z => (e0.bs b o z).1
  have bd := hb s us kin (by rw [List.append_nil, ← r.length, F.len _ _ _ _ h])
  rw [List.append_nil] at bd
  exact F.run A outer s H ⟨us, []⟩ us vs Q E hr e0 bd r h
/-- a function stands at f -/
def FnV (K : PySem.W.Frag) (H : Hp) (f : Addr) : Prop := (∃ (oc : Value) (od : Option Addr) (fd : FuncData) (sl : Array (Option Value)), K.lookup f = some ⟨oc, od, .func fd, sl⟩) ∨ ∃ q params body scope cl c, H f = some (LamO f q params body scope cl c)
theorem FnV.at {H : Hp} {h : Heap} {f : Addr} (hok : HOk P w H h) (kin : K.In h) (v : FnV K H f) : PySem.W.FnAt f h := by
  rcases v with ⟨oc, od, fd, sl, lk⟩ | ⟨q, params, body, scope, cl, c, e⟩
  · exact ⟨oc, od, fd, sl, kin _ _ lk⟩
  · obtain ⟨pm, ctv, z⟩ := lamO_at hok e
    exact ⟨_, _, _, _, z⟩
theorem FnV.keep {H H' : Hp} {f : Addr} (v : FnV K H f) (e : ExtN H H') : FnV K H' f := v.imp id fun ⟨q, params, body, scope, cl, c, z⟩ => ⟨q, params, body, scope, cl, c, e _ _ z fun ps y => by
  unfold LamO at y
  cases y⟩
end
section
variable {X : Cx} {CX : CXT} {k i : Nat} {E : XK} {a : Str} {e : Expr} {es : List Expr} {ta : TA} {p1 p2 : Pos}
/-- a(e, ..), a function in the local a -/
def tCallV (X : Cx) (CX : CXT) (k i : Nat) (E : XK) (ta : TA) : TE := fun σ H Q => ∃ f, σ[i]? = some (some (.ref f)) ∧ FnV X.K H f ∧ ta σ H fun vs H1 => FnV X.K H1 f ∧ CallsAt X.prog X.w X.K X.mg X.base CX k f vs H1 Q E
theorem pe_callV (hr : Room k X.A) (hx : Passes CX X E) (hN : X.N[i]? = some a) (hv : Vis X.env.scope a) (ha : PA X (e :: es) ta) (hd : (a == ("__debug__" : Str)) = false := by decide) (hcd : (a == ("__classdict__" : Str)) = false := by decide)
    (hst : starEach (e :: es) X.env = (false, eval e X.env) :: starEach es X.env := by rfl) (plain : (backTo p2 (starEach es X.env)).any (·.1) = false := by rfl) : PE X (.Call (.Name a p1) (e :: es) [] p2) (tCallV X CX k i E ta) := by
  refine ⟨fun pins s σ H Q I h => ?_⟩
  obtain ⟨f, hs, fv, h⟩ := h
  refine wpAny_Call_Name_kw (thn ((pe_var (pos := p1) (i := i) hN hv hd hcd).run pins s σ H (fun v H1 => v = .ref f ∧ H1 = H) I ⟨.ref f, hs, rfl, rfl⟩) fun u s1 ⟨v, H1, I1, r1, ev, eH⟩ => ?_)
  subst ev eH
  obtain rfl : u = Value.ref f := r1
  refine PySem.W.callWith_F (fv.at I1.hok I1.kIn) (thn (ha.run p2 pins s1 σ _ _ I1 h) fun us s2 ⟨vs, H2, I2, r2, fv2, q⟩ => ⟨fv2.at I2.hok I2.kIn, ?_⟩) hst plain
  refine wpAny_call (codeAny_mono (q X.A X.stack s2 us hr I2.env0 r2) fun r s' z => ?_)
  match r, z with
  | .error er, z => exact hx pins σ H2 s2 er s' I2 z
  | .ok (.ret u), z => exact I2.after z
  | .ok .next, z => exact z.elim
  | .ok .brk, z => exact z.elim
  | .ok .cont, z => exact z.elim
end
end EE

/-! Own layer: the end of a law whose defs make lambdas. -/
namespace EE
open PySem PySem.Spec PyProof.Rows L2 LamX
section
variable {P : Program} {w : World} {K : PySem.W.Frag} {mg mb : Str → Option Value} {CX : CXT} {k : Nat} {fa a : Addr} {fd : FuncData} {x : Str} {sp : Sp} {S : Shared} {us : List Value} {ns : List Int} {cs : List (Addr × Addr)}
/-- the heap that tracks the tables, and the script unless the module holds it -/
def scrT (K : PySem.W.Frag) (a : Addr) (us : List Value) (ns : List Int) (cs : List (Addr × Addr)) : Hp := fun b => if b ∈ cs.map (·.2) then some (.tbl #[]) else scrH K a us ns b
theorem scrT_some {b : Addr} {u : HO} (h : scrT K a us ns cs b = some u) : (b ∈ cs.map (·.2) ∧ u = .tbl #[]) ∨ (b ∉ cs.map (·.2) ∧ b = a ∧ K.lookup a = none ∧ u = .frz { cls := .type "list", data := .seq us.toArray } (.lst (ns.map V.int))) := by
  unfold scrT at h
  by_cases c : b ∈ cs.map (·.2)
  · rw [if_pos c] at h
    exact .inl ⟨c, (Option.some.inj h).symm⟩
  · rw [if_neg c] at h
    exact .inr ⟨c, scrH_some h⟩
theorem end_lawT (kin : K.In S.heap) (gl : S.heap.Ns mainGlobals mg) (bl : S.heap.Ns builtinsNs mb) (bb : ∀ y : Str, y ≠ "__name__" → mb y = bootBuiltins y) (nol : S.heap.NoLimit) (gens : S.gens = #[])
    (hT : ∀ p ∈ cs, S.heap.get? p.2 = some { cls := .none, data := .fields #[] }) (nT : ∀ p ∈ cs, K.lookup p.2 = none) (hC : ∀ p ∈ cs, PySem.W.CodeHd S.heap p.1 p.2)
    (hbm : ∃ (bm : Addr) (ob : Obj), mg "__builtins__" = some (.ref bm) ∧ bm ≠ builtinsNs ∧ S.heap.get? bm = some ob ∧ ob.cls = .type "module" ∧ ob.dict = some builtinsNs ∧ ob.data = .plain)
    (scr : S.heap.get? a = some { cls := .type "list", data := .seq us.toArray }) (are : IntsAre us ns) (few : ns.length ≤ sizeLine) (room : RoomG k callerA)
    (F : ∀ base : Heap, K.In base → base.Ns mainGlobals mg → (∀ p ∈ cs, TabB base mg p.1 p.2) → FnG P w K mg base CX k fa fd [x] sp) (bd : ∀ (t : Shared) (u : Value), BindsTo t fd ⟨[u], []⟩ [(x, u)])
    (hsp : ∀ H : Hp, (∀ p ∈ cs, H p.2 = some (.tbl #[])) → SqL K H a (ns.map V.int) → sp [.ref a] H (fun v _ => v = .bl true) fun _ _ _ => False) (out : ∀ H e t, CX [] H S (fun _ _ _ => False) e t → False) :
    codeAny (model P w) callerA (Code.call (Value.ref fa) ⟨[.ref a], []⟩) (fun r t => r = .ok (.ret (.bool true)) ∧ OldK S.heap t.heap ∧ t.os = S.os ∧ AllBare t.gens) S := by
  have rel := vals_ints are
  have lens : us.length = ns.length := are.length
  have isT : ∀ b, b ∈ cs.map (·.2) → S.heap.get? b = some { cls := .none, data := .fields #[] } := fun b hb => by
    obtain ⟨p, hp, e⟩ := List.mem_map.mp hb
    rw [← e]
    exact hT p hp
  have kT : ∀ b, b ∈ cs.map (·.2) → K.lookup b = none := fun b hb => by
    obtain ⟨p, hp, e⟩ := List.mem_map.mp hb
    rw [← e]
    exact nT p hp
  have aT : a ∉ cs.map (·.2) := fun z => by
    have q := isT a z
    rw [scr] at q
    cases (show Data.seq us.toArray _ = Data.fields #[] from congrArg Obj.data (Option.some.inj q))
  let H := scrT K a us ns cs
  have one : ∀ {b : Addr} {u : HO}, H b = some u → (b ∈ cs.map (·.2) ∧ u = .tbl #[]) ∨ (b ∉ cs.map (·.2) ∧ b = a ∧ K.lookup a = none ∧ u = .frz { cls := .type "list", data := .seq us.toArray } (.lst (ns.map V.int))) := fun h => scrT_some h
  have tabH : ∀ p ∈ cs, H p.2 = some (.tbl #[]) := fun p hp => if_pos (List.mem_map.mpr ⟨p, hp, rfl⟩)
  have ok : HOk P w H S.heap := fun b u h => by
    rcases one h with ⟨hb, rfl⟩ | ⟨_, rfl, _, rfl⟩
    · exact isT b hb
    · exact ⟨scr, (by rw [List.length_map]; exact few), us, 0, rel, scr⟩
  -- what is neither a list nor an empty table is untracked
  have free : ∀ {b : Addr} {o : Obj}, S.heap.get? b = some o → (∀ vs n, o.data ≠ .seq vs n) → o.data ≠ .fields #[] → H b = none := fun {b o} e h1 h2 => by
    cases q : H b with
    | none => rfl
    | some u =>
      rcases one q with ⟨hb, _⟩ | ⟨_, rfl, _, _⟩
      · rw [isT b hb] at e
        cases e
        exact (h2 rfl).elim
      · rw [scr] at e
        cases e
        exact (h1 _ _ rfl).elim
  have ns_of : ∀ {b : Addr} {m : Str → Option Value}, S.heap.Ns b m → (hidT S.heap H).Ns b m := by
    rintro b m ⟨o, es, ep, e, d, r⟩
    exact ⟨o, es, ep, hidT_get e (free e (fun vs n z => by rw [d] at z; cases z) fun z => by rw [d] at z; cases z), d, r⟩
  have kin0 : K.In (hidT S.heap H) := fun b o e => hidT_get (kin b o e) (by
    cases q : H b with
    | none => rfl
    | some u =>
      rcases one q with ⟨hb, _⟩ | ⟨_, rfl, nk, _⟩
      · rw [kT b hb] at e
        cases e
      · rw [nk] at e
        cases e)
  have gl0 := ns_of gl
  have TB : ∀ p ∈ cs, TabB (hidT S.heap H) mg p.1 p.2 := fun p hp => by
    have hTp := hT p hp
    refine ⟨?_, ?_, fun z => ?_⟩
    · obtain ⟨o, vs, file, tf, flags, tg, inF, text, tt, e1, r1, r2, r3, r⟩ := hC p hp
      refine ⟨o, vs, file, tf, flags, tg, inF, text, tt, hidT_get e1 (free e1 (fun vs n z => by rw [r2] at z; cases z) fun z => ?_), r1, r2, r3, r⟩
      rw [r2] at z
      cases z
      simp at r3
    · obtain ⟨bm, ob, b1, b2, b3, b4, b5, b6⟩ := hbm
      have nG : bm ≠ mainGlobals := fun q => by
        obtain ⟨o, es, ep, e, hd, _⟩ := gl
        rw [q, e] at b3
        cases b3
        rw [hd] at b6
        cases b6
      have nP : bm ≠ p.2 := fun q => by
        rw [q, hTp] at b3
        cases b3
        cases b6
      exact ⟨bm, ob, b1, b2, nG, nP, hidT_get b3 (free b3 (fun vs n z => by rw [b6] at z; cases z) fun z => by rw [b6] at z; cases z), b4, b5, b6⟩
    · obtain ⟨o, es, ep, e, hd, _⟩ := gl
      rw [z, hTp] at e
      cases e
      cases hd
  obtain ⟨mc, l1, l2⟩ := nol
  have e0 : Env0 P w K mg (hidT S.heap H) callerA [] S H := by
    refine ⟨rfl, ⟨kin0, gl0, ⟨mb, ns_of bl, bb⟩, ⟨mc, ns_of l1, l2⟩⟩, fun b o e => of_hidT e, ?_, trivial, ?_, ok, AllBare.of_eq gens⟩
    · rw [hidT_size]
      exact Nat.le_refl _
    · intro b hb
      cases (show b ∈ ([] : List Addr) from hb)
  have sq : SqL K H a (ns.map V.int) := by
    cases hk : K.lookup a with
    | none => exact Or.inl (Or.inr ⟨_, (if_neg aT).trans (if_pos ⟨rfl, hk⟩)⟩)
    | some o =>
      have e := kin a o hk
      rw [scr] at e
      cases e
      exact Or.inr ⟨_, us.toArray, _, hk, rfl, rfl, rfl, (by rw [List.size_toArray, lens]; exact few), (by simpa using rel)⟩
  refine codeAny_mono ((F _ kin0 gl0 TB).runs callerA room [] S H ⟨[.ref a], []⟩ [.ref a] [.ref a] _ _ e0 (bd S (.ref a)) (Paired.cons rfl .nil) (hsp H tabH sq)) fun r t h => ?_
  match r, h with
  | .error e, h => exact (out H e t h).elim
  | .ok .next, h => exact h.elim
  | .ok .brk, h => exact h.elim
  | .ok .cont, h => exact h.elim
  | .ok (.ret u), ⟨v, H1, os, bare, un, ok1, rv, q⟩ =>
    have q1 : v = .bl true := q
    subst q1
    cases (show u = Value.bool true from rv)
    have key : ∀ b o, b ∉ cs.map (·.2) → S.heap.get? b = some o → t.heap.get? b = some o := fun b o nb e => by
      cases z : H b with
      | none => exact un.keep b o e z (fun m => nomatch (show b ∈ ([] : List Addr) from m)) (fun m => nomatch m)
      | some u =>
        rcases one z with ⟨hb, _⟩ | ⟨_, rfl, _, rfl⟩
        · exact absurd hb nb
        · obtain ⟨e2, _⟩ := ok1 b _ (un.frzs b _ _ z)
          rw [scr] at e
          cases e
          exact e2
    have grown : ∀ p ∈ cs, ∃ more : Array Value, t.heap.get? p.2 = some { cls := .none, data := .fields more } := fun p hp => by
      obtain ⟨more, z⟩ := un.tbls p.2 #[] (tabH p hp)
      exact ⟨_, ok1 p.2 _ z⟩
    refine ⟨rfl, ⟨fun b o e => ?_, fun b o e => ?_⟩, os, bare⟩
    · by_cases hb : b ∈ cs.map (·.2)
      · obtain ⟨p, hp, ep⟩ := List.mem_map.mp hb
        obtain ⟨more, hm⟩ := grown p hp
        rw [← ep] at e ⊢
        rw [hT p hp] at e
        cases e
        exact .inr (.inl ⟨((hC p hp).tab (hT p hp)).isCodeTable, rfl, #[], more, rfl, by rw [Array.empty_append]; exact hm⟩)
      · exact .inl (key b o hb e)
    · by_cases hb : b ∈ cs.map (·.2)
      · obtain ⟨p, hp, ep⟩ := List.mem_map.mp hb
        obtain ⟨more, hm⟩ := grown p hp
        rw [← ep]
        exact ⟨_, hm⟩
      · exact ⟨o, key b o hb e⟩
end
/-- what is known of the law's promise at the head's heap -/
def LawAtG (l : PySem.W.OpenLaw) (w : World) (K : PySem.W.Frag) (k n : Nat) (x : Str) (mg : Str → Option Value) (fa : Addr) (h : Heap) : Prop :=
  ∃ (fd : FuncData) (cs : List (Addr × Addr)) (sp : Sp), (∀ p ∈ cs, h.get? p.2 = some { cls := .none, data := .fields #[] }) ∧ (∀ p ∈ cs, K.lookup p.2 = none) ∧ (∀ p ∈ cs, PySem.W.CodeHd h p.1 p.2) ∧ (∀ (s : Shared) (u : Value), BindsTo s fd ⟨[u], []⟩ [(x, u)]) ∧
    (∀ (H : Hp) (a : Addr) (ns : List Int), ns.length ≤ n → (∀ p ∈ cs, H p.2 = some (.tbl #[])) → SqL K H a (ns.map V.int) → sp [.ref a] H (fun v _ => v = .bl true) fun _ _ _ => False) ∧
    ∀ base : Heap, K.In base → base.Ns mainGlobals mg → (∀ p ∈ cs, TabB base mg p.1 p.2) → FnG l.prog w K mg base CX0 k fa fd [x] sp
theorem walk_ofGT {l : PySem.W.OpenLaw} {n k : Nat} {q : Program} {loose : List Str} {XP : (Str → Option Value) → Heap → Prop} {YP : World → Heap → Prop} {d : DefRec} {K : Params → PySem.W.Frag} {x : Str}
    (hn : l.most = some n) (hn2 : n ≤ sizeLine) (hdf : d.params.defaults = []) (room : RoomG k callerA) (hY : ∀ (w : World) (h : Heap), YP w h → (K w.params).In h)
    (F : ∀ (w : World) (mg : Str → Option Value) (fa : Addr) (h : Heap), YP w h → (K w.params).In h → h.Ns mainGlobals mg → mg d.name = some (.ref fa) → LawAtG l w (K w.params) k n x mg fa h) :
    PySem.W.WalkO q loose XP YP l.row.toRowW d [] (fun f vs => PySem.call f vs) :=
  Att.attach_call hn hdf fun w s0 s1 mg mb fa o pm cd doc a us ns G Y ho hd hcd hmg hobj hints hlen hg => by
    have kin := hY w _ Y
    obtain ⟨fd, cs, sp, hT, nT, hC, bd, hsp, hF⟩ := F w mg fa _ Y kin G.T.g hmg
    exact end_lawT kin G.T.g G.T.b G.T.builtins G.T.nolimit hg hT nT hC G.T.bmain hobj hints (Nat.le_trans hlen hn2) room hF bd (fun H ht hs => hsp H a ns hlen ht hs) fun _ _ _ z => z
end EE

/-! Own layer: objects of own classes, one step each. -/
namespace EE
open PySem PySem.Spec PyProof.Rows L2 LamX
section
variable {K : PySem.W.Frag} {C : Addr} {f m : Str} {σ : L2.St} {H : Hp} {Q : VK} {E : XK} {ta te : TE} {t : TA} {sp : Sp} {dvs : List V} {D : Ends} {a dx : Addr} {fs : List (Str × V)} {v y : V}
def FldAt (K : PySem.W.Frag) (f : Str) (x : V) (H1 : Hp) (Q : VK) : Prop := ∃ a C dx fs v, x = .ref a ∧ H1 a = some (.ins C dx fs) ∧ Cls K C ∧ NoAttr K C f ∧ fs.lookup f = some v ∧ Q v H1
theorem rd_fld (h : ta σ H fun x H1 => FldAt K f x H1 Q) : tFld K ta f σ H Q := h
theorem fld_at (h : H a = some (.ins C dx fs)) (c : Cls K C) (n : NoAttr K C f) (l : fs.lookup f = some v) (q : Q v H) : FldAt K f (.ref a) H Q := ⟨a, C, dx, fs, v, rfl, h, c, n, l, q⟩
def SFldAt (K : PySem.W.Frag) (f : Str) (y x : V) (D : Ends) (σ : L2.St) (H2 : Hp) : Prop := ∃ a C dx fs, x = .ref a ∧ H2 a = some (.ins C dx fs) ∧ Cls K C ∧ NoAttr K C f ∧ fs.length < 1000 ∧ D.nx σ (upd H2 a (.ins C dx (putF f y fs)))
theorem rd_sfld (h : te σ H fun y H1 => ta σ H1 fun x H2 => SFldAt K f y x D σ H2) : sFld K ta te f D σ H := h
theorem sfld_at (h : H a = some (.ins C dx fs)) (c : Cls K C) (n : NoAttr K C f) (hl : fs.length < 1000) (q : ∀ H', But a H H' → H' a = some (.ins C dx (putF f y fs)) → D.nx σ H') : SFldAt K f y (.ref a) D σ H := ⟨a, C, dx, fs, rfl, h, c, n, hl, q _ but_upd upd_same⟩
def SAugAt (K : PySem.W.Frag) (tv : TE) (rd : V → V → Hp → VK → Prop) (f : Str) (x : V) (D : Ends) (σ : L2.St) (H1 : Hp) : Prop := ∃ a C dx fs v, x = .ref a ∧ H1 a = some (.ins C dx fs) ∧ Cls K C ∧ NoAttr K C f ∧ fs.lookup f = some v ∧
  tv σ H1 fun y H2 => rd v y H2 fun z H3 => ∃ dx' fs', H3 a = some (.ins C dx' fs') ∧ fs'.length < 1000 ∧ D.nx σ (upd H3 a (.ins C dx' (putF f z fs')))
theorem rd_saug {rd : V → V → Hp → VK → Prop} (h : ta σ H fun x H1 => SAugAt K te rd f x D σ H1) : sFldAug K ta te rd f D σ H := h
/-- o.f += j, numbers -/
theorem saug_at {i j : Int} (h : H a = some (.ins C dx fs)) (c : Cls K C) (n : NoAttr K C f) (hl : fs.length < 1000) (l : fs.lookup f = some (.int i)) (q : ∀ H', But a H H' → H' a = some (.ins C dx (putF f (.int (i + j)) fs)) → D.nx σ H') : SAugAt K (tC (.int j)) rAdd f (.ref a) D σ H :=
  ⟨a, C, dx, fs, _, rfl, h, c, n, l, i, j, rfl, rfl, dx, fs, h, hl, q _ but_upd upd_same⟩
def PropAt (C : Addr) (sp : Sp) (dvs : List V) (E : XK) (x : V) (H1 : Hp) (Q : VK) : Prop := ∃ a dx fs, x = .ref a ∧ H1 a = some (.ins C dx fs) ∧ sp (.ref a :: dvs) H1 Q E
theorem rd_prop (h : ta σ H fun x H1 => PropAt C sp dvs E x H1 Q) : tProp C sp dvs E ta σ H Q := h
theorem prop_at (h : H a = some (.ins C dx fs)) (q : sp (.ref a :: dvs) H Q E) : PropAt C sp dvs E (.ref a) H Q := ⟨a, dx, fs, rfl, h, q⟩
def MethAt (C : Addr) (m : Str) (sp : Sp) (dvs : List V) (E : XK) (t : TA) (σ : L2.St) (x : V) (H1 : Hp) (Q : VK) : Prop := ∃ a dx fs, x = .ref a ∧ H1 a = some (.ins C dx fs) ∧ fs.lookup m = none ∧ t σ H1 fun vs H2 => sp (x :: (vs ++ dvs)) H2 Q E
theorem rd_meth (h : ta σ H fun x H1 => MethAt C m sp dvs E t σ x H1 Q) : tMeth C m sp dvs E ta t σ H Q := h
theorem meth_at (h : H a = some (.ins C dx fs)) (l : fs.lookup m = none) (q : t σ H fun vs H2 => sp (.ref a :: (vs ++ dvs)) H2 Q E) : MethAt C m sp dvs E t σ (.ref a) H Q := ⟨a, dx, fs, rfl, h, l, q⟩
def MakeAt (C : Addr) (sp : Sp) (dvs : List V) (E : XK) (vs : List V) (H1 : Hp) (Q : VK) : Prop := ∀ x dx, H1 x = none → H1 dx = none → dx ≠ x → sp (.ref x :: (vs ++ dvs)) (upd (upd H1 dx (.own x)) x (.ins C dx [])) (fun v H2 => v = .non ∧ Q (.ref x) H2) E
theorem rd_make (h : t σ H fun vs H1 => MakeAt C sp dvs E vs H1 Q) : tMake C sp dvs E t σ H Q := h
theorem make_at {vs : List V} (q : ∀ x dx H2, H x = none → Same H H2 → H2 x = some (.ins C dx []) → sp (.ref x :: (vs ++ dvs)) H2 (fun v H3 => v = .non ∧ Q (.ref x) H3) E) : MakeAt C sp dvs E vs H Q := fun x dx nx nd ne => by
  refine q x dx _ nx (fun b o e => ?_) upd_same
  rw [upd_ne (ne_of_none e nx), upd_ne (ne_of_none e nd)]
  exact e
theorem rd_split {z b : Str} (hz : z.length ≤ 1000000) (hb : (b.length == 0) = false) (q : ∀ p H2, H p = none → Same H H2 → H2 p = some (.lst ((Txt.split z b).map V.str)) → Q (.ref p) H2) :
    (fun x xs H Q => ∃ a b, x = V.str a ∧ xs = [V.str b] ∧ (b.length == 0) = false ∧ a.length + 2 ≤ sizeLine ∧ rNewStrs (Txt.split a b) H Q) (V.str z) [V.str b] H Q :=
  ⟨z, b, rfl, rfl, hb, Nat.le_trans (Nat.add_le_add_right hz 2) (by decide), fun p hp => q p _ hp (same_new hp) upd_same⟩
end
/-- a text's split, as rd_M1 leaves it -/
def SplitAt (z b : Str) (H : Hp) (Q : VK) : Prop := ∃ a c, V.str z = V.str a ∧ [V.str b] = [V.str c] ∧ (c.length == 0) = false ∧ a.length + 2 ≤ sizeLine ∧ rNewStrs (Txt.split a c) H Q
theorem split_at {z b : Str} {H : Hp} {Q : VK} (hz : z.length ≤ 1000000) (hb : (b.length == 0) = false) (q : ∀ p H2, H p = none → Same H H2 → H2 p = some (.lst ((Txt.split z b).map V.str)) → Q (.ref p) H2) : SplitAt z b H Q :=
  ⟨z, b, rfl, rfl, hb, Nat.le_trans (Nat.add_le_add_right hz 2) (by decide), fun p hp => q p _ hp (same_new hp) upd_same⟩
/-! ### all but one object and the tables stay -/
def ExB (p : Addr) (H H' : Hp) : Prop := ∀ b o, b ≠ p → H b = some o → (∀ ps, o ≠ .tbl ps) → H' b = some o
theorem ExB.refl (p : Addr) (H : Hp) : ExB p H H := fun _ _ _ h _ => h
theorem ExB.trans {p : Addr} {H H1 H2 : Hp} (a : ExB p H H1) (b : ExB p H1 H2) : ExB p H H2 := fun c o n h z => b c o n (a c o n h z) z
theorem _root_.L2.But.exB {p : Addr} {H H' : Hp} (a : But p H H') : ExB p H H' := fun c o n h _ => a c o n h
theorem _root_.EE.But.exB {p : Addr} {H H' : Hp} (a : But p H H') : ExB p H H' := fun c o n h _ => a c o n h
theorem _root_.L2.Same.exB {p : Addr} {H H' : Hp} (a : Same H H') : ExB p H H' := fun c o _ h _ => a c o h
theorem _root_.L2.Same.exN {H H' : Hp} (a : Same H H') : ExtN H H' := fun c o h _ => a c o h
theorem _root_.LamX.ExtN.exB {p : Addr} {H H' : Hp} (a : ExtN H H') : ExB p H H' := fun c o _ h z => a c o h z
theorem ExB.exN {p : Addr} {H H' : Hp} (a : ExB p H H') (n : H p = none) : ExtN H H' := fun c o h z => a c o (ne_of_none h n) h z
theorem _root_.LamX.Tabs.but {T : List (Addr × Str)} {p : Addr} {H H' : Hp} (t : Tabs T H) (s : But p H H') (o : HO) (ho : H p = some o) (n1 : ∀ ps, o ≠ .tbl ps) (n2 : ∀ c q, o ≠ CodeO c q) : Tabs T H' := fun x hx => by
  obtain ⟨ps, h1, h2, h3⟩ := t x hx
  refine ⟨ps, s _ _ (fun z => ?_) h1, h2, fun pos cv hc => ?_⟩
  · rw [z, ho] at h1
    exact n1 ps (Option.some.inj h1)
  · obtain ⟨c, e1, e2⟩ := h3 pos cv hc
    refine ⟨c, e1, s _ _ (fun z => ?_) e2⟩
    rw [z, ho] at e2
    exact n2 _ _ (Option.some.inj e2)
/-- a call that raises nothing, by a weaker wish -/
theorem CallsAt.mono {P : Program} {w : World} {K : PySem.W.Frag} {mg : Str → Option Value} {base : Heap} {CX : CXT} {k : Nat} {f : Addr} {vs : List V} {H : Hp} {Q Q' : VK} {E E' : XK} (h : CallsAt P w K mg base C8.CX0 k f vs H Q E) (hQ : ∀ v H', Q v H' → Q' v H') : CallsAt P w K mg base CX k f vs H Q' E' :=
  fun A outer s us hr e0 r => codeAny_mono (h A outer s us hr e0 r) fun r s' z => match r, z with
    | .error _, z => z.elim
    | .ok (.ret u), ⟨w', H', a1, a2, a3, a4, a5, q⟩ => ⟨w', H', a1, a2, a3, a4, a5, hQ _ _ q⟩
    | .ok .next, z => z.elim
    | .ok .brk, z => z.elim
    | .ok .cont, z => z.elim
end EE

/-! Own layer: comprehensions by a property of the heap (elements that make objects). -/
namespace EE
open PySem PySem.Spec PyProof.Rows L2 LamX
section
variable {K : PySem.W.Frag} {σ : L2.St} {H : Hp} {Q : VK} {g : TG} {tt : TT} {te : TE} {vs : List Nat} {a : Addr} {xs : List V}
theorem lcat_enumP (Pv : Addr → Nat → Hp → Prop) (hq : ∀ D i H', H D = none → Pv D i H' → SqL K H' a xs) (h0 : ∀ D, H D = none → Pv D 0 (upd H D (.lst [])))
    (hs : ∀ D i x T H' H2, H D = none → xs[i]? = some x → Pv D i H' → H' T = none → Same H' H2 → H2 T = some (.tup [.int (i : Nat), x]) → g (.ref T) (wipe σ vs) H2 fun σ2 H3 => wipe σ2 vs = wipe σ vs ∧ tt σ2 H3 fun b H4 =>
      if b = true then te σ2 H4 fun y H5 => ∃ acc, H5 D = some (.lst acc) ∧ acc.length < sizeLine ∧ Pv D (i + 1) (upd H5 D (.lst (acc ++ [y]))) else Pv D (i + 1) H4)
    (hd : ∀ D H', H D = none → Pv D xs.length H' → Q (.ref D) H') : LcAt g tt te vs σ Q (Ite K a) H := fun D hD => by
  refine ⟨fun i m H' => m = xs.length - i ∧ i ≤ xs.length ∧ Pv D i H', ⟨xs.length, by simp, Nat.zero_le _, h0 D hD⟩, ?_⟩
  rintro i m H' ⟨rfl, hi, p⟩
  by_cases hlt : i < xs.length
  · refine .inr ⟨⟨xs, xs[i], hq D i H' hD p, List.getElem?_eq_getElem hlt⟩, Pv D (i + 1), fun H2 p' => ⟨xs.length - (i + 1), by omega, rfl, hlt, p'⟩, fun y H2 q => ?_⟩
    obtain ⟨T, x, rfl, hT, rfl, hx⟩ := q
    exact hs D i x T H' _ hD (hx xs (hq D i H' hD p)) p hT (same_new hT) upd_same
  · have e : i = xs.length := by omega
    subst e
    exact .inl ⟨⟨xs, hq D _ H' hD p, Nat.le_refl _⟩, hd D H' hD p⟩
theorem lcat_tupP (Pv : Addr → Nat → Hp → Prop) (hq : ∀ D i H', H D = none → Pv D i H' → SqT K H' a xs) (h0 : ∀ D, H D = none → Pv D 0 (upd H D (.lst [])))
    (hs : ∀ D i x H', H D = none → xs[i]? = some x → Pv D i H' → g x (wipe σ vs) H' fun σ2 H2 => wipe σ2 vs = wipe σ vs ∧ tt σ2 H2 fun b H3 =>
      if b = true then te σ2 H3 fun y H4 => ∃ acc, H4 D = some (.lst acc) ∧ acc.length < sizeLine ∧ Pv D (i + 1) (upd H4 D (.lst (acc ++ [y]))) else Pv D (i + 1) H3)
    (hd : ∀ D H', H D = none → Pv D xs.length H' → Q (.ref D) H') : LcAt g tt te vs σ Q (Itt K a) H := fun D hD =>
  lc_tup (K := K) (xs := xs) (Pv D) (h0 D hD) (fun i H' _ p => hq D i H' hD p) (fun i x H' hc p => hs D i x H' hD hc p) fun H' p => hd D H' hD p
theorem lcat_listP (Pv : Addr → Nat → Hp → Prop) (hq : ∀ D i H', H D = none → Pv D i H' → SqL K H' a xs) (h0 : ∀ D, H D = none → Pv D 0 (upd H D (.lst [])))
    (hs : ∀ D i x H', H D = none → xs[i]? = some x → Pv D i H' → g x (wipe σ vs) H' fun σ2 H2 => wipe σ2 vs = wipe σ vs ∧ tt σ2 H2 fun b H3 =>
      if b = true then te σ2 H3 fun y H4 => ∃ acc, H4 D = some (.lst acc) ∧ acc.length < sizeLine ∧ Pv D (i + 1) (upd H4 D (.lst (acc ++ [y]))) else Pv D (i + 1) H3)
    (hd : ∀ D H', H D = none → Pv D xs.length H' → Q (.ref D) H') : LcAt g tt te vs σ Q (Itl K a) H := fun D hD =>
  lc_list (K := K) (xs := xs) (Pv D) (h0 D hD) (fun i H' _ p => hq D i H' hD p) (fun i x H' hc p => hs D i x H' hD hc p) fun H' p => hd D H' hD p
theorem rd_iEnum {ta : TA} {R : It → Hp → Prop} (h : ta σ H fun vs H1 => ∃ a, vs = [.ref a] ∧ (∃ xs, SqL K H1 a xs) ∧ R (Ite K a) H1) : iEnum K ta σ H R := by
  show ta σ H fun vs H1 => ∃ a xs, vs = [.ref a] ∧ SqL K H1 a xs ∧ R (Ite K a) H1
  have e : (fun (vs : List V) H1 => ∃ a, vs = [.ref a] ∧ (∃ xs, SqL K H1 a xs) ∧ R (Ite K a) H1) = fun (vs : List V) H1 => ∃ a xs, vs = [.ref a] ∧ SqL K H1 a xs ∧ R (Ite K a) H1 := by
    funext vs H1
    exact propext ⟨fun ⟨a, e, ⟨xs, h⟩, r⟩ => ⟨a, xs, e, h, r⟩, fun ⟨a, xs, e, h, r⟩ => ⟨a, e, ⟨xs, h⟩, r⟩⟩
  rw [← e]
  exact h
theorem rd_exRs {a : Addr} {P : Addr → Prop} (h : P a) : ∃ b, [V.ref a] = [V.ref b] ∧ P b := ⟨a, rfl, h⟩
end
theorem pg_tupK {X : Cx} {K : PySem.W.Frag} {pos : Pos} {es : List Expr} {k : Nat} {t : TGs} {n : Nat} (e : X.K = K) (hc : X.calm = true) (h : PGs X es t)
    (hn : (assignEach es X.env).length = n := by rfl) (hst : (assignEach es X.env).findIdx? (·.1) = none := by rfl) : PG X (.Tuple es k pos) (gTup K n t) := by
  subst e
  exact pg_tup hc h hn hst
theorem pe_fldK {X : Cx} {K : PySem.W.Frag} {o : Expr} {f : Str} {pos : Pos} {ta : TE} (e : X.K = K) (he : PE X o ta) (hb : attributeBase o f X.env (eval o X.env) = eval o X.env) : PE X (.Attribute o f pos) (tFld K ta f) := by
  subst e
  exact pe_fld he hb
def StarAt (K : PySem.W.Frag) (t : TA) (σ : L2.St) (Q : List V → Hp → Prop) (x : V) (H1 : Hp) : Prop := ∃ p xs, x = V.ref p ∧ (SqT K H1 p xs ∨ SqL K H1 p xs) ∧ t σ H1 fun ys H2 => Q (xs ++ ys) H2
theorem rd_star {K : PySem.W.Frag} {σ : L2.St} {H : Hp} {te : TE} {t : TA} {Q : List V → Hp → Prop} (h : te σ H fun x H1 => StarAt K t σ Q x H1) : StX.tStar K te t σ H Q := h
theorem star_lst {K : PySem.W.Frag} {σ : L2.St} {H : Hp} {t : TA} {Q : List V → Hp → Prop} {p : Addr} {xs : List V} (h : H p = some (.lst xs)) (q : t σ H fun ys H2 => Q (xs ++ ys) H2) : StarAt K t σ Q (.ref p) H := ⟨p, xs, rfl, .inr (sqL_of h), q⟩
theorem ExB.grow {p D : Addr} {H0 H : Hp} {o : HO} (hD : H0 D = none) (h : ExB p H0 H) : ExB p H0 (upd H D o) := fun b u n e z => by
  rw [upd_ne (ne_of_none e hD)]
  exact h b u n e z
theorem _root_.LamX.Tabs.lst {T : List (Addr × Str)} {p : Addr} {H H' : Hp} {xs : List V} (t : LamX.Tabs T H) (s : But p H H') (ho : H p = some (.lst xs)) : LamX.Tabs T H' := t.but s _ ho (fun ps z => by cases z) fun c q z => by
  unfold LamX.CodeO at z
  cases z
theorem _root_.LamX.Tabs.ins {T : List (Addr × Str)} {p C dx : Addr} {H H' : Hp} {fs : List (Str × V)} (t : LamX.Tabs T H) (s : But p H H') (ho : H p = some (.ins C dx fs)) : LamX.Tabs T H' := t.but s _ ho (fun ps z => by cases z) fun c q z => by
  unfold LamX.CodeO at z
  cases z
end EE

/-! Own layer: a module's dict with text keys, asked for any text. -/
namespace EE
open PySem PySem.Spec PyProof.Rows L2 LamX
def keyOfE (e : DictEntry) : Option Str × Value := (match e.key with | .str x _ => some x | _ => none, e.val)
theorem isStr_key {v : Value} {x z : Str} {t : Tok} (h : v = .str x t) : v.isStr z = decide (z = x) := by
  subst h
  show (x == z) = _
  by_cases e : z = x
  · rw [decide_eq_true e, e]
    exact beq_iff_eq.mpr rfl
  · rw [decide_eq_false e]
    exact beq_eq_false_iff_ne.mpr fun q => e q.symm
theorem find_lit : ∀ {es : List DictEntry} {kv : List (Str × Value)} (z : Str), es.map keyOfE = kv.map (fun p => (some p.1, p.2)) →
    (match es.find? (·.key.isStr z) with | some e => some (some e.val) | none => if es.any (·.refKey) then none else some none) = some (kv.lookup z)
  | [], [], z, _ => rfl
  | [], _ :: _, z, h => by cases h
  | _ :: _, [], z, h => by cases h
  | e :: es, (k, u) :: kv, z, h => by
    rw [List.map_cons, List.map_cons] at h
    injection h with h1 h2
    have ih := find_lit z h2
    obtain ⟨t, hk⟩ : ∃ t, e.key = .str k t := by
      unfold keyOfE at h1
      injection h1 with q1 q2
      split at q1
      · rename_i x t q
        cases q1
        exact ⟨t, q⟩
      · cases q1
    have hv : e.val = u := by
      unfold keyOfE at h1
      injection h1
    rw [List.find?_cons, isStr_key hk]
    by_cases c : z = k
    · rw [decide_eq_true c]
      subst c
      simp only [List.lookup, beq_self_eq_true]
      rw [hv]
    · rw [decide_eq_false c]
      have hb : (z == k) = false := beq_eq_false_iff_ne.mpr c
      simp only [List.lookup, hb]
      rw [← ih]
      have hr : e.refKey = false := by
        unfold DictEntry.refKey
        rw [hk]
      have ea : (e :: es).any (·.refKey) = es.any (·.refKey) := by
        rw [List.any_cons, hr, Bool.false_or]
      rw [ea]
/-- what a look for any text tells -/
theorem nsIn_lit {K : PySem.W.Frag} {d : Addr} {es : Array DictEntry} {n : Nat} {kv : List (Str × Value)} (l : K.lookup d = some ⟨.type "dict", none, .dict es n, #[]⟩) (h : es.toList.map keyOfE = kv.map (fun p => (some p.1, p.2))) (z : Str) : PySem.W.nsIn K d z = some (kv.lookup z) := by
  unfold PySem.W.nsIn
  rw [l]
  exact find_lit z h
theorem sqT_K {K : PySem.W.Frag} {H : Hp} {p : Addr} {its : Array Value} {n : Nat} {xs : List V} (l : K.lookup p = some ⟨.type "tuple", none, .seq its n, #[]⟩) (hs : its.size ≤ sizeLine) (r : Vals xs its.toList) : SqT K H p xs := .inr ⟨_, its, n, l, rfl, rfl, hs, r⟩
end EE

/-! Own layer: str of a text or a number. -/
namespace EE
open PySem PySem.Spec PyProof.Rows L2
def strV : V → Str | .str z => z | .int i => (toString i : String) | _ => ""
def rStrV : List V → Hp → VK → Prop := fun xs H Q => ∃ v, xs = [v] ∧ ((∃ z, v = .str z) ∨ ∃ i : Int, v = .int i ∧ i.natAbs.log2 < 1920) ∧ Q (.str (strV v)) H
theorem cr_strV {X : Cx} : CallR X (.type "str") rStrV := by
  rintro pins s σ H xs us Q I r ⟨v, rfl, h, q⟩
  rcases h with ⟨z, rfl⟩ | ⟨i, rfl, hi⟩
  · exact SkE.call_str_str pins s σ H _ us Q I r ⟨z, rfl, q⟩
  · exact call_str_int pins s σ H _ us Q I r ⟨i, rfl, hi, q⟩
theorem pi_tupK {X : Cx} {K : PySem.W.Frag} {tg e : Expr} {te : TE} (h : X.K = K) (ha : PI X tg e (iTup X.K te)) : PI X tg e (iTup K te) := by
  subst h
  exact ha
theorem pi_listK {X : Cx} {K : PySem.W.Frag} {tg e : Expr} {te : TE} (h : X.K = K) (ha : PI X tg e (iList X.K te)) : PI X tg e (iList K te) := by
  subst h
  exact ha
theorem mtK {X : Cx} {K : PySem.W.Frag} {id : String} (r : PySem.W.Frag → V → List V → Hp → VK → Prop) (h : X.K = K) (c : MtR X id (r X.K)) : MtR X id (r K) := by
  subst h
  exact c
theorem crK {X : Cx} {K : PySem.W.Frag} {f : Value} (r : PySem.W.Frag → List V → Hp → VK → Prop) (h : X.K = K) (c : CallR X f (r X.K)) : CallR X f (r K) := by
  subst h
  exact c
theorem opK {X : Cx} {K : PySem.W.Frag} {op : Value → Value → Sem Value} (r : PySem.W.Frag → V → V → Hp → VK → Prop) (h : X.K = K) (c : OpR X op (r X.K)) : OpR X op (r K) := by
  subst h
  exact c
end EE

/-! Own layer: dicts one step each; looks along a row of heaps. -/
namespace EE
open PySem PySem.Spec PyProof.Rows L2
section
variable {K : PySem.W.Frag} {σ : L2.St} {H : Hp} {Q : VK} {D : Ends} {td ty tv : TE} {a : Addr} {kvs : List (Key × V)}
theorem rd_app2 {H : Hp} {Q : VK} {l : Addr} {xs : List V} {y : V} (h : H l = some (.lst xs)) (hl : xs.length ≤ 1000000) (q : ∀ H1, But l H H1 → H1 l = some (.lst (xs ++ [y])) → Q .non H1) : rAppend (.ref l) [y] H Q := ⟨l, xs, y, rfl, rfl, h, Nat.lt_of_le_of_lt hl (by decide), q _ but_upd upd_same⟩
def DGetAt (x y : V) (H2 : Hp) (Q : VK) : Prop := ∃ a v, x = .ref a ∧ DGet H2 a y (some v) ∧ Q v H2
theorem rd_dget (h : td σ H fun x H1 => ty σ H1 fun y H2 => DGetAt x y H2 Q) : tDGet td ty σ H Q := h
def DInAt (y x : V) (H2 : Hp) (Q : VK) : Prop := ∃ a o, x = .ref a ∧ DGet H2 a y o ∧ Q (.bl o.isSome) H2
theorem rd_din (h : ty σ H fun y H1 => td σ H1 fun x H2 => DInAt y x H2 Q) : tDIn ty td σ H Q := h
def DNotInAt (y x : V) (H2 : Hp) (Q : VK) : Prop := ∃ a o, x = .ref a ∧ DGet H2 a y o ∧ Q (.bl (!o.isSome)) H2
theorem rd_dnotin (h : ty σ H fun y H1 => td σ H1 fun x H2 => DNotInAt y x H2 Q) : tDNotIn ty td σ H Q := h
def DPutAt (x y v : V) (D : Ends) (σ : L2.St) (H3 : Hp) : Prop := ∃ a H4, x = .ref a ∧ DPut H3 a y v H4 ∧ D.nx σ H4
theorem rd_dput (h : tv σ H fun v H1 => td σ H1 fun x H2 => ty σ H2 fun y H3 => DPutAt x y v D σ H3) : sDPut td ty tv D σ H := h
theorem dget_s {z : Str} {v : V} (h : H a = some (.dK kvs)) (e : valV kvs (.inr z) = some v) (q : Q v H) : DGetAt (.ref a) (.str z) H Q := ⟨a, v, rfl, by rw [← e]; exact DGet.k (k := .inr z) h, q⟩
theorem dget_i {i : Int} {v : V} (h : H a = some (.dK kvs)) (e : valV kvs (.inl i) = some v) (q : Q v H) : DGetAt (.ref a) (.int i) H Q := ⟨a, v, rfl, by rw [← e]; exact DGet.k (k := .inl i) h, q⟩
theorem din_s {z : Str} (h : H a = some (.dK kvs)) (q : Q (.bl (valV kvs (.inr z)).isSome) H) : DInAt (.str z) (.ref a) H Q := ⟨a, _, rfl, DGet.k (k := .inr z) h, q⟩
theorem dnotin_s {z : Str} (h : H a = some (.dK kvs)) (q : Q (.bl (!(valV kvs (.inr z)).isSome)) H) : DNotInAt (.str z) (.ref a) H Q := ⟨a, _, rfl, DGet.k (k := .inr z) h, q⟩
theorem dput_s {z : Str} {v : V} (h : H a = some (.dK kvs)) (l : kvs.length ≤ 1000) (q : ∀ H1, But a H H1 → H1 a = some (.dK (putK kvs (.inr z) v)) → D.nx σ H1) : DPutAt (.ref a) (.str z) v D σ H :=
  ⟨a, _, rfl, DPut.k (k := .inr z) h (Nat.lt_of_le_of_lt l (by decide)), q _ but_upd upd_same⟩
theorem dput_i {i : Int} {v : V} (h : H a = some (.dK kvs)) (l : kvs.length ≤ 1000) (q : ∀ H1, But a H H1 → H1 a = some (.dK (putK kvs (.inl i) v)) → D.nx σ H1) : DPutAt (.ref a) (.int i) v D σ H :=
  ⟨a, _, rfl, DPut.k (k := .inl i) h (Nat.lt_of_le_of_lt l (by decide)), q _ but_upd upd_same⟩
theorem setD_s {z : Str} {v : V} {Q : Hp → Prop} (h : H a = some (.dK kvs)) (l : kvs.length ≤ 1000) (q : ∀ H1, But a H H1 → H1 a = some (.dK (putK kvs (.inr z) v)) → Q H1) : rSetD (.ref a) (.str z) v H Q :=
  ⟨a, _, rfl, DPut.k (k := .inr z) h (Nat.lt_of_le_of_lt l (by decide)), q _ but_upd upd_same⟩
end
theorem atI_of {α : Type} {xs : List α} {i : Int} {n : Nat} {v : α} (e : i = n) (h : xs[n]? = some v) : atI xs i = some v := by
  have hi := (List.getElem?_eq_some_iff.mp h).1
  subst e
  unfold atI ixN
  rw [if_pos (by omega), if_pos (by omega), Option.bind_some, Int.toNat_natCast]
  exact h
theorem atI_map {α β : Type} {xs : List α} {f : α → β} {i : Int} {n : Nat} {v : α} (e : i = n) (h : xs[n]? = some v) : atI (xs.map f) i = some (f v) := atI_of e (by rw [List.getElem?_map, h]; rfl)
theorem rd_callS {sp : Sp} {E : L2.St → XK} {t : TA} {σ : L2.St} {H : Hp} {Q : VK} (h : t σ H fun vs H1 => sp vs H1 Q (E σ)) : tCallS sp E t σ H Q := h
theorem xw_at {K : PySem.W.Frag} {f : Str} {x v : V} {H : Hp} {Q : VK} {C : Addr} {fs : List (Str × V)} (h : ExW H C x fs) (T : ExK K C) (n : PySem.W.findIn K (.ref C) f = some none) (l : fs.lookup f = some v) (q : Q v H) : XwAt K f x H Q := ⟨C, fs, v, h, T, n, l, q⟩
theorem isw_at {K : PySem.W.Frag} {H : Hp} {Q : VK} {C D : Addr} {x : V} {fs : List (Str × V)} {b : Bool} (h : ExW H C x fs) (T : ExK K C) (e : PySem.W.kitOne K (.ref C) (.ref D) = some b) (q : Q (.bl b) H) : rIsW K [x, .ref D] H Q := ⟨x, .ref D, C, fs, .ref D, b, rfl, h, .own D, T, e, q⟩
theorem isw_ty {K : PySem.W.Frag} {H : Hp} {Q : VK} {C : Addr} {n : String} {x : V} {fs : List (Str × V)} {b : Bool} (h : ExW H C x fs) (T : ExK K C) (e : PySem.W.kitOne K (.ref C) (.type n) = some b) (q : Q (.bl b) H) : rIsW K [x, .ty n] H Q := ⟨x, .ty n, C, fs, .type n, b, rfl, h, .ty n, T, e, q⟩
theorem iswt_two {K : PySem.W.Frag} {H : Hp} {Q : VK} {C D1 D2 tp : Addr} {x : V} {fs : List (Str × V)} {b : Bool} (h : ExW H C x fs) (ht : H tp = some (.tup [.ref D1, .ref D2])) (T : ExK K C) (e : PySem.W.kitAny K (.ref C) [.ref D1, .ref D2] = some b) (q : Q (.bl b) H) : rIsWT K [x, .ref tp] H Q :=
  ⟨x, tp, C, _, fs, _, b, rfl, h, ht, .cons (.own D1) (.cons (.own D2) .nil), T, e, q⟩
theorem rd_par3 {i j l : Nat} {ta : TA} {D : Ends} {σ : L2.St} {H : Hp} (h : ta σ H fun vs H1 => ∃ u v w, vs = [u, v, w] ∧ D.nx (((σ.set i (some u)).set j (some v)).set l (some w)) H1) : tPar3 i j l ta D σ H := h
theorem rd_exP3 {u v w : V} {P : V → V → V → Prop} (h : P u v w) : ∃ a b c, [u, v, w] = [a, b, c] ∧ P a b c := ⟨u, v, w, rfl, h⟩
theorem cut_take {xs : List V} (k : Nat) : cutV xs none (some (k : Int)) = xs.take k := by
  unfold cutV
  rw [HT.sIx_none, HT.sIx_nat, List.drop_zero, Nat.sub_zero]
  by_cases h : k ≤ xs.length
  · rw [Nat.min_eq_left h]
  · rw [Nat.min_eq_right (by omega), List.take_length, List.take_of_length_le (by omega)]
theorem cut_drop {xs : List V} (k : Nat) : cutV xs (some (k : Int)) none = xs.drop k := by
  unfold cutV
  rw [HT.sIx_none, HT.sIx_nat]
  by_cases h : k ≤ xs.length
  · rw [Nat.min_eq_left h]
    exact List.take_of_length_le (by rw [List.length_drop]; exact Nat.le_refl _)
  · rw [Nat.min_eq_right (by omega), List.drop_length, List.drop_of_length_le (by omega)]
    exact List.take_nil
section
variable {K : PySem.W.Frag} {H : Hp} {Q : VK} {a b : Addr} {xs ys : List Str}
/-! lists of texts, cut and put together -/
theorem rd_slTake {k : Nat} (h : SqL K H a (ys.map V.str)) (q : ∀ p H2, H p = none → Same H H2 → H2 p = some (.lst ((ys.take k).map V.str)) → Q (.ref p) H2) : rSlL K (.ref a) none (some (k : Int)) H Q := rd_slL h fun p H2 n s e => q p H2 n s (by rw [e, cut_take, List.map_take])
theorem rd_slDrop {k : Nat} (h : SqL K H a (ys.map V.str)) (q : ∀ p H2, H p = none → Same H H2 → H2 p = some (.lst ((ys.drop k).map V.str)) → Q (.ref p) H2) : rSlL K (.ref a) (some (k : Int)) none H Q := rd_slL h fun p H2 n s e => q p H2 n s (by rw [e, cut_drop, List.map_drop])
theorem rd_slDrop1 {k : Nat} (h : SqL K H a (ys.map V.str)) (q : ∀ p H2, H p = none → Same H H2 → H2 p = some (.lst ((ys.drop (k + 1)).map V.str)) → Q (.ref p) H2) : rSlL K (.ref a) (some ((k : Int) + 1)) none H Q := rd_slL h fun p H2 n s e => q p H2 n s (by rw [e, show (k : Int) + 1 = ((k + 1 : Nat) : Int) by omega, cut_drop, List.map_drop])
theorem rd_catS (h1 : H a = some (.lst (xs.map V.str))) (h2 : H b = some (.lst (ys.map V.str))) (hl : xs.length + ys.length ≤ 100000) (q : ∀ p H2, H p = none → Same H H2 → H2 p = some (.lst ((xs ++ ys).map V.str)) → Q (.ref p) H2) : rCat (.ref a) (.ref b) H Q :=
  rd_cat h1 h2 (by rw [List.length_map, List.length_map]; exact hl) fun p H2 n s e => q p H2 n s (by rw [e, List.map_append])
theorem new_lstS {z : Str} (q : ∀ p H2, H p = none → Same H H2 → H2 p = some (.lst ([z].map V.str)) → Q (.ref p) H2) : NewL [V.str z] H Q := new_lst (by show 1 ≤ sizeLine; decide) q
end
/-- a class by its global name -/
structure GlC (mg : Str → Option Value) (x : Str) (C : Addr) : Prop where
  g : mg x = some (.ref C)
/-- a def that others call, which may raise -/
structure CalX (P : Program) (w : World) (K : PySem.W.Frag) (mg : Str → Option Value) (base : Heap) (k : Nat) (x : Str) (st : Stmt) (ps : List Str) (sp : Sp) (f : Addr) (fd : FuncData) : Prop where
  F : Fun K x x st f fd
  G : FnOk P w K mg base (L2.CX P w) k f fd ps sp
  g : mg x = some (.ref f)
  b : Binds K fd ps []
/-! ### what stands where, along a row of heaps -/
theorem get_same {H H' : Hp} {a : Addr} {o : HO} (s : Same H H') (h : H a = some o) : H' a = some o := s _ _ h
theorem get_but {p : Addr} {H H' : Hp} {a : Addr} {o : HO} (s : But p H H') (n : a ≠ p) (h : H a = some o) : H' a = some o := s _ _ n h
def Has (H : Hp) (a : Addr) : Prop := ∃ o, H a = some o
theorem has_same {H H' : Hp} {a : Addr} (s : Same H H') (h : Has H a) : Has H' a := let ⟨o, e⟩ := h; ⟨o, s _ _ e⟩
theorem has_but {p : Addr} {H H' : Hp} {a : Addr} (s : But p H H') (n : a ≠ p) (h : Has H a) : Has H' a := let ⟨o, e⟩ := h; ⟨o, s _ _ n e⟩
theorem ne_free {H : Hp} {a p : Addr} (n : H p = none) (h : Has H a) : a ≠ p := let ⟨o, e⟩ := h; ne_of_none e n
theorem ne_free' {H : Hp} {a p : Addr} (n : H a = none) (h : Has H p) : a ≠ p := let ⟨o, e⟩ := h; (ne_of_none e n).symm
/-- a pen, its cells -/
def HasPen (H : Hp) (p : Addr) : Prop := ∃ n q, PenAt n H p q
def HasCells (H : Hp) (q : Addr) : Prop := ∃ n p, PenAt n H p q
theorem hasPen_same {H H' : Hp} {p : Addr} (s : Same H H') (h : HasPen H p) : HasPen H' p := let ⟨n, q, e⟩ := h; ⟨n, q, e.keep s⟩
theorem hasCells_same {H H' : Hp} {p : Addr} (s : Same H H') (h : HasCells H p) : HasCells H' p := let ⟨n, q, e⟩ := h; ⟨n, q, e.keep s⟩
theorem none_same {H H' : Hp} {a : Addr} (s : Same H H') (h : H' a = none) : H a = none := s.free h
theorem none_but {p : Addr} {H H' : Hp} {a : Addr} (s : But p H H') (n : a ≠ p) (h : H' a = none) : H a = none := by
  cases q : H a with
  | none => rfl
  | some o => rw [s _ _ n q] at h; cases h
theorem pen_off {H : Hp} {p D : Addr} (hD : H D = none) (h : HasPen H p) : D ≠ p := let ⟨n, q, e⟩ := h; (e.off hD).1
theorem pen_off' {H : Hp} {q D : Addr} (hD : H D = none) (h : HasCells H q) : D ≠ q := let ⟨n, p, e⟩ := h; (e.off hD).2
theorem same_past {p : Addr} {H H1 H2 : Hp} (s : Same H H1) (b : But p H1 H2) (n : H p = none) : Same H H2 := Same.disp n s b
theorem but_past {p q : Addr} {H H1 H2 : Hp} (s : But p H H1) (b : But q H1 H2) (n : H q = none) : But p H H2 := fun c o z e => b _ _ (ne_of_none e n) (s _ _ z e)
theorem pen_le {n m : Nat} {H : Hp} {p q : Addr} (h : PenAt n H p q) (s : n ≤ m) : PenAt m H p q := h.mono s
end EE

set_option autoImplicit true
set_option relaxedAutoImplicit true
/-! Own layer: one step of a reading, found by its head. -/
namespace EE
open PySem PySem.Spec PyProof.Rows L2
class Go (P : Prop) (R : outParam Prop) : Prop where
  go : R → P
theorem go {P R : Prop} [g : Go P R] (h : R) : P := g.go h
/-! slots -/
class Slot (s : List (Option V)) (i : Nat) (v : outParam V) : Prop where
  e : s[i]? = some (some v)
instance slot_zero {v : V} {s : List (Option V)} : Slot (some v :: s) 0 v := ⟨rfl⟩
instance slot_succ {v : V} {x : Option V} {s : List (Option V)} {i : Nat} [k : Slot s i v] : Slot (x :: s) (i + 1) v := ⟨k.e⟩
class Sets (s : List (Option V)) (i : Nat) (x : Option V) (t : outParam (List (Option V))) : Prop where
  e : s.set i x = t
instance sets_zero {x y : Option V} {s : List (Option V)} : Sets (y :: s) 0 x (x :: s) := ⟨rfl⟩
instance sets_succ {x y : Option V} {s t : List (Option V)} {i : Nat} [k : Sets s i x t] : Sets (y :: s) (i + 1) x (y :: t) := ⟨congrArg (y :: ·) k.e⟩
class StartS (N : List Str) (vs : List V) (s : outParam (List (Option V))) : Prop where
  e : L2.start N vs = s
instance startS_nil : StartS [] [] [] := ⟨rfl⟩
instance startS_none {n : Str} {N : List Str} {s : List (Option V)} [k : StartS N [] s] : StartS (n :: N) [] (none :: s) := ⟨by
  rw [← k.e]
  show List.replicate (N.length + 1) none = none :: List.replicate N.length none
  rfl⟩
instance startS_cons {n : Str} {N : List Str} {v : V} {vs : List V} {s : List (Option V)} [k : StartS N vs s] : StartS (n :: N) (v :: vs) (some v :: s) := ⟨by
  rw [← k.e]
  show some v :: (vs.map some ++ List.replicate ((N.length + 1) - (vs.length + 1)) none) = some v :: (vs.map some ++ List.replicate (N.length - vs.length) none)
  rw [Nat.add_sub_add_right]⟩
instance slot_start {N : List Str} {vs : List V} {s : List (Option V)} {i : Nat} {v : V} [k : StartS N vs s] [q : Slot s i v] : Slot (L2.start N vs) i v := ⟨by rw [k.e]; exact q.e⟩
instance sets_start {N : List Str} {vs : List V} {s t : List (Option V)} {i : Nat} {x : Option V} [k : StartS N vs s] [q : Sets s i x t] : Sets (L2.start N vs) i x t := ⟨by rw [k.e]; exact q.e⟩
instance slot_set {s t : List (Option V)} {j i : Nat} {x : Option V} {v : V} [k : Sets s j x t] [q : Slot t i v] : Slot (List.set s j x) i v := ⟨by rw [k.e]; exact q.e⟩
instance sets_set {s t u : List (Option V)} {j i : Nat} {x y : Option V} [k : Sets s j x t] [q : Sets t i y u] : Sets (List.set s j x) i y u := ⟨by rw [k.e]; exact q.e⟩
class WipeS (s : List (Option V)) (is : List Nat) (t : outParam (List (Option V))) : Prop where
  e : wipe s is = t
instance wipe1 {s t : List (Option V)} {n : Str} {j : Nat} [k : Sets s j none t] : WipeS s (List.map (fun x => x.snd) [(n, j)]) t := ⟨k.e⟩
instance wipe2 {s t u : List (Option V)} {n m : Str} {i j : Nat} [k : Sets s j none t] [q : Sets t i none u] : WipeS s (List.map (fun x => x.snd) [(n, i), (m, j)]) u := ⟨by
  show (s.set j none).set i none = u
  rw [k.e]; exact q.e⟩
instance slot_wipe {s t : List (Option V)} {is : List Nat} {i : Nat} {v : V} [k : WipeS s is t] [q : Slot t i v] : Slot (wipe s is) i v := ⟨by rw [k.e]; exact q.e⟩
instance sets_wipe {s t u : List (Option V)} {is : List Nat} {i : Nat} {x : Option V} [k : WipeS s is t] [q : Sets t i x u] : Sets (wipe s is) i x u := ⟨by rw [k.e]; exact q.e⟩
instance go_var {i : Nat} {s : L2.St} {H : Hp} {Q : VK} {v : V} [k : Slot s i v] : Go (tVar i s H Q) (Q v H) := ⟨fun h => ⟨v, k.e, h⟩⟩
instance go_name {i : Nat} {s s' : L2.St} {H : Hp} {v : V} {Q : L2.St → Hp → Prop} [k : Sets s i (some v) s'] : Go (gName i v s H Q) (Q s' H) := ⟨fun h => by
  have e : s.set i (some v) = s' := k.e
  show Q (s.set i (some v)) H
  rw [e]
  exact h⟩
def Par2 (i j : Nat) (s : L2.St) (H : Hp) (Q : L2.St → Hp → Prop) (vs : List V) : Prop := ∃ v w, vs = [v, w] ∧ Q ((s.set i (some v)).set j (some w)) H
theorem go_par {i j : Nat} {ta : TA} {D : Ends} {s : L2.St} {H : Hp} (h : ta s H fun vs H1 => Par2 i j s H1 D.nx vs) : tPar i j ta D s H := h
instance go_par_i {i j : Nat} {ta : TA} {D : Ends} {s : L2.St} {H : Hp} : Go (tPar i j ta D s H) (ta s H fun vs H1 => Par2 i j s H1 D.nx vs) := ⟨go_par⟩
instance go_par2 {i j : Nat} {s s1 s2 : L2.St} {H : Hp} {Q : L2.St → Hp → Prop} {v w : V} [k1 : Sets s i (some v) s1] [k2 : Sets s1 j (some w) s2] : Go (Par2 i j s H Q [v, w]) (Q s2 H) := ⟨fun h => by
  have e1 : s.set i (some v) = s1 := k1.e
  have e2 : s1.set j (some w) = s2 := k2.e
  exact ⟨v, w, rfl, by rw [e1, e2]; exact h⟩⟩
def Par3 (i j l : Nat) (s : L2.St) (H : Hp) (Q : L2.St → Hp → Prop) (vs : List V) : Prop := ∃ u v w, vs = [u, v, w] ∧ Q (((s.set i (some u)).set j (some v)).set l (some w)) H
instance go_par3_i {i j l : Nat} {ta : TA} {D : Ends} {s : L2.St} {H : Hp} : Go (tPar3 i j l ta D s H) (ta s H fun vs H1 => Par3 i j l s H1 D.nx vs) := ⟨fun h => h⟩
instance go_par3 {i j l : Nat} {s s1 s2 s3 : L2.St} {H : Hp} {Q : L2.St → Hp → Prop} {u v w : V} [k1 : Sets s i (some u) s1] [k2 : Sets s1 j (some v) s2] [k3 : Sets s2 l (some w) s3] : Go (Par3 i j l s H Q [u, v, w]) (Q s3 H) := ⟨fun h => by
  have e1 : s.set i (some u) = s1 := k1.e
  have e2 : s1.set j (some v) = s2 := k2.e
  have e3 : s2.set l (some w) = s3 := k3.e
  exact ⟨u, v, w, rfl, by rw [e1, e2, e3]; exact h⟩⟩
instance go_yes {s : L2.St} {H : Hp} {Q : Bool → Hp → Prop} : Go (tYes s H Q) (Q true H) := ⟨rd_yes⟩
instance go_iteT {A B : Prop} : Go (if true = true then A else B) A := ⟨fun h => iteT h⟩
instance go_iteF {A B : Prop} : Go (if false = true then A else B) B := ⟨fun h => iteF h⟩
instance go_c   : Go (tC v σ H Q) (Q v H) := ⟨rd_c⟩
instance go_op   : Go (tOp r ta tb σ H Q) (ta σ H fun x H1 => tb σ H1 fun y H2 => r x y H2 Q) := ⟨rd_op⟩
instance go_iteNT   : Go (if (!true) = true then A else B) (B) := ⟨iteNT⟩
instance go_iteNF   : Go (if (!false) = true then A else B) (A) := ⟨iteNF⟩
instance go_seq  {t u : TS} : Go (tSeq t u D σ H) (t { D with nx := u D } σ H) := ⟨rd_seq⟩
instance go_asg {g : TG}  {te : TE} : Go (tAsg te g D σ H) (te σ H fun x H1 => g x σ H1 D.nx) := ⟨rd_asg⟩
instance go_ret   {te : TE} : Go (tRet te D σ H) (te σ H D.rt) := ⟨rd_ret⟩
instance go_retN   : Go (tRetN D σ H) (D.rt .non H) := ⟨rd_retN⟩
instance go_drop   {te : TE} : Go (tDrop te D σ H) (te σ H fun _ H1 => D.nx σ H1) := ⟨rd_drop⟩
instance go_next   : Go (tNext D σ H) (D.nx σ H) := ⟨rd_next⟩
instance go_ifS  {c : TT} {t u : TS} : Go (tIfS c t u D σ H) (c σ H fun b H1 => if b = true then t D σ H1 else u D σ H1) := ⟨rd_ifS⟩
instance go_ifE  {c : TT} {ta tb : TE} : Go (tIf c ta tb σ H Q) (c σ H fun b H1 => if b = true then ta σ H1 Q else tb σ H1 Q) := ⟨rd_ifE⟩
instance go_test {Q : Bool → Hp → Prop}  {te : TE} : Go (tTest te σ H Q) (te σ H fun x H' => ∃ k, x = .bl k ∧ Q k H') := ⟨rd_test⟩
instance go_B {Q : Bool → Hp → Prop}  {te : TE} : Go (tB te σ H Q) (te σ H fun x H' => ∃ k, x = .bl k ∧ Q k H') := ⟨rd_B⟩
instance go_and {Q : Bool → Hp → Prop} {c d : TT} : Go (tAnd c d σ H Q) (c σ H fun k H1 => if k = true then d σ H1 Q else Q false H1) := ⟨rd_and⟩
instance go_or {Q : Bool → Hp → Prop} {c d : TT} : Go (tOr c d σ H Q) (c σ H fun k H1 => if k = true then Q true H1 else d σ H1 Q) := ⟨rd_or⟩
instance go_not {Q : Bool → Hp → Prop} {c : TT} : Go (tNot c σ H Q) (c σ H fun k H1 => Q (!k) H1) := ⟨rd_not⟩
instance go_andV   : Go (tAndV ta tb σ H Q) (ta σ H fun x H1 => ∃ c, x = .bl c ∧ if c = true then tb σ H1 Q else Q (.bl false) H1) := ⟨rd_andV⟩
instance go_orV   : Go (tOrV ta tb σ H Q) (ta σ H fun x H1 => ∃ c, x = .bl c ∧ if c = true then Q (.bl true) H1 else tb σ H1 Q) := ⟨rd_orV⟩
instance go_notV   : Go (tNotV ta σ H Q) (ta σ H fun x H1 => ∃ c, x = .bl c ∧ Q (.bl (!c)) H1) := ⟨rd_notV⟩
instance go_nil {Q : List V → Hp → Prop}  : Go (tNil σ H Q) (Q [] H) := ⟨rd_nil⟩
instance go_cons {tr : TA} {Q : List V → Hp → Prop}  : Go (tCons ta tr σ H Q) (ta σ H fun x H1 => tr σ H1 fun xs H2 => Q (x :: xs) H2) := ⟨rd_cons⟩
instance go_call {sp : Sp} {dvs : List V} {E : XK} {tr : TA}  : Go (tCall sp dvs E tr σ H Q) (tr σ H fun vs H1 => sp (vs ++ dvs) H1 Q E) := ⟨rd_call⟩
instance go_CB {r : List V → Hp → VK → Prop} {tr : TA}  : Go (tCB r tr σ H Q) (tr σ H fun vs H1 => r vs H1 Q) := ⟨rd_CB⟩
instance go_chain  {ta tb tc : TE} {r r' : R2} : Go (tChain r r' ta tb tc σ H Q) (ta σ H fun x H1 => tb σ H1 fun y H2 => r x y H2 fun z H3 => ∃ k, z = .bl k ∧ (if k = true then tc σ H3 fun w' H4 => r' y w' H4 Q else Q (.bl false) H3)) := ⟨rd_chain⟩
instance go_gsub {to ti : TE} {ts : TSet} {Q : L2.St → Hp → Prop}  : Go (gSub to ti ts v σ H Q) (to σ H fun o H1 => ti σ H1 fun i H2 => ts o i v H2 fun H3 => Q σ H3) := ⟨rd_gsub⟩
instance go_part {Q : Option Int → Hp → Prop}  {te : TE} : Go (tPart te σ H Q) (te σ H fun x H1 => ∃ i, x = .int i ∧ Q (some i) H1) := ⟨rd_part⟩
instance go_noPart {Q : Option Int → Hp → Prop}  : Go (tNoPart σ H Q) (Q none H) := ⟨rd_noPart⟩
instance go_sl {r : V → Option Int → Option Int → Hp → VK → Prop} {tl th : TO}  {te : TE} : Go (tSl r te tl th σ H Q) (te σ H fun x H1 => tl σ H1 fun l H2 => th σ H2 fun u H3 => r x l u H3 Q) := ⟨rd_sl⟩
instance go_tup {tr : TA}  : Go (tTup tr σ H Q) (tr σ H fun xs H1 => NewT xs H1 Q) := ⟨rd_tup⟩
instance go_lst {tr : TA}  : Go (tLst tr σ H Q) (tr σ H fun xs H1 => NewL xs H1 Q) := ⟨rd_lst⟩
instance go_bl {b : Bool} {P : Bool → Prop}  : Go (∃ k, V.bl b = V.bl k ∧ P k) (P b) := ⟨rd_bl⟩
instance go_exI {i : Int} {P : Int → Prop}  : Go (∃ j, V.int i = V.int j ∧ P j) (P i) := ⟨rd_exI⟩
instance go_exIs {i : Int} {P : Int → Prop}  : Go (∃ j, [V.int i] = [V.int j] ∧ P j) (P i) := ⟨rd_exIs⟩
instance go_exR {a : Addr} {P : Addr → Prop}  : Go (∃ b, V.ref a = V.ref b ∧ P b) (P a) := ⟨rd_exR⟩
instance go_iRng1 {ta : TA} {R : It → Hp → Prop}  : Go (iRng1 ta σ H R) (ta σ H fun vs H1 => ∃ j : Int, vs = [.int j] ∧ -(2 ^ 62) ≤ j ∧ j < 2 ^ 62 ∧ R (Itr 0 j.toNat) H1) := ⟨rd_iRng1⟩
instance go_iRng2 {ta : TA} {R : It → Hp → Prop}  : Go (iRng2 ta σ H R) (ta σ H fun vs H1 => ∃ i j : Int, vs = [.int i, .int j] ∧ (-(2 ^ 62) ≤ i ∧ i < 2 ^ 62 ∧ -(2 ^ 62) ≤ j ∧ j < 2 ^ 62) ∧ R (Itr i (j - i).toNat) H1) := ⟨rd_iRng2⟩
instance go_iList {K : PySem.W.Frag} {te : TE} {R : It → Hp → Prop}  : Go (iList K te σ H R) (te σ H fun x H1 => ∃ a, x = .ref a ∧ (∃ xs, SqL K H1 a xs) ∧ R (Itl K a) H1) := ⟨rd_iList⟩
instance go_iTup {K : PySem.W.Frag} {te : TE} {R : It → Hp → Prop}  : Go (iTup K te σ H R) (te σ H fun x H1 => ∃ a, x = .ref a ∧ (∃ xs, SqT K H1 a xs) ∧ R (Itt K a) H1) := ⟨rd_iTup⟩
instance go_callN {n m : Nat} {sp : Sp} {gV : List V → List V → List V} {E : XK} {t tk : TA}  : Go (tCallN n m sp gV E t tk σ H Q) (t σ H fun vs H1 => tk σ H1 fun zs H2 => vs.length = n ∧ zs.length = m ∧ sp (gV vs zs) H2 Q E) := ⟨rd_callN⟩
instance go_pnil {R : List (V × V) → Hp → Prop}  : Go (tPairs [] σ H R) (R [] H) := ⟨rd_pnil⟩
instance go_pcons {tk tv : TE} {r : List (TE × TE)} {R : List (V × V) → Hp → Prop} {σ : L2.St} {H : Hp} : Go (tPairs ((tk, tv) :: r) σ H R) (tk σ H fun x H1 => tv σ H1 fun y H2 => tPairs r σ H2 fun ps H3 => R ((x, y) :: ps) H3) := ⟨rd_pcons⟩
instance go_exS {z : Str} {P : Str → Prop}  : Go (∃ x, V.str z = .str x ∧ P x) (P z) := ⟨rd_exS⟩
instance go_isS {a : Str} {P : Prop}  : Go ((∃ b, V.str a = V.str b) ∧ P) (P) := ⟨rd_isS⟩
instance go_add {i j : Int}  : Go (rI0 (fun i j => .int (i + j)) (.int i) (.int j) H Q) (Q (.int (i + j)) H) := ⟨rd_add⟩
instance go_sub {i j : Int}  : Go (rI0 (fun i j => .int (i - j)) (.int i) (.int j) H Q) (Q (.int (i - j)) H) := ⟨rd_sub⟩
instance go_lt {i j : Int}  : Go (rI0 (fun i j => .bl (decide (i < j))) (.int i) (.int j) H Q) (Q (.bl (decide (i < j))) H) := ⟨rd_lt⟩
instance go_le {i j : Int}  : Go (rI0 (fun i j => .bl (decide (i ≤ j))) (.int i) (.int j) H Q) (Q (.bl (decide (i ≤ j))) H) := ⟨rd_le⟩
instance go_gt {i j : Int}  : Go (rI0 (fun i j => .bl (decide (j < i))) (.int i) (.int j) H Q) (Q (.bl (decide (j < i))) H) := ⟨rd_gt⟩
instance go_ge {i j : Int}  : Go (rI0 (fun i j => .bl (decide (j ≤ i))) (.int i) (.int j) H Q) (Q (.bl (decide (j ≤ i))) H) := ⟨rd_ge⟩
instance go_eqI {i j : Int}  : Go (rEq (.int i) (.int j) H Q) (Q (.bl (decide (i = j))) H) := ⟨rd_eqI⟩
instance go_neI {i j : Int}  : Go (rNe (.int i) (.int j) H Q) (Q (.bl (!decide (i = j))) H) := ⟨rd_neI⟩
instance go_eqS {i j : Str}  : Go (rEq (.str i) (.str j) H Q) (Q (.bl (decide (i = j))) H) := ⟨rd_eqS⟩
instance go_neS {i j : Str}  : Go (rNe (.str i) (.str j) H Q) (Q (.bl (!decide (i = j))) H) := ⟨rd_neS⟩
instance go_int1 {i : Int}  : Go (rInt1 [.int i] H Q) (Q (.int i) H) := ⟨rd_int1⟩
instance go_int1b {b : Bool}  : Go (rInt1 [.bl b] H Q) (Q (.int (if b then 1 else 0)) H) := ⟨rd_int1b⟩
instance go_abs {i : Int}  : Go (rAbs [.int i] H Q) (Q (.int (if i < 0 then -i else i)) H) := ⟨rd_abs⟩
instance go_inS {c : Nat} {z : Str}  : Go (rInS (.str ⟨#[c]⟩) (.str z) H Q) (Q (.bl (decide (c ∈ z.cps.toList))) H) := ⟨rd_inS⟩
instance go_notInS {c : Nat} {z : Str}  : Go (rNotInS (.str ⟨#[c]⟩) (.str z) H Q) (Q (.bl (!decide (c ∈ z.cps.toList))) H) := ⟨rd_notInS⟩
instance go_isN {x : V}  : Go (rIsN x .non H Q) (Q (.bl (decide (x = .non))) H) := ⟨rd_isN⟩
instance go_notN {x : V}  : Go (rNotN x .non H Q) (Q (.bl (!decide (x = .non))) H) := ⟨rd_notN⟩
instance go_lc {wi : TI} {g : TG} {tt : TT} {te : TE} {vs : List Nat}  : Go (tLc wi g tt te vs σ H Q) (wi σ H (LcAt g tt te vs σ Q)) := ⟨rd_lc⟩
instance go_for {wi : TI} {g : TG} {tb : TS} {D : Ends}  : Go (tFor wi g tb D σ H) (wi σ H (ForAt g tb D σ)) := ⟨rd_for⟩
instance go_iStr {te : TE} {R : It → Hp → Prop}  : Go (iStr te σ H R) (te σ H fun v H1 => ∃ x, v = .str x ∧ R (Its x) H1) := ⟨rd_iStr⟩
instance go_M1 {r : V → List V → Hp → VK → Prop} {to te : TE}  : Go (tM1 r to te σ H Q) (to σ H fun x H1 => (∃ a, x = .str a) ∧ te σ H1 fun y H2 => r x [y] H2 Q) := ⟨rd_M1⟩
instance go_M0 {r : V → List V → Hp → VK → Prop} {to : TE}  : Go (tM0 r to σ H Q) (to σ H fun x H1 => (∃ a, x = .str a) ∧ r x [] H1 Q) := ⟨rd_M0⟩
instance go_un {r : V → Hp → VK → Prop}  : Go (tUn r ta σ H Q) (ta σ H fun x H1 => r x H1 Q) := ⟨rd_un⟩
instance go_neg {i : Int}  : Go (rU (fun i => V.int (-i)) (.int i) H Q) (Q (.int (-i)) H) := ⟨rd_neg⟩
instance go_stx {f : Str} {to te : TE} {D : Ends}  {K : PySem.W.Frag} : Go (tStX K f to te D σ H) (te σ H fun y H1 => to σ H1 fun x H2 => StAt K f y x D σ H2) := ⟨rd_stx⟩
instance go_exP {v w : V} {P : V → V → Prop}  : Go (∃ a b, [v, w] = [a, b] ∧ P a b) (P v w) := ⟨rd_exP⟩
instance go_neB {b c : Bool}  : Go (rNe (.bl b) (.bl c) H Q) (Q (.bl (!decide (b = c))) H) := ⟨rd_neB⟩
instance go_gcons {t : TG} {u : TGs} {v : V} {r : List V} {Q : L2.St → Hp → Prop}  : Go (gCons t u (v :: r) σ H Q) (t v σ H fun σ' H' => u r σ' H' Q) := ⟨rd_gcons⟩
instance go_gnil {Q : L2.St → Hp → Prop}  : Go (gNil [] σ H Q) (Q σ H) := ⟨rd_gnil⟩
instance go_mkV {ta : TA} {sp : Sp}  : Go (tMkV C sp ta σ H Q) (ta σ H fun vs H1 => MkSp C sp vs H1 Q) := ⟨rd_mkV⟩
instance go_mkN {n : Nat} {sp : Sp} {gV : List V → List V → List V} {tk : TA}  : Go (tMkN C n sp gV tk σ H Q) (tk σ H fun zs H1 => MkSpN C n sp gV zs H1 Q) := ⟨rd_mkN⟩
instance go_lenum {K : PySem.W.Frag} {ta : TE} {σ : L2.St} {H : Hp} {Q : VK}  : Go (tLenum K ta σ H Q) (ta σ H fun x H1 => ∃ a xs, x = .ref a ∧ SqL K H1 a xs ∧ xs.length ≤ 100000 ∧ ∀ S vs H', H1 S = none → Same H1 H' → H' S = some (.lst vs) → vs.length = xs.length → EnumVs H' xs vs → Q (.ref S) H') := ⟨rd_lenum⟩
instance go_xvA {K : PySem.W.Frag} {σ : L2.St} {H : Hp} {Q : VK} {f : Str} {te : TE}  : Go (tXv K f te σ H Q) (te σ H fun x H1 => XvAt K f x H1 Q) := ⟨rd_xvA⟩
instance go_fld   {K : PySem.W.Frag} : Go (tFld K ta f σ H Q) (ta σ H fun x H1 => FldAt K f x H1 Q) := ⟨rd_fld⟩
instance go_sfld   {K : PySem.W.Frag} {te : TE} : Go (sFld K ta te f D σ H) (te σ H fun y H1 => ta σ H1 fun x H2 => SFldAt K f y x D σ H2) := ⟨rd_sfld⟩
instance go_saug {rd : V → V → Hp → VK → Prop}  {K : PySem.W.Frag} : Go (sFldAug K ta te rd f D σ H) (ta σ H fun x H1 => SAugAt K te rd f x D σ H1) := ⟨rd_saug⟩
instance go_prop   : Go (tProp C sp dvs E ta σ H Q) (ta σ H fun x H1 => PropAt C sp dvs E x H1 Q) := ⟨rd_prop⟩
instance go_meth  {t : TA} : Go (tMeth C m sp dvs E ta t σ H Q) (ta σ H fun x H1 => MethAt C m sp dvs E t σ x H1 Q) := ⟨rd_meth⟩
instance go_make  {t : TA} : Go (tMake C sp dvs E t σ H Q) (t σ H fun vs H1 => MakeAt C sp dvs E vs H1 Q) := ⟨rd_make⟩
instance go_mkR {C : Addr} {sp : Sp} {ta : TA} {σ : L2.St} {H : Hp} {Q : XK}  : Go (tMkR C sp ta σ H Q) (ta σ H fun vs H1 => MkR C sp vs H1 Q) := ⟨rd_mkR⟩
instance go_iEnum {ta : TA} {R : It → Hp → Prop}  {K : PySem.W.Frag} : Go (iEnum K ta σ H R) (ta σ H fun vs H1 => ∃ a, vs = [.ref a] ∧ (∃ xs, SqL K H1 a xs) ∧ R (Ite K a) H1) := ⟨rd_iEnum⟩
instance go_exRs {a : Addr} {P : Addr → Prop}  : Go (∃ b, [V.ref a] = [V.ref b] ∧ P b) (P a) := ⟨rd_exRs⟩
instance go_star {K : PySem.W.Frag} {σ : L2.St} {H : Hp} {te : TE} {t : TA} {Q : List V → Hp → Prop}  : Go (StX.tStar K te t σ H Q) (te σ H fun x H1 => StarAt K t σ Q x H1) := ⟨rd_star⟩
instance go_dget   : Go (tDGet td ty σ H Q) (td σ H fun x H1 => ty σ H1 fun y H2 => DGetAt x y H2 Q) := ⟨rd_dget⟩
instance go_din   : Go (tDIn ty td σ H Q) (ty σ H fun y H1 => td σ H1 fun x H2 => DInAt y x H2 Q) := ⟨rd_din⟩
instance go_dnotin   : Go (tDNotIn ty td σ H Q) (ty σ H fun y H1 => td σ H1 fun x H2 => DNotInAt y x H2 Q) := ⟨rd_dnotin⟩
instance go_dput   : Go (sDPut td ty tv D σ H) (tv σ H fun v H1 => td σ H1 fun x H2 => ty σ H2 fun y H3 => DPutAt x y v D σ H3) := ⟨rd_dput⟩
instance go_callS {sp : Sp} {E : L2.St → XK} {t : TA} {σ : L2.St} {H : Hp} {Q : VK}  : Go (tCallS sp E t σ H Q) (t σ H fun vs H1 => sp vs H1 Q (E σ)) := ⟨rd_callS⟩
instance go_xw {K : PySem.W.Frag} {f : Str} {te : TE} {σ : L2.St} {H : Hp} {Q : VK}  : Go (tXw K f te σ H Q) (te σ H fun x H1 => XwAt K f x H1 Q) := ⟨rd_xw⟩
instance go_bm {T : String} {r : V → List V → Hp → VK → Prop} {tr : TA}  {K : PySem.W.Frag} : Go (tBM K T r ta tr σ H Q) (ta σ H fun x H1 => tyV K T x H1 ∧ tr σ H1 fun xs H2 => r x xs H2 Q) := ⟨rd_bm⟩
/-! steps that look at the heap: the goal first, then the look -/
class AtN {α : Type} (xs : List α) (n : Nat) (v : outParam α) : Prop where
  e : xs[n]? = some v
instance atN_zero {α : Type} {x : α} {xs : List α} : AtN (x :: xs) 0 x := ⟨rfl⟩
instance atN_succ {α : Type} {x v : α} {xs : List α} {n : Nat} [k : AtN xs n v] : AtN (x :: xs) (n + 1) v := ⟨k.e⟩
theorem atI_lit {α : Type} {xs : List α} {n : Nat} {v : α} [k : AtN xs n v] : atI xs (OfNat.ofNat n) = some v := EE.atI_of (n := n) rfl k.e
section
variable {K : PySem.W.Frag} {H : Hp} {Q : VK} {p a b : Addr} {k : Nat}
def LenGo (K : PySem.W.Frag) (p : Addr) (H : Hp) (Q : VK) : Prop := (∃ ys, SqL K H p ys ∧ Q (.int ys.length) H) ∨ ∃ ys, SqT K H p ys ∧ Q (.int ys.length) H
theorem len_go (h : LenGo K p H Q) : rLenQ K [.ref p] H Q := h.elim (fun ⟨_, e, q⟩ => rd_len e q) fun ⟨_, e, q⟩ => rd_lenT e q
def SlTGo (K : PySem.W.Frag) (a : Addr) (k : Nat) (H : Hp) (Q : VK) : Prop := ∃ ys : List Str, SqL K H a (ys.map V.str) ∧ ∀ p H2, H p = none → Same H H2 → H2 p = some (.lst ((ys.take k).map V.str)) → Q (.ref p) H2
theorem slT_go (h : SlTGo K a k H Q) : rSlL K (.ref a) none (some (k : Int)) H Q := let ⟨_, e, q⟩ := h; rd_slTake e q
def SlDGo (K : PySem.W.Frag) (a : Addr) (k : Nat) (H : Hp) (Q : VK) : Prop := ∃ ys : List Str, SqL K H a (ys.map V.str) ∧ ∀ p H2, H p = none → Same H H2 → H2 p = some (.lst ((ys.drop k).map V.str)) → Q (.ref p) H2
theorem slD_go (h : SlDGo K a k H Q) : rSlL K (.ref a) (some (k : Int)) none H Q := let ⟨_, e, q⟩ := h; rd_slDrop e q
theorem slD1_go (h : SlDGo K a (k + 1) H Q) : rSlL K (.ref a) (some ((k : Int) + 1)) none H Q := let ⟨_, e, q⟩ := h; rd_slDrop1 e q
def SlGo (K : PySem.W.Frag) (a : Addr) (lo hi : Option Int) (H : Hp) (Q : VK) : Prop := ∃ xs : List V, SqL K H a xs ∧ ∀ p H2, H p = none → Same H H2 → H2 p = some (.lst (cutV xs lo hi)) → Q (.ref p) H2
theorem sl_go {lo hi : Option Int} (h : SlGo K a lo hi H Q) : rSlL K (.ref a) lo hi H Q := let ⟨_, e, q⟩ := h; rd_slL e q
def CatGo (a b : Addr) (H : Hp) (Q : VK) : Prop := ∃ xs zs : List V, H a = some (.lst xs) ∧ H b = some (.lst zs) ∧ xs.length + zs.length ≤ 100000 ∧ ∀ p H2, H p = none → Same H H2 → H2 p = some (.lst (xs ++ zs)) → Q (.ref p) H2
theorem cat_go (h : CatGo a b H Q) : rCat (.ref a) (.ref b) H Q := let ⟨_, _, h1, h2, l, q⟩ := h; rd_cat h1 h2 l q
theorem catS_go {xs ys : List Str} (h1 : H a = some (.lst (xs.map V.str))) (h2 : H b = some (.lst (ys.map V.str))) (hl : xs.length + ys.length ≤ 100000) (q : ∀ p H2, H p = none → Same H H2 → H2 p = some (.lst ((xs ++ ys).map V.str)) → Q (.ref p) H2) : CatGo a b H Q :=
  ⟨_, _, h1, h2, by rw [List.length_map, List.length_map]; exact hl, fun p H2 n s e => q p H2 n s (by rw [e, List.map_append])⟩
theorem catV_go {xs zs : List V} (h1 : H a = some (.lst xs)) (h2 : H b = some (.lst zs)) (hl : xs.length + zs.length ≤ 100000) (q : ∀ p H2, H p = none → Same H H2 → H2 p = some (.lst (xs ++ zs)) → Q (.ref p) H2) : CatGo a b H Q := ⟨_, _, h1, h2, hl, q⟩
def IxLGo (K : PySem.W.Frag) (p : Addr) (i : Int) (H : Hp) (Q : VK) : Prop := ∃ xs, SqL K H p xs ∧ ∃ v, atI xs i = some v ∧ Q v H
theorem ixL_go {i : Int} (h : IxLGo K p i H Q) : rIxL K (.ref p) (.int i) H Q := let ⟨_, e, _, hv, q⟩ := h; rd_ixL e hv q
end
/-- the slots at a def's start -/
theorem rd_start {N : List Str} {vs : List V} {s : L2.St} {t : TS} {D : Ends} {H : Hp} (e : L2.start N vs = s) (h : t D s H) : t D (L2.start N vs) H := by rw [e]; exact h
end EE

/-! Own layer: data in the heap, small data. -/
namespace EE
open PySem PySem.Spec PyProof.Rows L2 LamX
theorem _root_.L2.Same.seqT {K : PySem.W.Frag} {H H' : Hp} {a : Addr} {xs : List V} (e : Same H H') (h : SqT K H a xs) : SqT K H' a xs := by
  rcases h with (h | ⟨o, h⟩) | h
  · exact .inl (.inl (e _ _ h))
  · exact .inl (.inr ⟨o, e _ _ h⟩)
  · exact .inr h
section
variable {K : PySem.W.Frag} {H H' : Hp}
mutual
theorem dp_same (s : Same H H') : ∀ (d : PyData) (v : V), Dp K H v d → Dp K H' v d
  | .none, _, h => by cases h; exact .non
  | .bool b, _, h => by cases h; exact .bl b
  | .int i, _, h => by cases h; exact .int i
  | .str x, _, h => by cases h; exact .str x
  | .list ds, _, h => by
    cases h with
    | lst a b => exact .lst (L2.Same.seq s a) (dpAll_same s ds _ b)
  | .tuple ds, _, h => by
    cases h with
    | tup a b => exact .tup (L2.Same.seqT s a) (dpAll_same s ds _ b)
  | .dict _, _, h => by cases h
theorem dpAll_same (s : Same H H') : ∀ (ds : List PyData) (vs : List V), DpAll K H vs ds → DpAll K H' vs ds
  | [], _, h => by cases h; exact .nil
  | d :: ds, _, h => by
    cases h with
    | cons a b => exact .cons (dp_same s d _ a) (dpAll_same s ds _ b)
end
mutual
theorem dp_dq : ∀ (d : PyData) (v : V), Dp K H v d → Dq K H v d
  | .none, _, h => by cases h; exact .non
  | .bool b, _, h => by cases h; exact .bl b
  | .int i, _, h => by cases h; exact .int i
  | .str x, _, h => by cases h; exact .str x
  | .list ds, _, h => by
    cases h with
    | lst a b => exact .lst a (dpAll_dq ds _ b)
  | .tuple ds, _, h => by
    cases h with
    | tup a b => exact .tup a (dpAll_dq ds _ b)
  | .dict _, _, h => by cases h
theorem dpAll_dq : ∀ (ds : List PyData) (vs : List V), DpAll K H vs ds → DqAll K H vs ds
  | [], _, h => by cases h; exact .nil
  | d :: ds, _, h => by
    cases h with
    | cons a b => exact .cons (dp_dq d _ a) (dpAll_dq ds _ b)
end
theorem _root_.L2.Dp.keep {v : V} {d : PyData} (h : Dp K H v d) (s : Same H H') : Dp K H' v d := dp_same s d v h
theorem _root_.L2.Dp.dq {v : V} {d : PyData} (h : Dp K H v d) : Dq K H v d := dp_dq d v h
def flD : V → PyData | .bl b => .bool b | .int i => .int i | .str z => .str z | _ => .none
def isFl : V → Prop | .non => True | .bl _ => True | .int _ => True | .str _ => True | _ => False
theorem dp_fl : ∀ {v : V}, isFl v → Dp K H v (flD v)
  | .non, _ => .non
  | .bl b, _ => .bl b
  | .int i, _ => .int i
  | .str z, _ => .str z
theorem dpAll_fl : ∀ {vs : List V}, (∀ v ∈ vs, isFl v) → DpAll K H vs (vs.map flD)
  | [], _ => .nil
  | v :: vs, h => .cons (dp_fl (h v List.mem_cons_self)) (dpAll_fl fun x hx => h x (List.mem_cons_of_mem _ hx))
theorem dpAll_map {α : Type} {f : α → V} {g : α → PyData} : ∀ {l : List α}, (∀ x ∈ l, Dp K H (f x) (g x)) → DpAll K H (l.map f) (l.map g)
  | [], _ => .nil
  | x :: l, h => .cons (h x List.mem_cons_self) (dpAll_map fun y hy => h y (List.mem_cons_of_mem _ hy))
end
/-! ### small data -/
structure Sm (n k : Nat) (d : PyData) : Prop where
  l : d.leavesShort 13 = true
  s : d.showable = true
  c : d.canLay0 = true
  b : d.bulk ≤ n
  d : d.depth ≤ k
structure SmAll (n k : Nat) (ds : List PyData) : Prop where
  l : PyData.leavesShortAll 13 ds = true
  s : PyData.showableAll ds = true
  c : PyData.canLayAll0 ds = true
  b : PyData.bulkAll ds ≤ n
  d : PyData.depthAll ds ≤ k
theorem Sm.mono {n m k j : Nat} {d : PyData} (h : Sm n k d) (h1 : n ≤ m) (h2 : k ≤ j) : Sm m j d := ⟨h.l, h.s, h.c, Nat.le_trans h.b h1, Nat.le_trans h.d h2⟩
theorem SmAll.mono {n m k j : Nat} {d : List PyData} (h : SmAll n k d) (h1 : n ≤ m) (h2 : k ≤ j) : SmAll m j d := ⟨h.l, h.s, h.c, Nat.le_trans h.b h1, Nat.le_trans h.d h2⟩
theorem smAll_nil {k : Nat} : SmAll 0 k [] := ⟨rfl, rfl, rfl, Nat.le_refl _, Nat.zero_le _⟩
theorem smAll_cons {n m k : Nat} {d : PyData} {ds : List PyData} (h : Sm n k d) (t : SmAll m k ds) : SmAll (n + 1 + m) k (d :: ds) := by
  refine ⟨?_, ?_, ?_, ?_, ?_⟩
  · show (d.leavesShort 13 && PyData.leavesShortAll 13 ds) = true
    rw [h.l, t.l]; rfl
  · show (d.showable && PyData.showableAll ds) = true
    rw [h.s, t.s]; rfl
  · show (d.canLay0 && PyData.canLayAll0 ds) = true
    rw [h.c, t.c]; rfl
  · show d.bulk + 1 + PyData.bulkAll ds ≤ _
    have := h.b; have := t.b; omega
  · show max d.depth (PyData.depthAll ds) ≤ k
    exact Nat.max_le.mpr ⟨h.d, t.d⟩
theorem smAll_of {n k : Nat} : ∀ {ds : List PyData}, (∀ d ∈ ds, Sm n k d) → SmAll (ds.length * (n + 1)) k ds
  | [], _ => smAll_nil.mono (Nat.zero_le _) (Nat.le_refl _)
  | d :: ds, h => (smAll_cons (h d List.mem_cons_self) (smAll_of fun x hx => h x (List.mem_cons_of_mem _ hx))).mono (by rw [List.length_cons, Nat.succ_mul]; omega) (Nat.le_refl _)
theorem SmAll.list {n k : Nat} {ds : List PyData} (h : SmAll n k ds) : Sm n (k + 1) (.list ds) := ⟨h.l, h.s, h.c, h.b, Nat.succ_le_succ h.d⟩
theorem SmAll.tuple {n k : Nat} {ds : List PyData} (h : SmAll n k ds) : Sm n (k + 1) (.tuple ds) := ⟨h.l, h.s, h.c, h.b, Nat.succ_le_succ h.d⟩
theorem sm_str {z : Str} {n : Nat} (ha : Asc z) (h : z.length ≤ n) : Sm n 0 (.str z) := by
  refine ⟨List.all_eq_true.mpr fun c hc => decide_eq_true (Nat.lt_trans (ha c hc) (by decide)), rfl, ha.ok, h, Nat.le_refl _⟩
theorem sm_int {i : Int} (h : i.natAbs < 10 ^ 12) : Sm 0 0 (.int i) := by
  refine ⟨decide_eq_true (PyData.shown_int_le h), decide_eq_true (log2_lt (Nat.lt_trans h (by decide : 10 ^ 12 < 2 ^ 1920)) (by decide)), rfl, Nat.le_refl _, Nat.le_refl _⟩
theorem sm_bool {b : Bool} : Sm 0 0 (.bool b) := ⟨rfl, rfl, rfl, Nat.le_refl _, Nat.le_refl _⟩
theorem sm_none : Sm 0 0 .none := ⟨rfl, rfl, rfl, Nat.le_refl _, Nat.le_refl _⟩
theorem Sm.shown {n k : Nat} {d : PyData} (h : Sm n k d) (hn : n ≤ 1000000) (hk : k ≤ 60) : d.showable = true ∧ d.depth ≤ 60 ∧ d.shown.length ≤ sizeLine := by
  refine ⟨h.s, Nat.le_trans h.d hk, ?_⟩
  have := PyData.shown_le_bulk 13 (by decide) d h.l
  have := h.b
  have e : (sizeLine : Nat) = 16777216 := by decide
  rw [e]
  omega
theorem Sm.shaped {n k : Nat} {d : PyData} (h : Sm n k d) (hk : k ≤ 60) : SeqAt.shaped d = true := by
  unfold SeqAt.shaped
  rw [h.c, decide_eq_true (Nat.le_trans h.d (Nat.le_trans hk (by decide)))]
  rfl
theorem Sm.self {n k : Nat} {d : PyData} (h : Sm n k d) : PyData.eqv d d = true := PySem.SeqAt.eqv_refl d h.c
section
variable {K : PySem.W.Frag} {H : Hp} {Q : VK}
/-- repr, d == d, d != d of small data -/
theorem rd_reprS {n k : Nat} {a : Addr} {d : PyData} (h : Dp K H (.ref a) d) (s : Sm n k d) (hn : n ≤ 1000000) (hk : k ≤ 60) (q : Q (.str d.shown) H) : rReprQ K [.ref a] H Q := let ⟨h1, h2, h3⟩ := s.shown hn hk; rd_reprQ h.dq h1 h2 h3 q
theorem rd_eqSm {n k : Nat} {x y : V} {d : PyData} (h1 : Dp K H x d) (h2 : Dp K H y d) (s : Sm n k d) (hk : k ≤ 60) (q : Q (.bl true) H) : rEqD K x y H Q := rd_eqD h1 h2 (s.shaped hk) (s.shaped hk) (by rw [s.self]; exact q)
theorem rd_neSm {n k : Nat} {x y : V} {d : PyData} (h1 : Dp K H x d) (h2 : Dp K H y d) (s : Sm n k d) (hk : k ≤ 60) (q : Q (.bl false) H) : rNeD K x y H Q := rd_neD h1 h2 (s.shaped hk) (s.shaped hk) (by rw [s.self]; exact q)
end
/-! ### all but tables kept -/
theorem get_ext {H H' : Hp} {a : Addr} {o : HO} (s : ExtN H H') (n : ∀ ps, o ≠ .tbl ps) (h : H a = some o) : H' a = some o := s _ _ h n
theorem PenAt.ext {n : Nat} {H H' : Hp} {p q : Addr} (h : PenAt n H p q) (s : ExtN H H') : PenAt n H' p q := by
  obtain ⟨ns, a, r, h1, h2, h3⟩ := h
  exact ⟨ns, a, r, s _ _ h1 (fun _ z => by cases z), s _ _ h2 (fun _ z => by cases z), h3⟩
theorem tabs_pen {T : List (Addr × Str)} {n : Nat} {H H' : Hp} {p q : Addr} (t : Tabs T H) (h : PenAt n H p q) (b : But p H H') : Tabs T H' := by
  obtain ⟨ns, a, r, h1, _⟩ := h
  exact t.lst b h1
end EE
namespace EE
open PySem PySem.Spec PyProof.Rows L2 LamX
/-! ### rows of objects -/
structure ObjsAt (H : Hp) (os : List HO) (vs : List V) : Prop where
  len : vs.length = os.length
  at_ : ∀ (j : Nat) (o : HO), os[j]? = some o → ∃ q : Addr, vs[j]? = some (V.ref q) ∧ H q = some o
theorem ObjsAt.nil {H : Hp} : ObjsAt H [] [] := ⟨rfl, fun j o e => by cases e⟩
theorem ObjsAt.to {H H' : Hp} {os : List HO} {vs : List V} (h : ObjsAt H os vs) (k : ∀ q o, o ∈ os → H q = some o → H' q = some o) : ObjsAt H' os vs := ⟨h.len, fun j o e => let ⟨q, e1, e2⟩ := h.at_ j o e; ⟨q, e1, k _ _ (List.mem_of_getElem? e) e2⟩⟩
theorem ObjsAt.snoc {H : Hp} {os : List HO} {vs : List V} {o : HO} {q : Addr} (h : ObjsAt H os vs) (hq : H q = some o) : ObjsAt H (os ++ [o]) (vs ++ [.ref q]) := by
  refine ⟨by simp [h.len], fun j u e => ?_⟩
  by_cases hj : j < os.length
  · rw [List.getElem?_append_left hj] at e
    obtain ⟨p, e1, e2⟩ := h.at_ j u e
    exact ⟨p, by rw [List.getElem?_append_left (by rw [h.len]; exact hj)]; exact e1, e2⟩
  · have : j = os.length := by
      rw [List.getElem?_append_right (by omega)] at e
      have := (List.getElem?_eq_some_iff.mp e).1
      simp at this
      omega
    subst this
    rw [List.getElem?_append_right (Nat.le_refl _), Nat.sub_self] at e
    cases e
    exact ⟨q, by rw [← h.len, List.getElem?_append_right (Nat.le_refl _), Nat.sub_self]; rfl, hq⟩
theorem ObjsAt.cons {H : Hp} {os : List HO} {vs : List V} {o : HO} {q : Addr} (h : ObjsAt H os vs) (hq : H q = some o) : ObjsAt H (o :: os) (.ref q :: vs) := by
  refine ⟨by simp [h.len], fun j u e => ?_⟩
  cases j with
  | zero => cases e; exact ⟨q, rfl, hq⟩
  | succ j => exact h.at_ j u e
def objD : HO → PyData | .lst xs => .list (xs.map flD) | .tup xs => .tuple (xs.map flD) | _ => .none
def objFl : HO → Prop | .lst xs => ∀ v ∈ xs, isFl v | .tup xs => ∀ v ∈ xs, isFl v | _ => False
theorem ObjsAt.tail {H : Hp} {o : HO} {os : List HO} {v : V} {vs : List V} (h : ObjsAt H (o :: os) (v :: vs)) : ObjsAt H os vs := ⟨Nat.succ.inj h.len, fun j u e => h.at_ (j + 1) u e⟩
theorem obj_dp {K : PySem.W.Frag} {H : Hp} {q : Addr} {o : HO} (f : objFl o) (h : H q = some o) : Dp K H (.ref q) (objD o) := by
  cases o with
  | lst xs => exact .lst (sqL_of h) (dpAll_fl f)
  | tup xs => exact .tup (sqT_of h) (dpAll_fl f)
  | _ => exact f.elim
theorem ObjsAt.dp {K : PySem.W.Frag} {H : Hp} : ∀ {os : List HO} {vs : List V}, ObjsAt H os vs → (∀ o ∈ os, objFl o) → DpAll K H vs (os.map objD)
  | [], [], _, _ => .nil
  | [], _ :: _, h, _ => by have := h.len; cases this
  | _ :: _, [], h, _ => by have := h.len; cases this
  | o :: os, v :: vs, h, f => by
    obtain ⟨q, e1, e2⟩ := h.at_ 0 o rfl
    cases e1
    exact .cons (obj_dp (f o List.mem_cons_self) e2) (h.tail.dp fun u hu => f u (List.mem_cons_of_mem _ hu))
/-- off all that stands in H, tables apart -/
def NewX (H : Hp) (p : Addr) : Prop := ∀ b o, H b = some o → (∀ ps, o ≠ .tbl ps) → b ≠ p
end EE

/-! Own layer: f(**d), def f(**d). -/
namespace EE
open PySem PySem.Spec PyProof.Rows L2
section
variable {prog : Program} {w : World} {K : Type} [DecidableEq K] {knd : KeyKind prog w K} {A : Around} {E : Value → Shared → Prop} {s : Shared}
theorem dictFind_new {d : Addr} {kvs : List (K × Value)} {k : K} {key : Value} {Q : Option Nat → Shared → Prop} (hkey : knd.is k key = true) (hm : s.heap.DictOf knd d kvs) (hnot : k ∉ kvs.map (·.1)) (hQ : Q none s) :
    wpAny (model prog w) A (dictFind d key (knd.hash k)) Q E s := by
  obtain ⟨o, es, ep, ho, hc, hd, hk, hp, hn⟩ := hm
  refine wpAny_dictFind_of hkey ho hd hk ?_
  have hidx : (es.findIdx? fun e => knd.is k e.key) = kvs.findIdx? fun kv => decide (kv.1 = k) := by
    rw [← hp.findIdx k]; obtain ⟨l⟩ := es; simp
  have : (kvs.findIdx? fun kv => decide (kv.1 = k)) = none := by
    rw [List.findIdx?_eq_none_iff]
    intro x hx
    exact decide_eq_false fun e => hnot (List.mem_map.mpr ⟨x, hx, e⟩)
  rw [hidx, this]
  exact hQ
theorem dictPut_new {d : Addr} {kvs : List (K × Value)} {k : K} {key v : Value} {Q : Unit → Shared → Prop} (hkey : knd.is k key = true) (hm : s.heap.DictOf knd d kvs) (hnot : k ∉ kvs.map (·.1))
    (hQ : ∀ h', h'.DictOf knd d (kvs ++ [(k, v)]) → Heap.SameBut d s.heap h' → Q () { s with heap := h' }) (hsz : kvs.length ≤ sizeLine) :
    wpAny (model prog w) A (dictPut d (knd.hash k) key v) Q E s := by
  unfold dictPut
  refine wpAny_bind (dictFind_new hkey hm hnot ?_)
  obtain ⟨o, es, ep, ho, hc, hd, hk, hp, hn⟩ := hm
  have hes : es.size ≤ sizeLine := by
    have e1 := hp.length
    have e2 : es.toList.length = es.size := by simp
    omega
  refine wpAny_updateDictKeys (hz := hes) ho hd (hQ _ ⟨_, _, ep + 1, Heap.get?_update_self _ ho (Obj.isFreed_of_dict (Obj.data_mapDictKeys hd _)),
      hc.mapDictKeys _, Obj.data_mapDictKeys hd _, hk.push hkey _, ?_, ?_⟩ (Heap.SameBut.update ..))
  · have := hp.append hkey (knd.hash k) v
    obtain ⟨l⟩ := es
    simpa using this
  · rw [List.map_append, List.nodup_append]
    refine ⟨hn, by simp, ?_⟩
    intro a ha b hb
    simp only [List.map_cons, List.map_nil, List.mem_singleton] at hb
    subst hb
    exact fun e => hnot (e ▸ ha)
theorem merge_new {d o : Addr} {more : List (K × Value)} {Q : Unit → Shared → Prop} (hdo : d ≠ o) (hoS : (o == sysModules) = false) (hd : s.heap.DictOf knd d []) (ho : s.heap.DictOf knd o more) (hr : ∀ k v, knd.is k v = true → ∀ a, v ≠ .ref a)
    (hQ : ∀ h', h'.DictOf knd d more → Heap.SameBut d s.heap h' → Q () { s with heap := h' }) (hsz : more.length ≤ sizeLine) : wpAny (model prog w) A (mergeMapping d (.ref o) true) Q E s := by
  obtain ⟨od, esd, epd, hod, hcd, hdd, hkd, hpd, hnd⟩ := id hd
  obtain ⟨oo, eso, epo, hoo, hco, hdo', hko, hpo, hno⟩ := id ho
  have hlen : more.length = eso.size := by rw [← hpo.length]; simp
  have h0 : esd = #[] := by
    have := hpd.length
    exact Array.eq_empty_of_size_eq_zero (by simpa using this)
  unfold mergeMapping
  refine wpAny_bind (wpAny_isInstance ho.typeIs isSubtype_dict_dict ?_)
  dsimp only
  rw [if_pos rfl]
  refine wpAny_bind (wpAny_specialOf ho.typeIs F.slot_dict_iter.lookup ?_)
  rw [show (some (Value.builtin "dict.__iter__") == some (Value.builtin "dict.__iter__")) = true by simp]
  refine wpAny_bind (wpAny_pure ?_)
  dsimp only
  rw [if_neg (by rw [hoS]; exact Bool.false_ne_true)]
  refine wpAny_bind (wpAny_dictEntries hod hdd ?_)
  rw [h0, if_pos (by rfl)]
  refine wpAny_bind (wpAny_dictEntries hoo hdo' ?_)
  refine wpAny_bind ?_
  rw [← Array.forIn_toList]
  refine wpAny_forIn_list _ (fun rest _ s' => s' = s ∧ ∀ e ∈ rest, e ∈ eso.toList) _ ?_ ?_ _ _ ⟨rfl, fun e he => he⟩
  · rintro e rest b s' ⟨rfl, hm⟩
    obtain ⟨k', hkey', _⟩ := hko e (by simpa using hm e List.mem_cons_self)
    have nr := hr _ _ hkey'
    split
    · rename_i a q
      exact absurd q (nr a)
    · exact wpAny_pure ⟨rfl, fun x hx => hm x (List.mem_cons_of_mem _ hx)⟩
  · rintro b s' ⟨rfl, _⟩
    refine wpAny_bind (wpAny_dictEntries hoo hdo' ?_)
    refine wpAny_bind (wpAny_dictEpoch hoo hdo' ?_)
    refine wpAny_bind (wpAny_forIn_list _ (fun rest _ s2 => ∃ h' i, s2 = { s' with heap := h' } ∧ rest = List.range' i (eso.size - i) ∧ i ≤ eso.size ∧ h'.DictOf knd d (more.take i) ∧ h'.get? o = some oo ∧ Heap.SameBut d s'.heap h') _ ?_ ?_ _ _
      ⟨s'.heap, 0, rfl, by rw [List.range_eq_range', Nat.sub_zero], Nat.zero_le _, by simpa using hd, hoo, Heap.SameBut.refl _ _⟩)
    · rintro x rest b2 s2 ⟨h', i, rfl, hr2, hi, hd', hoo', hs'⟩
      have hlt : i < eso.size := by
        rcases Nat.lt_or_ge i eso.size with h | h
        · exact h
        · rw [Nat.sub_eq_zero_of_le h] at hr2; simp at hr2
      obtain ⟨rfl, hrest⟩ : x = i ∧ rest = List.range' (i + 1) (eso.size - (i + 1)) := by
        have e : eso.size - i = (eso.size - (i + 1)) + 1 := by omega
        rw [e, List.range'_succ] at hr2
        injection hr2 with h1 h2
        exact ⟨h1, h2⟩
      refine wpAny_bind (wpAny_dictEntries hoo' hdo' ?_)
      rw [Array.getElem?_eq_getElem hlt]
      obtain ⟨kv, hkv⟩ : ∃ kv, more[x]? = some kv := ⟨more[x]'(by rw [hlen]; exact hlt), List.getElem?_eq_getElem _⟩
      obtain ⟨k, v⟩ := kv
      obtain ⟨hkey, hval⟩ := hpo.get? (e := eso[x]) (by simp [hlt]) hkv
      obtain ⟨k', hkey', hhash⟩ := hko eso[x] (Array.getElem_mem hlt)
      obtain rfl : k' = k := knd.inj _ _ _ hkey' hkey
      have hnot : k' ∉ (more.take x).map (·.1) := fun hm => by
        obtain ⟨y, hy, e⟩ := List.mem_map.mp hm
        obtain ⟨j, hj, e2⟩ := List.mem_iff_getElem.mp hy
        rw [List.length_take] at hj
        have hx2 := (List.getElem?_eq_some_iff.mp hkv)
        obtain ⟨hx3, hx4⟩ := hx2
        have hjx : j < x := by omega
        have e3 : more[j] = y := by rw [← e2, List.getElem_take]
        have := List.pairwise_iff_getElem.mp hno j x (by rw [List.length_map]; omega) (by rw [List.length_map]; exact hx3) hjx
        rw [List.getElem_map, List.getElem_map, e3, hx4, e] at this
        exact this rfl
      have htl : (more.take x).length ≤ sizeLine := Nat.le_trans (List.length_take_le' _ _) hsz
      dsimp only
      rw [hhash, hval]
      refine wpAny_bind (wpAny_holding ?_)
      rw [if_pos rfl]
      refine wpAny_bind (dictFind_new hkey hd' hnot ?_)
      rw [if_neg (by simp)]
      refine dictPut_new hkey hd' hnot (fun h'' hd'' hs'' => ?_) htl
      have hoo'' : h''.get? o = some oo := (hs''.2 o (Ne.symm hdo)).trans hoo'
      refine wpAny_bind (wpAny_dictEpoch hoo'' hdo' ?_)
      rw [if_neg (by simp)]
      exact wpAny_pure ⟨h'', x + 1, rfl, hrest, hlt, by rw [List.take_add_one, hkv]; exact hd'', hoo'', hs'.trans hs''⟩
    · rintro b2 s2 ⟨h', i, rfl, hr2, hi, hd', hoo', hs'⟩
      have hin : i = eso.size := by
        rcases Nat.lt_or_ge i eso.size with h | h
        · have e : eso.size - i = (eso.size - (i + 1)) + 1 := by omega
          rw [e, List.range'_succ] at hr2; exact nomatch hr2
        · exact Nat.le_antisymm hi h
      refine wpAny_pure (hQ h' ?_ hs')
      rw [hin, ← hlen, List.take_length] at hd'; exact hd'
end
end EE
namespace EE
open PySem PySem.Spec PyProof.Rows L2 PySem.W
section
variable {prog : Program} {w : World} {A : Around} {E : Value → Shared → Prop} {s : Shared}
theorem ns_put {d : Addr} {es : List DictEntry} {n : Nat} {k : Str} {v : Value} {Q : Unit → Shared → Prop} (ho : s.heap.get? d = some (dictOf es n)) (hs : ∀ e ∈ es, e.key.isStr k = false) (hr : ∀ e ∈ es, e.refKey = false)
    (h : ∀ h', h'.get? d = some (dictOf (es ++ [⟨PyData.keyHash w.params k, .str k s.toks, v⟩]) (n + 1)) → Heap.SameBut d s.heap h' → Q () { s with heap := h', toks := s.toks + 1 }) :
    wpAny (model prog w) A (nsSet d k v) Q E s := by
  have e1 : es.any (·.key.isStr k) = false := by
    cases q : es.any (·.key.isStr k) with
    | false => rfl
    | true => obtain ⟨e, he, z⟩ := List.any_eq_true.mp q; rw [hs e he] at z; cases z
  have e2 : es.any (·.refKey) = false := by
    cases q : es.any (·.refKey) with
    | false => rfl
    | true => obtain ⟨e, he, z⟩ := List.any_eq_true.mp q; rw [hr e he] at z; cases z
  have e : Obj.putName k (PyData.keyHash w.params k) (.str k s.toks) v (dictOf es n) = dictOf (es ++ [⟨PyData.keyHash w.params k, .str k s.toks, v⟩]) (n + 1) := by
    rw [putName_dict, putL_new hs]
    show dictOf _ (if es.any (·.key.isStr k) then n else n + 1) = _
    rw [e1, if_neg Bool.false_ne_true]
  have c : aRefKeyMayBeTheName k es.toArray = false := by
    rw [aRefKeyMayBeTheName_at, ← Array.any_toList, ← Array.any_toList]
    show (!es.any (·.key.isStr k) && es.any (·.refKey)) = false
    rw [e2, Bool.and_false]
  unfold nsSet
  refine wpAny_bind (wpAny_bind (wpAny_askSetting (wpAny_pure (wpAny_bind (wpAny_mkText (wpAny_bind (wpAny_loadPart ho ?_)))))))
  dsimp only
  rw [c]
  refine wpAny_updatePart ho (h _ ?_ (Heap.SameBut.update ..))
  refine (Heap.get?_update_self _ ho ?_).trans (congrArg some e)
  exact (congrArg Obj.isFreed e).trans rfl
theorem kw_fill {d : Addr} {Q : PUnit → Shared → Prop} : ∀ (ex : List (Str × Value)) (s : Shared) (es : List DictEntry) (n : Nat), s.heap.get? d = some (dictOf es n) →
    (∀ e ∈ es, ∀ x ∈ ex, e.key.isStr x.1 = false) → (∀ e ∈ es, e.refKey = false) → (ex.map (·.1)).Nodup →
    (∀ h', h'.get? d = some (dictOf (es ++ kwEs w.params s.toks ex) (n + ex.length)) → Heap.SameBut d s.heap h' → Q ⟨⟩ { s with heap := h', toks := s.toks + ex.length }) →
    wpAny (model prog w) A (forIn ex PUnit.unit fun x _ => (nsSet d x.1 x.2 >>= fun _ => pure (ForInStep.yield PUnit.unit))) Q E s
  | [], s, es, n, ho, _, _, _, h => by
    rw [List.forIn_nil]
    refine wpAny_pure (h s.heap ?_ (Heap.SameBut.refl _ _))
    show s.heap.get? d = some (dictOf (es ++ []) n)
    rw [List.append_nil]
    exact ho
  | x :: r, s, es, n, ho, hs, hr, hn, h => by
    obtain ⟨hn1, hn2⟩ := List.nodup_cons.mp (show (x.1 :: r.map (·.1)).Nodup from hn)
    rw [List.forIn_cons]
    refine wpAny_bind (wpAny_bind (ns_put ho (fun e he => hs e he x (.head _)) hr fun h' ho' sb => wpAny_pure ?_))
    show wpAny (model prog w) A (forIn r PUnit.unit fun x _ => (nsSet d x.1 x.2 >>= fun _ => pure (ForInStep.yield PUnit.unit))) Q E { s with heap := h', toks := s.toks + 1 }
    refine kw_fill r { s with heap := h', toks := s.toks + 1 } _ _ ho' (fun e he y hy => ?_) (fun e he => ?_) hn2 fun h'' ho'' sb2 => ?_
    · rcases List.mem_append.mp he with he | he
      · exact hs e he y (.tail _ hy)
      · obtain rfl := List.mem_singleton.mp he
        show (x.1 == y.1) = false
        exact beq_eq_false_iff_ne.mpr fun q => hn1 (by rw [q]; exact List.mem_map_of_mem hy)
    · rcases List.mem_append.mp he with he | he
      · exact hr e he
      · obtain rfl := List.mem_singleton.mp he
        rfl
    · have t1 : s.toks + 1 + r.length = s.toks + (r.length + 1) := by omega
      have t2 : n + 1 + r.length = n + (r.length + 1) := by omega
      show Q ⟨⟩ { s with heap := h'', toks := s.toks + 1 + r.length }
      rw [t1]
      refine h h'' ?_ (sb.trans sb2)
      rw [t2, List.append_assoc] at ho''
      exact ho''
end
end EE
namespace EE
open PySem PySem.Spec PyProof.Rows L2 PySem.W
/-- the object at the new dict is one of the mixed kind -/
theorem kw_dict {P : Program} {w : World} {h : Heap} {d : Addr} {t n : Nat} {ex : List (Str × Value)} (ho : h.get? d = some (dictOf (kwEs w.params t ex) n)) (hn : (ex.map (·.1)).Nodup) : h.DictOf (mixKind P w) d (ex.map fun p => (Sum.inr p.1, p.2)) := by
  refine ⟨_, (kwEs w.params t ex).toArray, n, ho, ⟨rfl, rfl, rfl⟩, rfl, ?_, ?_, ?_⟩
  · intro e he
    obtain ⟨k, u, e1, e2⟩ := kwEs_key ex t e (by simpa using he)
    exact ⟨.inr k, by rw [e1]; exact decide_eq_true rfl, e2⟩
  · rw [List.toList_toArray]
    clear ho hn
    induction ex generalizing t with
    | nil => exact .nil
    | cons x r ih => exact .cons (decide_eq_true rfl) rfl (ih (t := t + 1))
  · rw [List.map_map]
    have e : ((fun x : Key × Value => x.1) ∘ fun p : Str × Value => ((Sum.inr p.1 : Key), p.2)) = (fun z : Str => (Sum.inr z : Key)) ∘ fun p : Str × Value => p.1 := rfl
    rw [e, ← List.map_map]
    exact List.pairwise_map.mpr (List.Pairwise.imp (fun h e => h (Sum.inr.inj e)) hn)
theorem bind_kw {P : Program} {w : World} {A : Around} {E : Value → Shared → Prop} {s : Shared} {fd : FuncData} {u : Value} {kws : List (Str × Value)} {nm : Arg} {Q : List (Str × Value) → Shared → Prop}
    (h1 : fd.params.posonlyargs = []) (h2 : fd.params.args.map (·.arg) = [("self" : Str)]) (h3 : fd.params.kwonlyargs = []) (h4 : fd.params.vararg = none) (h5 : fd.params.kwarg = some nm) (h6 : fd.defaults = .none) (hs : ∀ p ∈ kws, p.1 ≠ "self") (hn : (kws.map (·.1)).Nodup) (hl : kws.length ≤ sizeLine)
    (h : ∀ D h', D = s.heap.objs.size → s.heap.objs.size ≤ h'.objs.size → h'.get? D = some (dictOf (kwEs w.params s.toks kws) kws.length) → (∀ b o, s.heap.get? b = some o → h'.get? b = some o) → Q [("self", u), (nm.arg, .ref D)] { s with heap := h', toks := s.toks + kws.length }) :
    wpAny (model P w) A (bindArgs fd ⟨[u], kws⟩) Q E s := by
  unfold bindArgs
  simp only [h1, h2, h3, h4, h5, h6, List.map_nil, List.nil_append, List.append_nil]
  rw [show (([("self" : Str)].zip [u]) : List (Str × Value)) = [(("self" : Str), u)] from rfl]
  refine wpAny_bind (wpAny_forIn_list _ (fun rest b s' => s' = s ∧ ∃ done, kws = done ++ rest ∧ b = ([(("self" : Str), u)], done)) _ ?_ ?_ _ _ ⟨rfl, [], rfl, rfl⟩)
  · rintro x rest b s' ⟨rfl, done, hd, rfl⟩
    have nx : x.1 ≠ ("self" : Str) := hs x (by rw [hd]; exact List.mem_append_right _ List.mem_cons_self)
    have e1 : (([("self" : Str)].contains x.1 || ([] : List Str).contains x.1) = true) = False := by
      simp [nx]
    simp only [e1, if_false, Option.isSome_some, if_true]
    exact wpAny_pure ⟨rfl, done ++ [x], by rw [hd, List.append_assoc]; rfl, rfl⟩
  · rintro b s' ⟨rfl, done, hd, rfl⟩
    rw [List.append_nil] at hd
    subst hd
    have lk : List.lookup ("self" : Str) [(("self" : Str), u)] = some u := by simp [List.lookup]
    refine wpAny_bind (show wpAny _ _ (seqItems? Value.none) _ _ _ from wpAny_pure ?_)
    simp only [Option.getD_none, List.length_cons, List.length_nil, Nat.zero_add, Nat.zero_sub, Nat.sub_zero, List.drop_nil, List.take_succ_cons, List.take_zero, List.take_nil, List.filter_cons, List.filter_nil, lk, Option.isNone_some, Bool.false_eq_true, if_false, List.isEmpty_nil, Bool.not_true, List.zip_nil_right, List.forIn_nil, pure_bind, Nat.lt_irrefl, decide_false, Bool.false_and, gt_iff_lt, List.filterMap_cons, List.filterMap_nil, Option.map_some, List.append_nil, List.drop_succ_cons, List.drop_zero]
    rw [if_neg (by omega)]
    refine wpAny_bind (wpAny_alloc ?_)
    have ho : (s'.heap.push { cls := .type "dict", data := .dict #[] }).get? s'.heap.objs.size = some (dictOf [] 0) := Heap.get?_push_size _ rfl
    refine wpAny_bind (kw_fill kws { s' with heap := s'.heap.push { cls := .type "dict", data := .dict #[] } } [] 0 ho (fun e he => nomatch he) (fun e he => nomatch he) hn fun h' ho' sb => wpAny_pure ?_)
    refine h s'.heap.objs.size h' rfl (Nat.le_of_lt (Heap.lt_size ho')) ?_ fun b o e => ?_
    · rw [List.nil_append, Nat.zero_add] at ho'
      exact ho'
    · have hb : b < s'.heap.objs.size := Heap.lt_size e
      rw [sb.2 b (Nat.ne_of_lt hb)]
      exact Heap.get?_push_of_some _ e
end EE
namespace EE
open PySem PySem.Spec PyProof.Rows L2 LamX
section
variable {P : Program} {w : World} {K : PySem.W.Frag} {mg : Str → Option Value} {base : Heap} {A : Around} {outer : List Env} {s : Shared} {H : Hp} {D : Addr} {h' : Heap} {tk : Nat} {ob : HO}
theorem env0_laid (e0 : Env0 P w K mg base A outer s H) (hD : D = s.heap.objs.size) (hz : s.heap.objs.size ≤ h'.objs.size) (k : ∀ b o, s.heap.get? b = some o → h'.get? b = some o) (new : ObjOk P w (upd H D ob) h' D ob) : Env0 P w K mg base A outer { s with heap := h', toks := tk } (upd H D ob) := by
  have off : ∀ {b : Addr} {o : Obj}, s.heap.get? b = some o → b ≠ D := fun {b o} e z => by
    rw [z, hD] at e
    exact absurd (Heap.lt_size e) (Nat.lt_irrefl _)
  refine ⟨e0.frames, e0.mod, fun b o e => ?_, Nat.le_trans e0.bsz hz, Heap.FunFrames.of_keeps (fun b o z _ => ⟨o, k b o z, rfl⟩) e0.funs, fun b hb => ?_, e0.hok.laid k (Nat.le_of_eq hD.symm) new, e0.bare⟩
  · obtain ⟨q1, q2⟩ := e0.bs b o e
    exact ⟨k _ _ q1, by rw [upd_ne (off q1)]; exact q2⟩
  · obtain ⟨_, o, e, _⟩ := e0.funs.mem hb
    rw [upd_ne (off e)]
    exact e0.frf b hb
/-- a way out of a callee behind a new object is one ahead of it -/
def Back (P : Program) (w : World) (CX : CXT) : Prop := ∀ (outer : List Env) (s : Shared) (H : Hp) (D : Addr) (h' : Heap) (tk : Nat) (ob : HO) (E : XK) (e : Value) (t : Shared), HOk P w H s.heap → D = s.heap.objs.size → (∀ b o, s.heap.get? b = some o → h'.get? b = some o) → CX outer (upd H D ob) { s with heap := h', toks := tk } E e t → CX outer H s E e t
theorem back0 : Back P w C8.CX0 := fun _ _ _ _ _ _ _ _ _ _ _ _ _ z => z.elim
theorem backX : Back P w (L2.CX P w) := fun outer s H D h' tk ob E e t hok hD k z => by
  obtain ⟨a, B, H2, cls, d, rfl, fl, ho, ub, na, os, ag, hE⟩ := z
  have nD : H D = none := hok.fresh (Nat.le_of_eq hD.symm)
  have off : ∀ {b : Addr} {o : Obj}, s.heap.get? b = some o → b ≠ D := fun {b o} e z => by
    rw [z, hD] at e
    exact absurd (Heap.lt_size e) (Nat.lt_irrefl _)
  have offH : ∀ {b : Addr} {o : HO}, H b = some o → b ≠ D := fun {b o} e z => by
    rw [z, nD] at e
    cases e
  refine ⟨a, B, H2, cls, d, rfl, fl, ho, ⟨fun b o e n hf => ub.keep b o (k _ _ e) (by rw [upd_ne (off e)]; exact n) hf, fun b o e hf => ub.slot b o (k _ _ e) hf, fun b o e n => ub.free b o (k _ _ e) (by rw [upd_ne (off e)]; exact n), fun b o e hf => ub.there b o (k _ _ e) hf,
    fun b xs e => ub.tups b xs (by rw [upd_ne (offH e)]; exact e), fun b o xs e => ub.frzs b o xs (by rw [upd_ne (offH e)]; exact e), fun b ps e => ub.tbls b ps (by rw [upd_ne (offH e)]; exact e)⟩, na, os, ag, hE⟩
end
/-- the pairs of a call as a dict's -/
def kwK (kvs : List (Str × V)) : List (Key × V) := kvs.map fun p => (.inr p.1, p.2)
theorem kv_kw {kvs : List (Str × V)} {kws : List (Str × Value)} (h : KV kvs kws) : KV (kwK kvs) (kws.map fun p => ((Sum.inr p.1 : Key), p.2)) := by
  induction h with
  | nil => exact .nil
  | cons h _ ih => exact .cons ⟨congrArg Sum.inr h.1, h.2⟩ ih
theorem kv_len {κ : Type} {kvs : List (κ × V)} {kws : List (κ × Value)} (h : KV kvs kws) : kvs.length = kws.length := by
  induction h with
  | nil => rfl
  | cons _ _ ih => exact congrArg Nat.succ ih
/-- what a def (self, **rest) does when it is called with names -/
structure FnKw (P : Program) (w : World) (K : PySem.W.Frag) (mg : Str → Option Value) (base : Heap) (CX : CXT) (k : Nat) (f : Addr) (sp : Sp) : Prop where
  run : ∀ (A : Around) (outer : List Env) (s : Shared) (H : Hp) (u : Value) (v : V) (kws : List (Str × Value)) (kvs : List (Str × V)) (Q : VK) (E : XK), Room k A → Env0 P w K mg base A outer s H → RelV v u → KV kvs kws → (∀ p ∈ kws, p.1 ≠ ("self" : Str)) → (kws.map (·.1)).Nodup → kws.length ≤ 1000 →
    (∀ D, H D = none → sp [v, .ref D] (upd H D (.dK (kwK kvs))) Q E) → codeAny (model P w) A (.call (.ref f) ⟨[u], kws⟩) (CR CX outer P w H s Q E) s
theorem okKw {CX : CXT} {P : Program} {w : World} {K : PySem.W.Frag} {mg : Str → Option Value} {base : Heap} {k : Nat} {f : Addr} {name qual : Str} {params : Arguments} {body : List Stmt} {scope : Scope} {kV doc pm cdv ct oc : Value} {an od : Option Addr}
    {osl : Array (Option Value)} {N : List Str} {nm : Arg} {sp : Sp} (lk : K.lookup f = some ⟨oc, od, .func (PySem.W.fnOf name qual params body scope .none kV doc pm an cdv ct), osl⟩) (hcd : PySem.W.codeIn K cdv qual = true) (S : FnScope N ["self", nm.arg] scope) (bk : Back P w CX)
    (h1 : params.posonlyargs = []) (h2 : params.args.map (·.arg) = [("self" : Str)]) (h3 : params.kwonlyargs = []) (h4 : params.vararg = none) (h5 : params.kwarg = some nm)
    (hbody : ∀ (A : Around) (outer : List Env) (s : Shared) (H : Hp) (vs : List V) (Q : VK) (E : XK), Room k (A.deeper (envOfC qual scope s.heap.objs.size f cdv)) → sp vs H Q E →
      ∃ t, PSs (cxOf CX P w K mg base N qual scope f cdv A outer s H E) body t ∧ t { nx := fun _ H' => Q .non H', rt := Q } (start N vs) H) :
    FnKw P w K mg base CX (k + 1) f sp := by
  refine ⟨fun A outer s H u v kws kvs Q E hr e0 rv kv ns nd hl hsp => ?_⟩
  have KX : K.In s.heap := e0.mod.kin.keeps fun b o e => (e0.bs b o e).1
  refine codeAny_call_function hr.depth (KX _ _ lk) rfl S.co S.gen rfl (PySem.W.codeRec_of KX hcd) (bind_kw (nm := nm) h1 h2 h3 h4 h5 rfl ns nd (Nat.le_trans hl (by decide)) fun D h' hD hz ho kp => ?_)
  have nD : H D = none := e0.hok.fresh (Nat.le_of_eq hD.symm)
  have new : ObjOk P w (upd H D (.dK (kwK kvs))) h' D (.dK (kwK kvs)) := by
    refine ⟨?_, ?_, _, kv_kw kv, kw_dict ho nd⟩
    · rw [kwK, List.length_map, kv_len kv]
      exact Nat.le_trans hl (by decide)
    · refine beq_eq_false_iff_ne.mpr fun z => ?_
      have := PyProof.Rows.modules_low (e0.mod.nolimit.keeps (h' := s.heap) fun b o e => (e0.bs b o e).1)
      rw [← z, hD] at this
      exact absurd this (Nat.lt_irrefl _)
  have e1 := env0_laid (tk := s.toks + kws.length) e0 hD hz kp new
  have q1 := hsp D nD
  have nol : h'.NoLimit := (e0.mod.nolimit.keeps fun b o e => (e0.bs b o e).1).keeps kp
  have kinds : ∀ y ∈ [(("self" : Str), u), (nm.arg, Value.ref D)], scope.names.lookup y.1 = some .local ∨ (scope.names.lookup y.1 = some .cell ∧ ((cellsFrom (h'.objs.size + 1) scope.names []).lookup y.1).isSome = true) := fun ⟨n, z⟩ hy => by
    have hm : n ∈ [("self" : Str), nm.arg] := by
      simp only [List.mem_cons, List.not_mem_nil, or_false, Prod.mk.injEq] at hy ⊢
      exact hy.imp (·.1) (·.1)
    rcases S.par n hm with q | q
    · exact .inl q
    · exact .inr ⟨q, PySem.W.cellsFrom_some _ _ _ (.inl q)⟩
  refine wpAny_newFunctionEnv_cells S.kind kinds fun env he s1 x => ?_
  subst he
  refine ⟨nol.keeps x.toInCall.keep, codeAny_func ?_⟩
  obtain ⟨t, ht, hq⟩ := hbody A outer { s with heap := h', toks := s.toks + kws.length } (upd H D (.dK (kwK kvs))) [v, .ref D] Q E (hr.deeper _) q1
  have I := inv_start (CX := CX) (E := E) (ps := ["self", nm.arg]) (us := [u, .ref D]) (vs := [v, .ref D]) S hr.hd e1 rfl (.cons rv (.cons (show RelV (.ref D) (.ref D) from rfl) .nil)) x
  refine wpAny_mono (ht.run [] s1 _ _ _ I hq) (fun fl s2 hs => ?_) fun e s2 hs => wpAny_mono hs (fun _ s3 hz => bk outer s H D h' (s.toks + kws.length) (.dK (kwK kvs)) E e s3 e0.hok hD kp hz) fun e3 s3 hz => bk outer s H D h' (s.toks + kws.length) (.dK (kwK kvs)) E e3 s3 e0.hok hD kp hz
  have fin : ∀ {σ' : L2.St} {H' : Hp} {v2 : V} {u2 : Value}, Inv (cxOf CX P w K mg base N qual scope f cdv A outer { s with heap := h', toks := s.toks + kws.length } (upd H D (.dK (kwK kvs))) E) [] σ' H' s2 → RelV v2 u2 → Q v2 H' → CE outer P w H s Q u2 s2 :=
    fun {σ' H' v2 u2} J rv q => ⟨v2, H', J.os, J.bare, (Un.laid kp (Nat.le_of_eq hD.symm) nD).trans J.base, J.hok, rv, q⟩
  cases fl with
  | ret u2 =>
    obtain ⟨v2, σ', H', J, rv2, q⟩ := hs
    exact fin J rv2 q
  | next =>
    obtain ⟨σ', H', J, q⟩ := hs
    exact fin (v2 := V.non) (u2 := Value.none) J rfl q
  | brk =>
    obtain ⟨_, _, _, q⟩ := hs
    exact False.elim q
  | cont =>
    obtain ⟨_, _, _, q⟩ := hs
    exact False.elim q
end EE

/-! Own layer: C(**d). -/
namespace EE
open PySem PySem.Spec PyProof.Rows L2 PySem.W
/-- the pairs of a call, as those of a dict -/
def kwD (kws : List (Str × Value)) : List (Key × Value) := kws.map fun p => (Sum.inr p.1, p.2)
section
variable {P : Program} {w : World} {A : Around} {E : Value → Shared → Prop} {s : Shared}
theorem keywordsIn_names {D : Addr} {kws : List (Str × Value)} {f : Value} {Q : List (Str × Value) → Shared → Prop} (h : s.heap.DictOf (mixKind P w) D (kwD kws)) (hQ : Q kws s) :
    wpAny (model P w) A (keywordsIn f D) Q E s := by
  obtain ⟨o, es, ep, ho, hc, hd, hk, hp, hn⟩ := h
  unfold keywordsIn
  refine wpAny_bind (wpAny_dictEntries ho hd (wpAny_bind ?_))
  rw [← Array.forIn_toList]
  refine wpAny_forIn_list _ (fun rest b s' => s' = s ∧ ∃ todo, kws = b ++ todo ∧ Pairs (mixKind P w) rest (kwD todo)) _ ?_ ?_ _ _ ⟨rfl, kws, rfl, hp⟩
  · rintro x rest b s' ⟨rfl, todo, e1, hp'⟩
    cases todo with
    | nil => cases hp'
    | cons p todo =>
      cases hp' with
      | cons hk hv ht =>
        rcases keyIs_shape (show keyIs (Sum.inr p.1) x.key = true from hk) with ⟨i, t, e, _⟩ | ⟨z, t, e, e2⟩
        · cases e
        · rw [e2]
          obtain rfl := Sum.inr.inj e
          refine wpAny_pure ⟨rfl, todo, ?_, ht⟩
          rw [show x.val = p.2 from hv, e1, List.append_assoc]
          rfl
  · rintro b s' ⟨rfl, todo, e1, hp'⟩
    cases todo with
    | nil =>
      rw [List.append_nil] at e1
      exact wpAny_pure (e1 ▸ hQ)
    | cons p todo => cases hp'
theorem merged_one {f : Value} {x : Sem Value} {Q : Addr → Shared → Prop}
    (h : wpAny (model P w) A x (fun v s1 => ∃ o kws, v = .ref o ∧ s.heap.objs.size ≠ o ∧ (o == sysModules) = false ∧ s1.heap.DictOf (mixKind P w) s.heap.objs.size [] ∧ s1.heap.DictOf (mixKind P w) o (kwD kws) ∧ kws.length ≤ sizeLine ∧
      ∀ h', h'.DictOf (mixKind P w) s.heap.objs.size (kwD kws) → Heap.SameBut s.heap.objs.size s1.heap h' → Q s.heap.objs.size { s1 with heap := h' }) E { s with heap := s.heap.push { cls := .type "dict", data := .dict #[] } }) :
    wpAny (model P w) A (mergedKeywords f [(none, x)]) Q E s := by
  unfold mergedKeywords
  refine wpAny_bind (wpAny_alloc (wpAny_bind (wpAny_holding ?_)))
  extract_lets merge group
  refine wpAny_bind ?_
  rw [List.forIn_cons]
  have g0 : group [] = pure () := rfl
  have mg : ∀ (Q2 : Unit → Shared → Prop) (E2 : Value → Shared → Prop) (v : Value) (s1 : Shared), (∀ E3, wpAny (model P w) A (mergeMapping s.heap.objs.size v true) Q2 E3 s1) → wpAny (model P w) A (merge v) Q2 E2 s1 := fun Q2 E2 v s1 z =>
    wpAny_holding (wpAny_tryCatch (wpAny_onRaise (z _)))
  refine wpAny_bind ?_
  show wpAny (model P w) A (group [] >>= _) _ _ _
  rw [g0]
  refine wpAny_bind (wpAny_pure (wpAny_bind (wpAny_mono h (fun v s1 ⟨o, kws, e1, n1, n2, d1, d2, sz, q⟩ => ?_) fun _ _ z => z)))
  subst e1
  refine wpAny_bind (wpAny_onRaise (mg _ _ _ _ fun E3 => merge_new n1 n2 d1 d2 (fun k v hk a e => ?_) (fun h' a b => ?_) ?_))
  · rcases keyIs_shape (show keyIs k v = true from hk) with ⟨i, t, _, e2⟩ | ⟨z, t, _, e2⟩ <;> rw [e2] at e <;> cases e
  · refine wpAny_pure ?_
    show wpAny (model P w) A (forIn [] _ _) _ _ _
    rw [List.forIn_nil]
    refine wpAny_pure ?_
    show wpAny (model P w) A (group []) _ _ _
    rw [g0]
    exact wpAny_pure (wpAny_pure (q h' a b))
  · rw [kwD, List.length_map]; exact sz
/-- the arguments of a call f(**e) -/
theorem evalArgs_map {f : Value} {x : Sem Value} {Q : Args → Shared → Prop}
    (h : wpAny (model P w) A x (fun v s1 => ∃ o kws, v = .ref o ∧ s.heap.objs.size ≠ o ∧ (o == sysModules) = false ∧ s1.heap.DictOf (mixKind P w) s.heap.objs.size [] ∧ s1.heap.DictOf (mixKind P w) o (kwD kws) ∧ kws.length ≤ sizeLine ∧
      ∀ h', h'.DictOf (mixKind P w) s.heap.objs.size (kwD kws) → Heap.SameBut s.heap.objs.size s1.heap h' → Q ⟨[], kws⟩ { s1 with heap := h' }) E { s with heap := s.heap.push { cls := .type "dict", data := .dict #[] } }) :
    wpAny (model P w) A (evalArgs f true [] [(none, x)]) Q E s := by
  unfold evalArgs
  refine wpAny_bind ?_
  show wpAny _ _ (spliced [] >>= _) _ _ _
  refine wpAny_bind (Calls.spliced_nil (wpAny_pure (wpAny_bind (wpAny_pure ?_))))
  dsimp only
  refine wpAny_holding ?_
  rw [if_neg (show ¬ (([(none, x)] : List (Option Str × Sem Value)).all fun x => x.1.isSome) = true from Bool.false_ne_true)]
  refine wpAny_bind (merged_one (wpAny_mono h (fun v s1 ⟨o, kws, e1, n1, n2, d1, d2, sz, q⟩ => ⟨o, kws, e1, n1, n2, d1, d2, sz, fun h' a b => ?_⟩) fun _ _ z => z))
  exact wpAny_bind (wpAny_pure (wpAny_bind (wpAny_holding (keywordsIn_names a (wpAny_pure (q h' a b))))))
theorem callWith_map {f : Value} {first : List Value} {x : Sem Value} {pos : Pos} {Q : Value → Shared → Prop} {K : Frag} (hk : keepIn K f = true)
    (h : wpAny (model P w) A x (fun v s1 => ∃ o kws, v = .ref o ∧ s.heap.objs.size ≠ o ∧ (o == sysModules) = false ∧ s1.heap.DictOf (mixKind P w) s.heap.objs.size [] ∧ s1.heap.DictOf (mixKind P w) o (kwD kws) ∧ kws.length ≤ sizeLine ∧
      ∀ h', h'.DictOf (mixKind P w) s.heap.objs.size (kwD kws) → Heap.SameBut s.heap.objs.size s1.heap h' → K.In h' ∧ wpAny (model P w) A (call f first kws) Q E { s1 with heap := h' }) E { s with heap := s.heap.push { cls := .type "dict", data := .dict #[] } }) :
    wpAny (model P w) A (callWith pos f first [] [(none, x)]) Q E s := by
  unfold callWith
  refine wpAny_bind (wpAny_holding (evalArgs_map (wpAny_mono h (fun v s1 ⟨o, kws, e1, n1, n2, d1, d2, sz, q⟩ => ⟨o, kws, e1, n1, n2, d1, d2, sz, fun h' a b => wpAny_bind (wpAny_standAt ?_)⟩) fun _ _ z => z)))
  obtain ⟨X, hc⟩ := q h' a b
  rw [← List.append_nil first] at hc
  obtain ⟨k, hk', L⟩ := keeps_K (M := model P w) hk _ X
  refine wpAny_bind (L.here ?_)
  have tail : ∀ {t : Sem Value}, wpAny (model P w) A t Q E { s1 with heap := h' } → wpAny (model P w) A (t >>= fun r => holding [r] point >>= fun _ => pure r) Q E { s1 with heap := h' } :=
    fun ht => wpAny_bind (wpAny_mono ht (fun r s₂ hr => wpAny_bind (wpAny_holding (wpAny_point (wpAny_pure hr)))) fun _ _ x => x)
  have marked (mk : Value) : wpAny (model P w) A (callMarked mk f (first ++ []) kws) Q E { s1 with heap := h' } := by unfold callMarked; exact Calls.wpAny_keep hc
  rcases hk' with rfl | rfl | rfl <;> dsimp only <;> first | exact tail (marked _) | exact tail (wpAny_operate' hc)
end
end EE

/-! Own layer: a new instance by C(**d) and C(a = 1) where __init__ is def (self, **rest). -/
namespace EE
open PySem PySem.Spec PyProof.Rows L2 PySem.W
theorem kv_names : ∀ {kvs : List (Str × V)} {vs : List (Key × Value)}, KV (kwK kvs) vs → ∃ kws : List (Str × Value), vs = kwD kws ∧ KV kvs kws
  | [], vs, h => by cases h; exact ⟨[], rfl, .nil⟩
  | p :: r, vs, h => by
    cases h with
    | cons h1 h2 =>
      rename_i q t
      obtain ⟨kws, e, z⟩ := kv_names h2
      obtain ⟨a, b⟩ := q
      obtain ⟨e1, e2⟩ := h1
      refine ⟨(p.1, b) :: kws, ?_, .cons ⟨rfl, e2⟩ z⟩
      rw [e]
      exact congrArg (· :: kwD kws) (Prod.ext e1.symm rfl)
/-- what a call with names asks: the names are apart, none is self -/
def NamesOk (kvs : List (Str × V)) : Prop := (∀ p ∈ kvs, p.1 ≠ ("self" : Str)) ∧ (kvs.map (·.1)).Nodup ∧ kvs.length ≤ 1000
theorem names_keys {kvs : List (Str × V)} {kws : List (Str × Value)} (h : KV kvs kws) : kws.map (·.1) = kvs.map (·.1) := by
  induction h with
  | nil => rfl
  | cons h _ ih => exact congr (congrArg List.cons h.1.symm) ih
/-- the new instance and its dict, then __init__ with the names -/
def MkK (C : Addr) (sp : Sp) (E : XK) (kvs : List (Str × V)) (H : Hp) (Q : VK) : Prop := ∀ x dx, H x = none → H dx = none → dx ≠ x → ∀ D, (upd (upd H dx (.own x)) x (.ins C dx [])) D = none →
  sp [.ref x, .ref D] (upd (upd (upd H dx (.own x)) x (.ins C dx [])) D (.dK (kwK kvs))) (fun v H3 => v = .non ∧ Q (.ref x) H3) E
section
variable {X : Cx} {CX : CXT} {k : Nat} {f C : Addr} {sp : Sp} {E : XK}
theorem run_makeKW {pins : List (Addr × Obj)} {σ : L2.St} {H : Hp} {s : Shared} {Q : VK} {kvs : List (Str × V)} {kws : List (Str × Value)} (M : Mk X.K C f) (F : FnKw X.prog X.w X.K X.mg X.base CX k f sp) (hr : Room (k + 1) X.A) (hx : Passes CX X E) (I : Inv X pins σ H s) (r : KV kvs kws) (ok : NamesOk kvs)
    (h : MkK C sp E kvs H Q) : wpAny (model X.prog X.w) X.A (call (.ref C) [] kws) (EP X pins σ Q) X.xe s := by
  have hq := h (s.heap.objs.size + 1) s.heap.objs.size (I.hok.fresh (Nat.le_succ _)) (I.hok.fresh (Nat.le_refl _)) (Nat.ne_of_lt (Nat.lt_succ_self _))
  have I2 := Inv.made (C := C) I
  have ks := names_keys r
  refine wpAny_call (make_map (f := f) I.kIn M.makes M.init (beq_iff_eq.mp M.fn) (codeAny_mono (F.run _ X.stack _ _ (.ref (s.heap.objs.size + 1)) (.ref (s.heap.objs.size + 1)) kws kvs _ E (hr.make C [] kws) (I2.env0.make C [] kws) rfl r
    (fun p hp => ?_) (by rw [ks]; exact ok.2.1) (by rw [← kv_len r]; exact ok.2.2) hq) fun r s' hq' => ?_))
  · have : p.1 ∈ kvs.map (·.1) := ks ▸ List.mem_map_of_mem hp
    obtain ⟨q, hq1, hq2⟩ := List.mem_map.mp this
    exact hq2 ▸ ok.1 q hq1
  cases r with
  | error e => exact hx pins σ _ _ e s' I2 hq'
  | ok fl =>
    cases fl with
    | ret u =>
      obtain ⟨v, H', I3, rv, ev, q3⟩ := I2.after hq'
      subst ev
      exact ⟨rv, ⟨V.ref (s.heap.objs.size + 1), H', I3, rfl, q3⟩⟩
    | next => exact False.elim hq'
    | brk => exact False.elim hq'
    | cont => exact False.elim hq'
/-- C(**e) -/
def tMkMap (C : Addr) (sp : Sp) (E : XK) (t : TE) : TE := fun σ H Q => ∀ D, H D = none → t σ (upd H D (.dK [])) fun v H1 => ∃ o kvs, v = .ref o ∧ H1 D = some (.dK []) ∧ H1 o = some (.dK (kwK kvs)) ∧ D ≠ o ∧ NamesOk kvs ∧ MkK C sp E kvs (upd H1 D (.dK (kwK kvs))) Q
theorem pe_mkMap {x : Str} {p pos : Pos} {e : Expr} {kp : Pos} {t : TE} (M : Mk X.K C f) (F : FnKw X.prog X.w X.K X.mg X.base CX k f sp) (hr : Room (k + 1) X.A) (hg : Gl X x) (hm : X.mg x = some (.ref C)) (hx : Passes CX X E) (he : PE X e t) (hdb : (x == ("__debug__" : Str)) = false := by decide) :
    PE X (.Call (.Name x p) [] [⟨none, e, kp⟩] pos) (tMkMap C sp E t) := by
  refine ⟨fun pins s σ H Q I h => ?_⟩
  refine wpAny_Call_Name_kw (ld_glob I hg hm ?_ hdb)
  refine callWith_map (K := X.K) M.kp (wpAny_bind ?_)
  have I1 : Inv X pins σ (upd H s.heap.objs.size (.dK [])) { s with heap := s.heap.push { cls := .type "dict", data := .dict #[] }, toks := s.toks } := I.laid (a := s.heap.objs.size) (o := .dK []) (t' := s.toks) (fun _ _ q => Heap.get?_push_of_some _ q) (Nat.le_refl _) (dk_empty s.heap I.big)
  refine thn (he.run pins _ σ _ _ I1 (h _ (I.hok.fresh (Nat.le_refl _)))) fun u s1 ⟨v, H1, I2, rv, o, kvs, e1, d1, d2, ne, ok, q⟩ => wpAny_bind (wpAny_standAt (wpAny_pure ?_))
  subst e1
  obtain ⟨z1, n1, vs1, r1, dd1⟩ := dk_of I2.hok d1
  obtain ⟨z2, n2, vs2, r2, dd2⟩ := dk_of I2.hok d2
  obtain ⟨kws, rfl, r3⟩ := kv_names r2
  cases r1
  refine ⟨o, kws, rv, ne, n2, dd1, dd2, ?_, fun h' a sb => ?_⟩
  · rw [← kv_len r3, ← List.length_map (f := fun p : Str × V => ((Sum.inr p.1 : Key), p.2))]
    exact z2
  · have he : ∃ q, h'.get? s.heap.objs.size = some q := let ⟨q, _, _, hq, _⟩ := a; ⟨q, hq⟩
    have I3 := d_write (t' := s1.toks) I2 (by rw [d1]; exact True.intro) sb he (dk_new z2 n1 r2 a)
    exact ⟨I3.kIn, run_makeKW M F hr hx I3 r3 ok q⟩
/-- c(**e), c a value that is the class -/
def tMkMapV (C : Addr) (sp : Sp) (E : XK) (tf t : TE) : TE := fun σ H Q => tf σ H fun c H0 => c = .ref C ∧ tMkMap C sp E t σ H0 Q
theorem pe_mkMapV {x : Str} {p pos : Pos} {e : Expr} {kp : Pos} {tf t : TE} (M : Mk X.K C f) (F : FnKw X.prog X.w X.K X.mg X.base CX k f sp) (hr : Room (k + 1) X.A) (hx : Passes CX X E) (hf : PE X (.Name x p) tf) (he : PE X e t) :
    PE X (.Call (.Name x p) [] [⟨none, e, kp⟩] pos) (tMkMapV C sp E tf t) := by
  refine ⟨fun pins s σ H Q I h => ?_⟩
  refine wpAny_Call_Name_kw (thn (hf.run pins s σ H _ I h) fun uc s0 ⟨c, H0, I0, rc, ec, h0⟩ => ?_)
  subst ec
  obtain rfl : uc = Value.ref C := rc
  refine callWith_map (K := X.K) M.kp (wpAny_bind ?_)
  have I1 : Inv X pins σ (upd H0 s0.heap.objs.size (.dK [])) { s0 with heap := s0.heap.push { cls := .type "dict", data := .dict #[] }, toks := s0.toks } := I0.laid (a := s0.heap.objs.size) (o := .dK []) (t' := s0.toks) (fun _ _ q => Heap.get?_push_of_some _ q) (Nat.le_refl _) (dk_empty s0.heap I0.big)
  refine thn (he.run pins _ σ _ _ I1 (h0 _ (I0.hok.fresh (Nat.le_refl _)))) fun u s1 ⟨v, H1, I2, rv, o, kvs, e1, d1, d2, ne, ok, q⟩ => wpAny_bind (wpAny_standAt (wpAny_pure ?_))
  subst e1
  obtain ⟨z1, n1, vs1, r1, dd1⟩ := dk_of I2.hok d1
  obtain ⟨z2, n2, vs2, r2, dd2⟩ := dk_of I2.hok d2
  obtain ⟨kws, rfl, r3⟩ := kv_names r2
  cases r1
  refine ⟨o, kws, rv, ne, n2, dd1, dd2, ?_, fun h' a sb => ?_⟩
  · rw [← kv_len r3, ← List.length_map (f := fun p : Str × V => ((Sum.inr p.1 : Key), p.2))]
    exact z2
  · have he : ∃ q, h'.get? s0.heap.objs.size = some q := let ⟨q, _, _, hq, _⟩ := a; ⟨q, hq⟩
    have I3 := d_write (t' := s1.toks) I2 (by rw [d1]; exact True.intro) sb he (dk_new z2 n1 r2 a)
    exact ⟨I3.kIn, run_makeKW M F hr hx I3 r3 ok q⟩
/-- C(a = .., b = ..) -/
def tMkKws (C : Addr) (sp : Sp) (E : XK) (ks : List Str) (tk : TA) : TE := fun σ H Q => tk σ H fun vs H1 => vs.length = ks.length ∧ NamesOk (ks.zip vs) ∧ MkK C sp E (ks.zip vs) H1 Q
theorem kv_zip : ∀ {ks : List Str} {vs : List V} {us : List Value}, Vals vs us → KV (ks.zip vs) (ks.zip us)
  | [], _, _, _ => by rw [List.zip_nil_left, List.zip_nil_left]; exact .nil
  | _ :: _, _, _, .nil => .nil
  | _ :: _, _, _, .cons h t => .cons ⟨rfl, h⟩ (kv_zip t)
theorem pe_mkKws {x : Str} {p pos : Pos} {kws : List Keyword} {ks : List Str} {tk : TA} (M : Mk X.K C f) (F : FnKw X.prog X.w X.K X.mg X.base CX k f sp) (hr : Room (k + 1) X.A) (hg : Gl X x) (hm : X.mg x = some (.ref C)) (hx : Passes CX X E) (hkw : PK X kws tk)
    (hall : (backToKw pos (keywordEach kws X.env)).all (·.1.isSome) = true := by rfl) (hks : (backToKw pos (keywordEach kws X.env)).filterMap (·.1) = ks := by rfl) (hdb : (x == ("__debug__" : Str)) = false := by decide)
    (hpl : ((backTo pos (starEach [] X.env)).any (·.1) || (backToKw pos (keywordEach kws X.env)).any (·.1.isNone)) = false := by rfl) :
    PE X (.Call (.Name x p) [] kws pos) (tMkKws C sp E ks tk) := by
  refine ⟨fun pins s σ H Q I h => ?_⟩
  refine wpAny_Call_Name_kw (ld_glob I hg hm ?_ hdb)
  refine PySem.W.callWith_KW0 (h₀ := X.base) I.ok.mod.kin M.kp hall (thn (hkw.run pos pins s σ H _ I h) fun ws s2 ⟨zs, H2, I2, rz, l2, ok, q2⟩ => ⟨I2.kIn, ?_⟩) hpl
  rw [hks]
  exact run_makeKW M F hr hx I2 (kv_zip rz) ok q2
end
end EE

/-! Own layer: own operators of a class with a dict. -/
namespace EE
open PySem PySem.Spec PyProof.Rows L2 PySem.W
/-- the receiver: an instance with a dict of the class at C -/
def IsI (C : Addr) (x : V) (H : Hp) : Prop := ∃ a dx fs, x = .ref a ∧ H a = some (.ins C dx fs)
def rOp (C : Addr) (sp : Sp) (E : XK) : R2 := fun x y H Q => IsI C x H ∧ sp [x, y] H Q E
theorem cmpBack_rel {z : V} {u : Value} {Q : Value → Shared → Prop} {s' : Shared} (r : RelV z u) (q : Q u s') : PySem.W.CmpBack Q u s' := by
  cases u with
  | notImplemented => cases z <;> first | exact Value.noConfusion (show Value.notImplemented = _ from r) | exact Value.noConfusion (show ∃ t, Value.notImplemented = _ from r).choose_spec
  | _ => exact q
section
variable {X : Cx} {CX : CXT} {k : Nat} {f C : Addr} {sp : Sp} {E : XK}
theorem isI_at {pins : List (Addr × Obj)} {σ : L2.St} {H : Hp} {s : Shared} {x : V} {v : Value} (I : Inv X pins σ H s) (r : RelV x v) (h : IsI C x H) : ∃ a ox od, v = .ref a ∧ x = .ref a ∧ InstAt s.heap a ox C (some od) := by
  obtain ⟨a, dx, fs, rfl, ha⟩ := h
  obtain rfl : v = Value.ref a := r
  obtain ⟨mA, J, _⟩ := ins_get I.hok ha
  obtain ⟨od, J, _⟩ := J.look
  exact ⟨a, _, od, rfl, rfl, J⟩
/-- the call of the own def with two values -/
theorem run2 {pins : List (Addr × Obj)} {σ : L2.St} {H : Hp} {s : Shared} {x y : V} {v u : Value} {Q : VK} (F : FnR X.prog X.w X.K X.mg X.base CX k f sp) (hr : Room k X.A) (hx : Passes CX X E) (I : Inv X pins σ H s) (rx : RelV x v) (ry : RelV y u) (h : sp [x, y] H Q E) :
    wpAny (model X.prog X.w) X.A (call (.ref f) [v, u]) (EP X pins σ Q) X.xe s := wpAny_call (run_fnR (us := [v, u]) (vs := [x, y]) F hr hx I (.cons rx (.cons ry .nil)) h)
theorem run1 {pins : List (Addr × Obj)} {σ : L2.St} {H : Hp} {s : Shared} {x : V} {v : Value} {Q : VK} (F : FnR X.prog X.w X.K X.mg X.base CX k f sp) (hr : Room k X.A) (hx : Passes CX X E) (I : Inv X pins σ H s) (rx : RelV x v) (h : sp [x] H Q E) :
    wpAny (model X.prog X.w) X.A (call (.ref f) [v]) (EP X pins σ Q) X.xe s := wpAny_call (run_fnR (us := [v]) (vs := [x]) F hr hx I (.cons rx .nil) h)
/-- -x -/
theorem op_negO (F : FnR X.prog X.w X.K X.mg X.base CX k f sp) (hr : Room k X.A) (hx : Passes CX X E) (hs : findIn X.K (.ref C) "__neg__" = some (some (.ref f))) (hf : isFn X.K (.ref f) = true) : UnR X (unaryOp .USub) (fun x H Q => IsI C x H ∧ sp [x] H Q E) := by
  intro pins s σ H x v Q I rx ⟨hi, h⟩
  obtain ⟨a, ox, od, rfl, rfl, J⟩ := isI_at I rx hi
  obtain ⟨m, hF⟩ := I.fr
  exact ksp_neg hF I.ok.mod.kin J hs hf (run1 F hr hx I (x := .ref a) rfl h)
/-- x[y] -/
theorem getItem_O {pins : List (Addr × Obj)} {σ : L2.St} {H : Hp} {s : Shared} {x y : V} {v u : Value} {Q : VK} (F : FnR X.prog X.w X.K X.mg X.base CX k f sp) (hr : Room k X.A) (hx : Passes CX X E) (hq : noSeq X.K C = true) (hs : findIn X.K (.ref C) "__getitem__" = some (some (.ref f))) (hf : isFn X.K (.ref f) = true)
    (I : Inv X pins σ H s) (rx : RelV x v) (ry : RelV y u) (h : rOp C sp E x y H Q) : wpAny (model X.prog X.w) X.A (getItem v u) (EP X pins σ Q) X.xe s := by
  obtain ⟨a, ox, od, rfl, rfl, J⟩ := isI_at I rx h.1
  obtain ⟨m, hF⟩ := I.fr
  exact getItem_K hF I.ok.mod.kin J hq hs hf (run2 F hr hx I (x := .ref a) rfl ry h.2)
/-- x op y, x of the own class -/
theorem op_binO {op : Operator} (F : FnR X.prog X.w X.K X.mg X.base CX k f sp) (hr : Room k X.A) (hx : Passes CX X E) (hc : selfFirst X.K C = true) (hs : findIn X.K (.ref C) (PySem.dunder op.info.2) = some (some (.ref f))) (hf : isFn X.K (.ref f) = true) :
    OpR X (binaryOp op) (fun x y H Q => IsI C y H ∧ rOp C sp E x y H Q) := by
  intro pins s σ H x y v u Q I rx ry ⟨hy, hi, h⟩
  obtain ⟨a, ox, od, rfl, rfl, J⟩ := isI_at I rx hi
  obtain ⟨b, oy, od2, rfl, rfl, J2⟩ := isI_at I ry hy
  obtain ⟨m, hF⟩ := I.fr
  refine binop_K hF I.ok.mod.kin J J2.type hc hs hf ?_
  exact wpAny_mono (run2 F hr hx I (x := .ref a) (y := .ref b) rfl rfl h) (fun z s' ⟨w, H', I', r, q⟩ => cmpBack_rel (Q := EP X pins σ Q) r ⟨w, H', I', r, q⟩) fun _ _ z => z
/-- x op n, n an integer -/
theorem op_binI {op : Operator} {fo ro rc : Option Value} (F : FnR X.prog X.w X.K X.mg X.base CX k f sp) (hr : Room k X.A) (hx : Passes CX X E) (hc : selfFirst X.K C = true) (hs : findIn X.K (.ref C) (PySem.dunder op.info.2) = some (some (.ref f))) (hf : isFn X.K (.ref f) = true)
    (hrf : findIn X.K (.ref C) (dunderR op.info.2) = some rc) (hp : rc = none ∨ ∃ g : Addr, rc = some (.ref g)) (h1 : findIn X.K (.type "int") (PySem.dunder op.info.2) = some fo) (h2 : findIn X.K (.type "int") (dunderR op.info.2) = some ro) (hsub : subIn X.K (.type "int") (.ref C) = some false) :
    OpR X (binaryOp op) (fun x y H Q => (∃ n, y = .int n) ∧ rOp C sp E x y H Q) := by
  intro pins s σ H x y v u Q I rx ry ⟨⟨n, hy⟩, hi, h⟩
  subst hy
  obtain ⟨t, rfl⟩ := (show ∃ t, u = Value.int n t from ry)
  obtain ⟨a, ox, od, rfl, rfl, J⟩ := isI_at I rx hi
  obtain ⟨m, hF⟩ := I.fr
  refine ksp_binT hF I.ok.mod.kin J (T := "int") rfl hc hs hf hrf hp h1 h2 hsub ?_
  exact wpAny_mono (run2 F hr hx I (x := .ref a) rfl ry h) (fun z s' ⟨w, H', I', r, q⟩ => cmpBack_rel (Q := EP X pins σ Q) r ⟨w, H', I', r, q⟩) fun _ _ z => z
/-- the own def run one frame further in -/
theorem run_in1 {pins : List (Addr × Obj)} {σ : L2.St} {H : Hp} {s : Shared} {vs : List V} {us : List Value} {Q : VK} (F : FnR X.prog X.w X.K X.mg X.base CX k f sp) (hr : Room (k + 1) X.A) (hx : Passes CX X E) (I : Inv X pins σ H s) (r : Vals vs us) (h : sp vs H Q E) :
    wpAny (model X.prog X.w) X.A.in1 (call (.ref f) us) (EP X pins σ Q) X.xe s := by
  have e := I.env0
  have e0 : Env0 X.prog X.w X.K X.mg X.base X.A.in1 X.stack s H := ⟨e.frames, e.mod, e.bs, e.bsz, e.funs, e.frf, e.hok, e.bare⟩
  refine wpAny_call (codeAny_mono (F X.A.in1 X.stack s H us vs Q E hr.in1 e0 r h) fun r s' hq => ?_)
  cases r with
  | error e => exact hx pins σ H s e s' I hq
  | ok fl =>
    cases fl with
    | ret u => exact I.after hq
    | next => exact False.elim hq
    | brk => exact False.elim hq
    | cont => exact False.elim hq
/-- a[b], a of the own class -/
theorem pe_subO {a b : Expr} {pos : Pos} {ta tb : TE} (F : FnR X.prog X.w X.K X.mg X.base CX k f sp) (hr : Room (k + 1) X.A) (hx : Passes CX X E) (hs : findIn X.K (.ref C) "__getitem__" = some (some (.ref f))) (hf : fnIn X.K f = true) (hfn : isFn X.K (.ref f) = true) (ha : PE X a ta) (hb : PE X b tb)
    (hsl : ∀ o i, subscripted b true o i = runValue (.builtin "lifetime.subscript" ⟨[o, i], []⟩) := by intro _ _; with_unfolding_all rfl) : PE X (.Subscript a b pos) (tOp (rOp C sp E) ta tb) := by
  refine ⟨fun pins s σ H Q I h => ?_⟩
  refine Subscript_ (thn (ha.run pins s σ H _ I h) fun v s1 ⟨x, H1, I1, rx, h1⟩ => thn (hb.run pins s1 σ H1 _ I1 h1) fun u s2 ⟨y, H2, I2, ry, q⟩ => ?_)
  obtain ⟨o, ox, od, rfl, rfl, J⟩ := isI_at I2 rx q.1
  obtain ⟨m, hF⟩ := I2.fr
  exact sub_K hF I2.ok.mod.kin J hs hf hfn (run_in1 F hr hx I2 (vs := [.ref o, y]) (.cons rfl (.cons ry .nil)) q.2) (hsl _ _)
/-- y in x -/
theorem op_inO (F : FnR X.prog X.w X.K X.mg X.base CX k f sp) (hr : Room k X.A) (hx : Passes CX X E) (hs : findIn X.K (.ref C) "__contains__" = some (some (.ref f))) (hf : isFn X.K (.ref f) = true) :
    OpR X (compareOp .In) (fun y x H Q => IsI C x H ∧ sp [x, y] H (fun r H' => ∃ b, r = .bl b ∧ Q (.bl b) H') E) := by
  intro pins s σ H y x u v Q I ry rx ⟨hi, h⟩
  obtain ⟨a, ox, od, rfl, rfl, J⟩ := isI_at I rx hi
  obtain ⟨m, hF⟩ := I.fr
  refine in_K hF I.ok.mod.kin J hs hf (thn (run2 F hr hx I (x := .ref a) rfl ry h) fun r s' ⟨w, H', I', rw', b, e, q⟩ => ?_)
  subst e
  obtain rfl : r = Value.bool b := rw'
  exact wpAny_pure ⟨.bl b, H', I', rfl, q⟩
theorem op_notInO (F : FnR X.prog X.w X.K X.mg X.base CX k f sp) (hr : Room k X.A) (hx : Passes CX X E) (hs : findIn X.K (.ref C) "__contains__" = some (some (.ref f))) (hf : isFn X.K (.ref f) = true) :
    OpR X (compareOp .NotIn) (fun y x H Q => IsI C x H ∧ sp [x, y] H (fun r H' => ∃ b, r = .bl b ∧ Q (.bl (!b)) H') E) := by
  intro pins s σ H y x u v Q I ry rx ⟨hi, h⟩
  obtain ⟨a, ox, od, rfl, rfl, J⟩ := isI_at I rx hi
  obtain ⟨m, hF⟩ := I.fr
  refine notIn_K hF I.ok.mod.kin J hs hf (thn (run2 F hr hx I (x := .ref a) rfl ry h) fun r s' ⟨w, H', I', rw', b, e, q⟩ => ?_)
  subst e
  obtain rfl : r = Value.bool b := rw'
  exact wpAny_pure ⟨.bl (!b), H', I', rfl, q⟩
/-- the truth of x -/
theorem tru_O (F : FnR X.prog X.w X.K X.mg X.base CX k f sp) (hr : Room k X.A) (hx : Passes CX X E) (hs : findIn X.K (.ref C) "__bool__" = some (some (.ref f))) (hf : isFn X.K (.ref f) = true) :
    TruR X (fun x H Q => IsI C x H ∧ sp [x] H (fun r H' => ∃ b, r = .bl b ∧ Q b H') E) := by
  intro pins s σ H x v Q I rx ⟨hi, h⟩
  obtain ⟨a, ox, od, rfl, rfl, J⟩ := isI_at I rx hi
  obtain ⟨m, hF⟩ := I.fr
  refine truthy_K hF I.ok.mod.kin J hs hf (thn (run1 F hr hx I (x := .ref a) rfl h) fun r s' ⟨w, H', I', rw', b, e, q⟩ => ?_)
  subst e
  obtain rfl : r = Value.bool b := rw'
  exact ⟨H', I', q⟩
/-- len(x) -/
theorem call_lenO (F : FnR X.prog X.w X.K X.mg X.base CX k f sp) (hr : Room (k + 1) X.A) (hx : Passes CX X E) (hs : findIn X.K (.ref C) "__len__" = some (some (.ref f))) (hf : isFn X.K (.ref f) = true) :
    CallR X (.builtin "len") (fun vs H Q => ∃ x, vs = [x] ∧ IsI C x H ∧ sp [x] H (fun r H' => ∃ n : Int, r = .int n ∧ (0 ≤ n ∧ n < 2 ^ 63) ∧ Q (.int n) H') E) := by
  intro pins s σ H vs us Q I rv ⟨x, e, hi, h⟩
  subst e
  cases rv with
  | cons rx rt =>
    cases rt
    obtain ⟨a, ox, od, rfl, rfl, J⟩ := isI_at I rx hi
    obtain ⟨m, hF⟩ := I.fr
    refine len_K hF I.ok.mod.kin J hs hf (thn (run_in1 F hr hx I (vs := [.ref a]) (.cons rfl .nil) h) fun r s' ⟨w, H', I', rw', n, e, hn, q⟩ => ?_)
    subst e
    obtain ⟨t, rfl⟩ := (show ∃ t, r = Value.int n t from rw')
    exact ⟨hn, .int n, H', I'.tok _, ⟨_, rfl⟩, q⟩
/-- x == y, both of the own class -/
theorem op_eqO (F : FnR X.prog X.w X.K X.mg X.base CX k f sp) (hr : Room k X.A) (hx : Passes CX X E) (hs : findIn X.K (.ref C) "__eq__" = some (some (.ref f))) (hf : isFn X.K (.ref f) = true) :
    OpR X (compareOp .Eq) (fun x y H Q => IsI C y H ∧ rOp C sp E x y H Q) := by
  intro pins s σ H x y v u Q I rx ry ⟨hy, hi, h⟩
  obtain ⟨a, ox, od, rfl, rfl, J⟩ := isI_at I rx hi
  obtain ⟨b, oy, od2, rfl, rfl, J2⟩ := isI_at I ry hy
  obtain ⟨m, hF⟩ := I.fr
  refine cmp_K (op := .Eq) (tb := .ref C) hr.units0 hF I.ok.mod.kin J J2.type (by simp [notFirst]) hs hf ?_
  exact wpAny_mono (run2 F hr hx I (x := .ref a) (y := .ref b) rfl rfl h) (fun z s' ⟨w, H', I', r, q⟩ => cmpBack_rel (Q := EP X pins σ Q) r ⟨w, H', I', r, q⟩) fun _ _ z => z
theorem run_in2 {pins : List (Addr × Obj)} {σ : L2.St} {H : Hp} {s : Shared} {vs : List V} {us : List Value} {Q : VK} (F : FnR X.prog X.w X.K X.mg X.base CX k f sp) (hr : Room (k + 2) X.A) (hx : Passes CX X E) (I : Inv X pins σ H s) (r : Vals vs us) (h : sp vs H Q E) :
    wpAny (model X.prog X.w) X.A.in1.in1 (call (.ref f) us) (EP X pins σ Q) X.xe s := by
  have e := I.env0
  have e0 : Env0 X.prog X.w X.K X.mg X.base X.A.in1.in1 X.stack s H := ⟨e.frames, e.mod, e.bs, e.bsz, e.funs, e.frf, e.hok, e.bare⟩
  refine wpAny_call (codeAny_mono (F X.A.in1.in1 X.stack s H us vs Q E hr.in1.in1 e0 r h) fun r s' hq => ?_)
  cases r with
  | error e => exact hx pins σ H s e s' I hq
  | ok fl =>
    cases fl with
    | ret u => exact I.after hq
    | next => exact False.elim hq
    | brk => exact False.elim hq
    | cont => exact False.elim hq
/-- str(x) by an own __str__ -/
theorem call_strO (F : FnR X.prog X.w X.K X.mg X.base CX k f sp) (hr : Room (k + 2) X.A) (hx : Passes CX X E) (hs : findIn X.K (.ref C) "__str__" = some (some (.ref f))) (hf : isFn X.K (.ref f) = true) :
    CallR X (.type "str") (fun vs H Q => ∃ x, vs = [x] ∧ IsI C x H ∧ sp [x] H (fun r H' => ∃ z : Str, r = .str z ∧ Q (.str z) H') E) := by
  intro pins s σ H vs us Q I rv ⟨x, e, hi, h⟩
  subst e
  cases rv with
  | cons rx rt =>
    cases rt
    obtain ⟨a, ox, od, rfl, rfl, J⟩ := isI_at I rx hi
    refine kso_call hr.in1.in1.units0 I.kIn J hs hf (thn (run_in2 F hr hx I (vs := [.ref a]) (.cons rfl .nil) h) fun r s' ⟨w, H', I', rw', n, e, q⟩ => ?_)
    subst e
    obtain ⟨t, rfl⟩ := (show ∃ t, r = Value.str n t from rw')
    exact ⟨.str n, H', I', ⟨_, rfl⟩, q⟩
/-- repr(x) by an own __repr__ -/
theorem call_reprO (F : FnR X.prog X.w X.K X.mg X.base CX k f sp) (hr : Room (k + 1) X.A) (hx : Passes CX X E) (hs : findIn X.K (.ref C) "__repr__" = some (some (.ref f))) (hf : isFn X.K (.ref f) = true) :
    CallR X (.builtin "repr") (fun vs H Q => ∃ x, vs = [x] ∧ IsI C x H ∧ sp [x] H (fun r H' => ∃ z : Str, r = .str z ∧ Q (.str z) H') E) := by
  intro pins s σ H vs us Q I rv ⟨x, e, hi, h⟩
  subst e
  cases rv with
  | cons rx rt =>
    cases rt
    obtain ⟨a, ox, od, rfl, rfl, J⟩ := isI_at I rx hi
    obtain ⟨m, hF⟩ := I.fr
    refine repr_K hr.in1.units0 hF I.ok.mod.kin J hs hf (thn (run_in1 F hr hx I (vs := [.ref a]) (.cons rfl .nil) h) fun r s' ⟨w, H', I', rw', n, e, q⟩ => ?_)
    subst e
    obtain ⟨t, rfl⟩ := (show ∃ t, r = Value.str n t from rw')
    exact ⟨.str n, H', I', ⟨_, rfl⟩, q⟩
end
end EE

/-! Own layer: != of a class with an own == and no own !=. -/
namespace EE
open PySem PySem.Spec PyProof.Rows L2 PySem.W
section
variable {prog : Program} {w : World} {A : Around} {E : Value → Shared → Prop} {s : Shared} {K : Frag} {x C f : Addr} {ox : Obj} {od : Option Obj} {b tb : Value}
/-- what != takes back from an own == -/
def NeBack (Q : Value → Shared → Prop) (v : Value) (s' : Shared) : Prop := ∃ c, v = .bool c ∧ Q (.bool (!c)) s'
theorem objNe_K {Q : Fin → Shared → Prop} (hu : A.units < cLine) (X : K.In s.heap) (I : InstAt s.heap x ox C od) (hs : findIn K (.ref C) "__eq__" = some (some (.ref f))) (hf : isFn K (.ref f) = true)
    (h : wpAny (model prog w) A (call (.ref f) [.ref x, b]) (NeBack fun r s' => Q (.done (.ret r)) s') E s) : wpAny (model prog w) A (Builtin.«object.__ne__» ⟨[.ref x, b], []⟩) Q E s := by
  unfold Builtin.«object.__ne__»
  refine wpAny_bind (m := slotArgs "__ne__" 1 ⟨[.ref x, b], []⟩) (wpAny_pure ?_)
  show wpAny _ _ (cRoomFor _ _ >>= _) _ _ _
  refine wpAny_bind (wpAny_cRoomFor hu ?_)
  refine wpAny_bind (ifBound_K X I hs hf (wpAny_mono h (fun v s' ⟨c, e, q⟩ => ?_) fun _ _ e => e))
  subst e
  exact wpAny_bind (wpAny_truthy_bool (wpAny_pure q))
theorem tryNe_K {Q : Value → Shared → Prop} (hu : A.in1.units < cLine) (X : K.In s.heap) (I : InstAt s.heap x ox C od) (hn : findIn K (.ref C) "__ne__" = some (some (.builtin "object.__ne__"))) (ho : subIn K (.ref C) (.type "object") = some true) (hs : findIn K (.ref C) "__eq__" = some (some (.ref f))) (hf : isFn K (.ref f) = true)
    (h : wpAny (model prog w) A.in1 (call (.ref f) [.ref x, b]) (NeBack Q) E s) : wpAny (model prog w) A (tryCompare (.ref x) "__ne__" b) (fun r s' => ∃ v, r = some v ∧ Q v s') E s := by
  have isi : Looks (model prog w) s.heap (isInstance (.ref x) (.type "object")) true := I.type.andThen (looks_subIn X ho)
  unfold tryCompare
  refine wpAny_bind ?_
  simp only [callSpecialIfBound?, bindSpecialIfBound?]
  refine wpAny_holding (wpAny_bind (wpAny_bind (wpAny_bind (I.type.here ((looks_findIn X hn).here ?_)))))
  simp only [PySem.F.cmp_object.ne.bind]
  have fin : ∀ (R : Option Value → Shared → Prop), (∀ v s', Q v s' → v ≠ .notImplemented → R (some v) s') → wpAny (model prog w) A (call (.builtin "object.__ne__") ([.ref x] ++ [b]) >>= fun v => pure (some v)) R E s := fun R hR => by
    refine wpAny_bind (wpAny_call (codeAny_call_builtin PySem.F.cmp_object.ne.plain F.cmpEntry_ne (check_slot F.cmpKind_ne F.cmpSplit_ne isi (F.cmpArgs_ne _ _) (objNe_K (A := A.in1) hu X I hs hf (wpAny_mono h (fun v s' ⟨c, e, q⟩ => ⟨c, e, ?_⟩) fun _ _ e => e)))))
    exact wpAny_pure (hR _ _ q (by intro h; cases h))
  refine wpAny_bind (wpAny_askSetting (wpAny_ite ?_))
  have fin2 := fin (fun r s' => wpAny (model prog w) A (match r with | some .notImplemented | none => pure none | some v => pure (some v)) (fun r s' => ∃ v, r = some v ∧ Q v s') E s') fun v s' q ne => by
    cases v <;> first | exact absurd rfl ne | exact wpAny_pure ⟨_, rfl, q⟩
  split
  · exact wpAny_bind (wpAny_pure (wpAny_pure fin2))
  · exact wpAny_tryCatch (wpAny_bind (wpAny_pure (wpAny_pure fin2)))
theorem ne_own {Q : Value → Shared → Prop} (hu : A.units < cLine) (hu1 : A.in1.units < cLine) (X : K.In s.heap) (I : InstAt s.heap x ox C od) (hb : Looks (model prog w) s.heap (typeOf b) tb) (hfi : notFirst K C tb = true) (hn : findIn K (.ref C) "__ne__" = some (some (.builtin "object.__ne__"))) (ho : subIn K (.ref C) (.type "object") = some true)
    (hs : findIn K (.ref C) "__eq__" = some (some (.ref f))) (hf : isFn K (.ref f) = true) (h : wpAny (model prog w) A.in1 (call (.ref f) [.ref x, b]) (NeBack Q) E s) : wpAny (model prog w) A (richCompare .NotEq (.ref x) b) Q E s := by
  have one := tryNe_K (b := b) hu1 X I hn ho hs hf h
  unfold richCompare
  simp only [oneThing_ref]
  refine wpAny_holding (wpAny_bind (wpAny_cRoomFor hu ?_))
  refine wpAny_bind (I.type.here (wpAny_bind (hb.here ?_)))
  split
  · rename_i q
    have e : subIn K tb (.ref C) = some false := by
      rcases Bool.or_eq_true_iff.mp hfi with e | e
      · rw [beq_iff_eq.mp e] at q; simp at q
      · exact beq_iff_eq.mp e
    refine wpAny_bind ((looks_subIn X e).here ?_)
    simp only [Bool.false_eq_true, if_false]
    refine wpAny_bind (wpAny_mono one (fun r s' z => ?_) fun _ _ e => e)
    obtain ⟨v, rfl, hq⟩ := z
    exact wpAny_pure hq
  · refine wpAny_bind (wpAny_pure ?_)
    simp only [Bool.false_eq_true, if_false]
    refine wpAny_bind (wpAny_mono one (fun r s' z => ?_) fun _ _ e => e)
    obtain ⟨v, rfl, hq⟩ := z
    exact wpAny_pure hq
end
section
variable {X : Cx} {CX : CXT} {k : Nat} {f C : Addr} {sp : Sp} {E : XK}
/-- x != y, both of the own class -/
theorem op_neO (F : FnR X.prog X.w X.K X.mg X.base CX k f sp) (hr : Room (k + 1) X.A) (hx : Passes CX X E) (hn : findIn X.K (.ref C) "__ne__" = some (some (.builtin "object.__ne__"))) (ho : subIn X.K (.ref C) (.type "object") = some true) (hs : findIn X.K (.ref C) "__eq__" = some (some (.ref f))) (hf : isFn X.K (.ref f) = true) :
    OpR X (compareOp .NotEq) (fun x y H Q => IsI C y H ∧ IsI C x H ∧ sp [x, y] H (fun r H' => ∃ b, r = .bl b ∧ Q (.bl (!b)) H') E) := by
  intro pins s σ H x y v u Q I rx ry ⟨hy, hi, h⟩
  obtain ⟨a, ox, od, rfl, rfl, J⟩ := isI_at I rx hi
  obtain ⟨b, oy, od2, rfl, rfl, J2⟩ := isI_at I ry hy
  refine ne_own hr.units0 hr.in1.units0 I.kIn J J2.type (by simp [notFirst]) hn ho hs hf ?_
  refine thn (run_in1 F hr hx I (vs := [.ref a, .ref b]) (.cons rfl (.cons rfl .nil)) h) fun z s' ⟨w, H', I', r, c, e, q⟩ => ?_
  subst e
  obtain rfl : z = Value.bool c := r
  exact ⟨c, rfl, .bl (!c), H', I', rfl, q⟩
end
end EE

/-! Own layer: set(a list of texts), sorted of such a set. -/
namespace EE
open PySem PySem.Spec PyProof.Rows L2 PySem.Froz
/-- the payload of a set of the texts l that can be walked -/
structure TxW (P : Program) (w : World) (D : SD) (l : List Str) : Prop where
  ok : TxOk P w D l
  nd : l.Nodup
  ris : Ris D.2.2.place.toList
  led : w.params.followText "set-order" = true ∨ D.2.2.led = true
def SetS (P : Program) (w : World) (h : Heap) (a : Addr) (l : List Str) : Prop := ∃ D, h.get? a = some (sObj "set" D) ∧ TxW P w D l
theorem SetS.at {P : Program} {w : World} {h h' : Heap} {a : Addr} {l : List Str} (R : SetS P w h a l) (k : ∀ o, h.get? a = some o → h'.get? a = some o) : SetS P w h' a l := let ⟨D, e, r⟩ := R; ⟨D, k _ e, r⟩
section
variable {P : Program} {w : World} {A : Around} {E : Value → Shared → Prop} {s : Shared} {D : SD} {l : List Str} {k : Str} {u : Tok} {a : Addr}
theorem txW_fresh {ep : Nat} : TxW P w (#[], ep, .fresh 0 0 (!w.params.followText "set-order")) [] :=
  ⟨TxOk.nil rfl, List.nodup_nil, List.Pairwise.nil, by
    cases w.params.followText "set-order" with
    | false => exact Or.inr rfl
    | true => exact Or.inl rfl⟩
theorem txW_add (R : TxW P w D l) (hk : k ∉ l) : TxW P w (addTx (hashStr w k) (.str k u) D) (k :: l) := by
  obtain ⟨es, ep, t⟩ := D
  have rr : Ris t.place.toList := R.ris
  have ll : w.params.followText "set-order" = true ∨ t.led = true := R.led
  have r1 := layNew_ris t es (hashStr w k) (.str k u) rr
  have d1 := layNew_led t es (hashStr w k) (.str k u)
  suffices h : Ris (addTx (hashStr w k) (.str k u) (es, ep, t)).2.2.place.toList ∧ (addTx (hashStr w k) (.str k u) (es, ep, t)).2.2.led = t.led from
    ⟨add_ok u R.ok, List.nodup_cons.mpr ⟨hk, R.nd⟩, h.1, ll.imp id fun z => h.2.trans z⟩
  show Ris (tailTx ep _ _ _).2.2.place.toList ∧ (tailTx ep _ _ _).2.2.led = t.led
  generalize layNew t es (hashStr w k) (.str k u) = Z at r1 d1
  obtain ⟨es1, t1, wd, gv⟩ := Z
  dsimp only at r1 d1 ⊢
  have r2 : Ris (if t1.plain = true then { t1 with plain := false } else t1).place.toList := by split <;> exact r1
  have d2 : (if t1.plain = true then { t1 with plain := false } else t1).led = t.led := by split <;> exact d1
  generalize (if t1.plain = true then { t1 with plain := false } else t1) = t2 at r2 d2
  unfold tailTx
  split
  · exact ⟨relayAll_ris _ _ _, (relayAll_led _ _ _).trans d2⟩
  · exact ⟨r2, d2⟩
/-- what is there is not put in again -/
theorem add_old {Q : Bool → Shared → Prop} (ho : s.heap.get? a = some (sObj "set" D)) (F : TxOk P w D l) (hk : k ∈ l) (hb : l.length < scanBound) (h : Q false s) : wpAny (model P w) A (setAddHashed a (.str k u) (hashStr w k)) Q E s := by
  obtain ⟨es, ep, t⟩ := D
  have hel : ElemsOf (strKind P w) es.toList := F.el
  have z : es.size < scanBound := Nat.lt_of_le_of_lt (Nat.le_of_eq F.sz) hb
  obtain ⟨e, he, q⟩ := (F.mem k).mp hk
  obtain ⟨j, hj⟩ : ∃ j, List.findIdx? (fun e => (strKind P w).is k e.2) es.toList = some j := by
    cases c : List.findIdx? (fun e => (strKind P w).is k e.2) es.toList with
    | some j => exact ⟨j, rfl⟩
    | none => exact absurd q (by rw [List.findIdx?_eq_none_iff.mp c e he]; decide)
  unfold setAddHashed setAddHashedIn
  refine wpAny_holding (wpAny_bind (wpAny_setState_of ho rfl F.fit ?_)); dsimp only
  rw [byScan_of (x := Value.str k u) rfl z hel]; simp only [↓reduceIte]
  unfold setAddByScan
  refine wpAny_bind (wpAny_bind (wpAny_rule (wpAny_bind (wpAny_setScan_of (knd := strKind P w) (k := k) (is_str k u) ho rfl F.fit hel ?_))))
  rw [hj]
  exact wpAny_pure (wpAny_pure h)
theorem set_put {Q : Bool → Shared → Prop} (R : SetS P w s.heap a l) (hb : l.length + 1 < scanBound)
    (h : ∀ b h' l', Heap.SameBut a s.heap h' → SetS P w h' a l' → l'.length ≤ l.length + 1 → (∀ y, y ∈ l' ↔ y = k ∨ y ∈ l) → Q b { s with heap := h', toks := s.toks + 1 }) : wpAny (model P w) A (setAdd a (.str k u)) Q E s := by
  obtain ⟨D, ho, R⟩ := R
  unfold setAdd
  refine wpAny_holding (wpAny_bind ((strKind P w).pyHash (k := k) (is_str k u) ?_))
  by_cases c : k ∈ l
  · exact add_old (s := { s with toks := s.toks + 1 }) ho R.ok c (by omega) (h false s.heap l (Heap.SameBut.refl a s.heap) ⟨D, ho, R⟩ (by omega) fun y => ⟨.inr, fun z => z.elim (fun e => e ▸ c) id⟩)
  · refine add_x (s := { s with toks := s.toks + 1 }) ho R.ok c hb (h true _ (k :: l) ?_ ⟨_, get_upd _ ho rfl, txW_add R c⟩ (Nat.le_refl _) fun y => List.mem_cons)
    exact Heap.SameBut.update s.heap a _
theorem set_fill {I : Addr} {fp wr : List Addr} {G : Array GenState → Array GenState → Prop} {n : Nat} {Pv : Nat → Value → Prop} {St : Nat → Shared → Prop} {R : Result → Shared → Prop} (W : WalksS P w A.in1 I fp wr G n Pv St) (hf : a ∉ fp)
    (zs : List Str) (hn : n = zs.length) (hb : n + 1 < scanBound) (hv : ∀ i v, Pv i v → ∃ z t, zs[i]? = some z ∧ v = .str z t) (hR : ∀ s' l, (∃ s0, Moved (a :: wr) G s0 s' ∧ s0 = s) → SetS P w s'.heap a l → l.length ≤ n → (∀ y, y ∈ l ↔ y ∈ zs) → R (.ok (.ret .none)) s') :
    ∀ (k i : Nat) (s1 : Shared), n - i = k → i ≤ n → St i s1 → Moved (a :: wr) G s s1 → (∃ l, SetS P w s1.heap a l ∧ l.length ≤ i ∧ ∀ y, y ∈ l ↔ y ∈ zs.take i) → codeAny (model P w) A (.builtin "set.update.loop" ⟨[.ref a, .ref I], []⟩) R s1 := by
  have aw : a ∉ wr := fun h => hf (W.sub _ h)
  have up : ∀ {x y : Shared}, Moved wr G x y → Moved (a :: wr) G x y := fun m => m.mono fun b hb => List.mem_cons_of_mem _ hb
  intro k
  induction k with
  | zero =>
    intro i s1 hk hi st mv ⟨l, S, c, m⟩
    obtain rfl : i = n := by omega
    refine codeAny_builtin PyProof.Rows.F.entry_set_update_loop ?_; rw [Around.under_plainId PyProof.Rows.F.plain_set_update_loop _]
    refine wpAny_bind (m := pyNext (.ref I)) (W.done s1 _ _ st fun s' hm => ?_)
    refine wpAny_pure (hR s' l ⟨s, Moved.trans W.gtrans mv (up hm), rfl⟩ (S.at fun o e => hm.heap a o aw e) c fun y => ?_)
    rw [m y, hn, List.take_length]
  | succ k ih =>
    intro i s1 hk hi st mv ⟨l, S, c, m⟩
    refine codeAny_builtin PyProof.Rows.F.entry_set_update_loop ?_; rw [Around.under_plainId PyProof.Rows.F.plain_set_update_loop _]
    refine wpAny_bind (m := pyNext (.ref I)) (W.item i s1 _ _ (by omega) st fun v s' hP st' hm => ?_)
    obtain ⟨z, t, hz, rfl⟩ := hv i v hP
    refine wpAny_bind (m := holding [Value.str z t] (setAdd a (.str z t))) (wpAny_holding (set_put (S.at fun o e => hm.heap a o aw e) (by omega) fun b h' l' sb S' c' m' => ?_))
    refine wpAny_pure ⟨plainId_quiet PyProof.Rows.F.plain_set_update_loop _, ih (i + 1) _ (by omega) (by omega) (W.frame _ s' _ _ st' (Nat.le_add_right _ _) fun b hb o e => ?_) (Moved.trans W.gtrans mv ((up hm).then_heap (Nat.le_add_right _ _) fun b o hb e => ?_)) ⟨l', S', by omega, fun y => ?_⟩⟩
    · rw [sb.2 b fun h => hf (h ▸ hb)]; exact e
    · rw [sb.2 b fun h => hb (h ▸ List.mem_cons_self)]; exact e
    · have e : zs.take (i + 1) = zs.take i ++ [z] := by rw [List.take_succ, hz]; rfl
      rw [m' y, m y, e, List.mem_append, List.mem_singleton]
      exact Or.comm
theorem strs_get : ∀ {us : List Value} {zs : List Str}, StrsAre us zs → ∀ {i : Nat} {v : Value}, us[i]? = some v → ∃ z t, zs[i]? = some z ∧ v = .str z t
  | _, _, .nil, i, v, e => by cases e
  | _, _, .cons x t r, 0, v, e => ⟨x, t, rfl, (Option.some.inj e).symm⟩
  | _, _, .cons x t r, i + 1, v, e => strs_get r (i := i) e
abbrev oSet0 (w : World) : Obj := { cls := .type "set", dict := none, data := .set #[] 0 (.fresh 0 0 (!w.params.followText "set-order")) }
set_option maxRecDepth 100000 in
set_option maxHeartbeats 3200000 in
/-- set(a list of texts) -/
theorem call_setL {q : Addr} {its : Array Value} {zs : List Str} {Q : Value → Shared → Prop} (hh : A.handled = none) (hl : s.heap.IsList q its) (hi : StrsAre its.toList zs) (hb : zs.length + 1 < scanBound)
    (h : ∀ h' tk l, SetS P w h' s.heap.objs.size l → l.length ≤ zs.length → (∀ y, y ∈ l ↔ y ∈ zs) → (∀ b o, s.heap.get? b = some o → h'.get? b = some o) → Q (.ref s.heap.objs.size) { s with heap := h', toks := tk }) :
    wpAny (model P w) A (call (.type "set") [.ref q]) Q E s := by
  have nz : its.size = zs.length := by have e := hi.length; rw [Array.length_toList] at e; exact e
  obtain ⟨c, tl, mro⟩ := F.called_set.mro; have made := F.called_set.made; have sub := F.called_set.sub
  refine wpAny_call (codeAny_of_tree ?_); show wpAny _ _ (callAny (.type "set") _) _ _ _
  refine wpAny_pure ⟨Code.quiet_builtin _ (by decide +kernel), codeAny_builtin F.entry_type_call ?_⟩
  rw [Around.under_plain (weight_type_call_type "set" [.ref q] []) rfl]
  have h1 := F.called_set.notType; have h2 := F.called_set.canCreate; have h3 := F.typeCall_set_1 (.ref q)
  (repeat (any_goals (first | assumption | wp_step)))
  have hS : (s.heap.push (oSet0 w)).get? s.heap.objs.size = some (sObj "set" (#[], 0, .fresh 0 0 (!w.params.followText "set-order"))) := Heap.get?_push_size _ rfl
  refine codeAny_mono (code_set_led1 (.ref q) (E := E) (Q₁ := fun v t => v = .ref s.heap.objs.size ∧ t = { s with heap := s.heap.push (oSet0 w) }) ⟨rfl, rfl⟩) fun r t hr => ?_
  match r, hr with
  | .ok (.ret v), hr =>
    obtain ⟨rfl, rfl⟩ := hr
    have hT : Shared.TypeIs { s with heap := s.heap.push (oSet0 w) } (.ref s.heap.objs.size) "set" := ⟨_, hS, rfl⟩
    have k1 := F.called_set.init.lookup; have k2 := F.called_set.init.bind (.ref s.heap.objs.size)
    (repeat (any_goals (first | assumption | wp_step)))
    refine codeAny_mono (codeAny_call_builtin (R := wants (fun r t => r = .none ∧ ∃ h' tk l, t = { s with heap := h', toks := tk } ∧ SetS P w h' s.heap.objs.size l ∧ l.length ≤ zs.length ∧ (∀ y, y ∈ l ↔ y ∈ zs) ∧ ∀ b o, s.heap.get? b = some o → h'.get? b = some o) E) F.called_set.init.plain F.entry_set_init (check_set_init_1 hT ?_)) fun r t hr => ?_
    · obtain ⟨⟨oc, od, oda, osl⟩, ho, hc, nl, hd⟩ := hl
      simp only at hc hd
      subst hc hd
      have ho1 : (s.heap.push (oSet0 w)).get? q = some { cls := .type "list", dict := od, data := .seq its nl, slots := osl } := Heap.get?_push_of_some _ ho
      have l1 : (s.heap.push (oSet0 w)).IsList q its := ⟨_, ho1, rfl, nl, rfl⟩
      have e1 := F.sub_list_set; have e2 := F.sub_list_frozenset; have e3 : (Value.type "list" == Value.type "dict") = false := by decide
      unfold Builtin.«set.__init__» noKeywords Builtin.Frozenset.updateFrom
      (generalize hPI : pyIter = PI); wp_walk; subst hPI
      refine wpAny_pyIter_list l1 (wpAny_bind (wpAny_runValue ?_))
      have lt : q < s.heap.objs.size := Heap.lt_size ho
      have ne : q ≠ (s.heap.push (oSet0 w)).objs.size := by rw [Heap.size_push]; exact Nat.ne_of_lt (Nat.lt_succ_of_lt lt)
      have sz : (s.heap.push (oSet0 w)).objs.size = s.heap.objs.size + 1 := Heap.size_push ..
      refine set_fill (a := s.heap.objs.size) ((Walks.list (by simp [hh]) _ q ne its).toS) ?_ zs nz (by rw [nz]; exact hb) (fun i v e => ?_) (fun s' l mv S c m => ?_) (its.size - 0) 0 _ (by omega) (Nat.zero_le _) ⟨⟨_, Heap.get?_push_size _ rfl, rfl, rfl⟩, l1.push _⟩ (Moved.refl fun _ => rfl)
        ⟨[], ⟨_, Heap.get?_push_of_some _ hS, txW_fresh⟩, Nat.le_refl _, fun y => by rw [List.take_zero]⟩
      · intro z
        rcases List.mem_cons.mp z with z | z
        · rw [sz] at z; exact absurd z (Nat.ne_of_lt (Nat.lt_succ_self _))
        · exact absurd (List.mem_singleton.mp z) (Nat.ne_of_gt lt)
      · have e' : its.toList[i]? = some v := by rw [Array.getElem?_toList]; exact e
        exact strs_get hi e'
      · obtain ⟨s0, mv, rfl⟩ := mv
        obtain ⟨h', g', d', tk', os'⟩ := s'
        obtain rfl : g' = s.gens := mv.gens
        obtain rfl : d' = s.drawn := mv.drawn
        obtain rfl : os' = s.os := mv.os
        refine wpAny_pure ?_; show wpAny _ _ (ret Value.none) _ _ _
        refine wpAny_pure ⟨rfl, h', tk', l, rfl, S, by rw [← nz]; exact c, m, fun b o e => ?_⟩
        have lb := Heap.lt_size e
        refine mv.heap b o (fun z => ?_) (Heap.get?_push_of_some _ (Heap.get?_push_of_some _ e))
        rcases List.mem_cons.mp z with z | z
        · exact absurd z (Nat.ne_of_lt lb)
        · have := List.mem_singleton.mp z; rw [sz] at this; exact absurd this (Nat.ne_of_lt (Nat.lt_succ_of_lt lb))
    · match r, hr with
      | .error _, hr => exact hr
      | .ok (.ret _), hr =>
        obtain ⟨rfl, h', tk, l, rfl, S, c, m, k⟩ := hr
        (repeat (any_goals (first | assumption | wp_step)))
        exact h _ _ _ S c m k
      | .ok .next, hr => exact hr.elim
      | .ok .brk, hr => exact hr.elim
      | .ok .cont, hr => exact hr.elim
  | .error _, hr => exact hr
  | .ok .next, hr => exact hr.elim
  | .ok .brk, hr => exact hr.elim
  | .ok .cont, hr => exact hr.elim
end
end EE

/-! Own layer: the order of texts; srtS: the distinct texts of a list, ascending. -/
namespace EE
open PySem PySem.Spec PyProof.Rows L2
def sLt (x y : Str) : Prop := x.cps.toList < y.cps.toList
instance (x y : Str) : Decidable (sLt x y) := by unfold sLt; infer_instance
theorem str_of_list {x y : Str} (h : x.cps.toList = y.cps.toList) : x = y := by
  cases x; cases y
  congr 1
  exact Array.toList_inj.mp h
theorem sLt_irrefl (x : Str) : ¬ sLt x x := List.lt_irrefl _
theorem sLt_trans {x y z : Str} (a : sLt x y) (b : sLt y z) : sLt x z := List.lt_trans a b
theorem sLt_asymm {x y : Str} (a : sLt x y) : ¬ sLt y x := fun b => sLt_irrefl x (sLt_trans a b)
theorem sLt_tri (x y : Str) : sLt x y ∨ x = y ∨ sLt y x := by
  by_cases a : sLt x y
  · exact .inl a
  by_cases b : sLt y x
  · exact .inr (.inr b)
  · exact .inr (.inl (str_of_list (List.le_antisymm (List.not_lt.mp b) (List.not_lt.mp a))))
def Srt (l : List Str) : Prop := l.Pairwise sLt
theorem Srt.nodup {l : List Str} (h : Srt l) : l.Nodup := List.nodup_iff_pairwise_ne.mpr (List.Pairwise.imp (R := sLt) (S := (· ≠ ·)) (fun {a b} z e => sLt_irrefl b (e ▸ z)) h)
def insS (x : Str) : List Str → List Str
  | [] => [x]
  | y :: r => if sLt x y then x :: y :: r else if x = y then y :: r else y :: insS x r
def srtS (l : List Str) : List Str := l.foldr insS []
theorem mem_insS {x z : Str} : ∀ {l : List Str}, z ∈ insS x l ↔ z = x ∨ z ∈ l
  | [] => by simp [insS]
  | y :: r => by
    unfold insS
    by_cases a : sLt x y
    · rw [if_pos a]; exact List.mem_cons
    · rw [if_neg a]
      by_cases b : x = y
      · rw [if_pos b]; subst b; exact ⟨.inr, fun q => q.elim (fun e => e ▸ List.mem_cons_self) id⟩
      · rw [if_neg b, List.mem_cons, mem_insS (l := r), List.mem_cons]
        exact ⟨fun q => q.elim (fun e => .inr (.inl e)) (fun q => q.elim .inl fun e => .inr (.inr e)), fun q => q.elim (fun e => .inr (.inl e)) (fun q => q.elim .inl fun e => .inr (.inr e))⟩
theorem srt_insS {x : Str} : ∀ {l : List Str}, Srt l → Srt (insS x l)
  | [], _ => List.pairwise_cons.mpr ⟨fun _ h => (by cases h), List.Pairwise.nil⟩
  | y :: r, h => by
    obtain ⟨h1, h2⟩ := List.pairwise_cons.mp h
    unfold insS
    by_cases a : sLt x y
    · rw [if_pos a]
      refine List.pairwise_cons.mpr ⟨fun z hz => ?_, h⟩
      rcases List.mem_cons.mp hz with rfl | hz
      · exact a
      · exact sLt_trans a (h1 z hz)
    · rw [if_neg a]
      by_cases b : x = y
      · rw [if_pos b]; exact h
      · rw [if_neg b]
        refine List.pairwise_cons.mpr ⟨fun z hz => ?_, srt_insS h2⟩
        rcases mem_insS.mp hz with rfl | hz
        · exact (sLt_tri y z).resolve_right fun q => q.elim (fun e => b e.symm) a
        · exact h1 z hz
theorem mem_srtS {z : Str} : ∀ {l : List Str}, z ∈ srtS l ↔ z ∈ l
  | [] => Iff.rfl
  | y :: r => by
    show z ∈ insS y (srtS r) ↔ _
    rw [mem_insS, mem_srtS (l := r), List.mem_cons]
theorem srt_srtS : ∀ (l : List Str), Srt (srtS l)
  | [] => List.Pairwise.nil
  | y :: r => srt_insS (srt_srtS r)
theorem srt_ext : ∀ {xs ys : List Str}, Srt xs → Srt ys → (∀ z, z ∈ xs ↔ z ∈ ys) → xs = ys
  | [], [], _, _, _ => rfl
  | [], y :: ys, _, _, h => absurd ((h y).mpr List.mem_cons_self) (by simp)
  | x :: xs, [], _, _, h => absurd ((h x).mp List.mem_cons_self) (by simp)
  | x :: xs, y :: ys, a, b, h => by
    obtain ⟨a1, a2⟩ := List.pairwise_cons.mp a
    obtain ⟨b1, b2⟩ := List.pairwise_cons.mp b
    have e : x = y := by
      rcases List.mem_cons.mp ((h x).mp List.mem_cons_self) with e | m
      · exact e
      rcases List.mem_cons.mp ((h y).mpr List.mem_cons_self) with e | m'
      · exact e.symm
      exact absurd (b1 x m) (sLt_asymm (a1 y m'))
    subst e
    rw [srt_ext a2 b2 fun z => ?_]
    constructor
    · intro m
      rcases List.mem_cons.mp ((h z).mp (List.mem_cons_of_mem _ m)) with e | q
      · subst e; exact absurd (a1 z m) (sLt_irrefl z)
      · exact q
    · intro m
      rcases List.mem_cons.mp ((h z).mpr (List.mem_cons_of_mem _ m)) with e | q
      · subst e; exact absurd (b1 z m) (sLt_irrefl z)
      · exact q
theorem srtS_of_srt {l : List Str} (h : Srt l) : srtS l = l := srt_ext (srt_srtS l) h fun z => mem_srtS
theorem srt_of {ys : List Str} (h : sortedS ys = true) (nd : ys.Nodup) : Srt ys := by
  have go : ∀ (r : List Str) (p : Str), risingS p r = true → (p :: r).Nodup → Srt (p :: r) := by
    intro r
    induction r with
    | nil => exact fun p _ _ => List.pairwise_cons.mpr ⟨fun _ h => (by cases h), List.Pairwise.nil⟩
    | cons x r ih =>
      intro p h nd
      obtain ⟨n1, n2⟩ := List.nodup_cons.mp nd
      obtain ⟨h1, h2⟩ := Bool.and_eq_true_iff.mp (show (!ltCps x.cps.toList p.cps.toList && risingS x r) = true from h)
      rw [ltCps_eq] at h1
      have s := ih x h2 n2
      have px : sLt p x := (sLt_tri p x).resolve_right fun q => q.elim (fun e => n1 (e ▸ List.mem_cons_self)) fun q => by
        rw [decide_eq_true (show x.cps.toList < p.cps.toList from q)] at h1
        cases h1
      refine List.pairwise_cons.mpr ⟨fun z hz => ?_, s⟩
      rcases List.mem_cons.mp hz with rfl | hz
      · exact px
      · exact sLt_trans px ((List.pairwise_cons.mp s).1 z hz)
  match ys, h, nd with
  | [], _, _ => exact List.Pairwise.nil
  | p :: r, h, nd => exact go r p h nd
theorem srtS_eq {ys ks : List Str} (h : sortedS ys = true) (p : ys.Perm ks) (nd : ks.Nodup) : ys = srtS ks := srt_ext (srt_of h (p.nodup_iff.mpr nd)) (srt_srtS ks) fun z => by rw [p.mem_iff, mem_srtS]
theorem srtS_len_le : ∀ l : List Str, (srtS l).length ≤ l.length
  | [] => Nat.le_refl _
  | y :: r => by
    have ins : ∀ (x : Str) (l : List Str), (insS x l).length ≤ l.length + 1 := by
      intro x l
      induction l with
      | nil => exact Nat.le_refl _
      | cons y r ih =>
        unfold insS
        split
        · exact Nat.le_refl _
        · split
          · exact Nat.le_succ _
          · exact Nat.succ_le_succ ih
    exact Nat.le_trans (ins y (srtS r)) (Nat.succ_le_succ (srtS_len_le r))
/-- a list without repeats within another one that is no longer: the same up to order -/
theorem perm_of_sub {α : Type} [DecidableEq α] : ∀ {l ks : List α}, l.Nodup → (∀ x ∈ l, x ∈ ks) → ks.length ≤ l.length → ks.Perm l
  | [], ks, _, _, h => by
    rw [List.length_eq_zero_iff.mp (Nat.le_zero.mp h)]
  | x :: l, ks, nd, sub, h => by
    obtain ⟨n1, n2⟩ := List.nodup_cons.mp nd
    have hx := sub x List.mem_cons_self
    refine (List.perm_cons_erase hx).trans (.cons x (perm_of_sub n2 (fun y hy => ?_) ?_))
    · exact (List.mem_erase_of_ne fun (e : y = x) => n1 (e ▸ hy)).mpr (sub y (List.mem_cons_of_mem _ hy))
    · rw [List.length_erase_of_mem hx]
      have : (x :: l).length = l.length + 1 := rfl
      omega
end EE

/-! Own layer: sorted(set(texts)) as readings. -/
namespace EE
open PySem PySem.Spec PyProof.Rows L2 PySem.Froz
section
variable {P : Program} {w : World} {A : Around} {E : Value → Shared → Prop} {s : Shared} {l : List Str} {a : Addr}
/-- the texts of a walkable payload's entries are its members -/
theorem txW_texts {D : SD} (F : TxOk P w D l) (nd : l.Nodup) : ∃ ks, StrsAre (D.1.toList.map (·.2)) ks ∧ ks.Perm l := by
  obtain ⟨es, ep, t⟩ := D
  have key : ∀ ts : List (Int × Value), ElemsOf (strKind P w) ts → ∃ ks, StrsAre (ts.map (·.2)) ks ∧ ks.length = ts.length ∧ ∀ e ∈ ts, ∃ x ∈ ks, (strKind P w).is x e.2 = true := by
    intro ts
    induction ts with
    | nil => exact fun _ => ⟨[], .nil, rfl, fun e h => by cases h⟩
    | cons e ts ih =>
      intro h
      obtain ⟨ks, k1, k2, k3⟩ := ih fun y hy => h y (List.mem_cons_of_mem _ hy)
      obtain ⟨⟨x, hx, _⟩, _⟩ := h e List.mem_cons_self
      obtain ⟨u, hu⟩ := Value.isStrOf_shape (x := x) (v := e.2) hx
      refine ⟨x :: ks, by rw [List.map_cons, hu]; exact .cons x u k1, by rw [List.length_cons, k2]; rfl, fun y hy => ?_⟩
      rcases List.mem_cons.mp hy with rfl | hy
      · exact ⟨x, List.mem_cons_self, hx⟩
      · obtain ⟨z, z1, z2⟩ := k3 y hy
        exact ⟨z, List.mem_cons_of_mem _ z1, z2⟩
  obtain ⟨ks, k1, k2, k3⟩ := key es.toList F.el
  refine ⟨ks, k1, ?_⟩
  have len : ks.length = l.length := by rw [k2, Array.length_toList]; exact F.sz
  have sub : ∀ x ∈ l, x ∈ ks := fun x hx => by
    obtain ⟨e, he, q⟩ := (F.mem x).mp hx
    obtain ⟨z, z1, z2⟩ := k3 e he
    rw [(strKind P w).inj e.2 x z q z2]; exact z1
  exact perm_of_sub nd sub (Nat.le_of_eq len)
/-- the set of the texts l at a -/
def SetSO (P : Program) (w : World) (a : Addr) (l : List Str) : HO := .ext fun h => SetS P w h a l
theorem setSO_new {H : Hp} {h : Heap} (R : SetS P w h a l) : ObjOk P w H h a (SetSO P w a l) := ⟨R, (let ⟨D, e, _⟩ := R; ⟨_, e⟩), fun _ _ p k => p.at k⟩
/-- sorted(a set of texts) -/
theorem sorted_setS {Q : Value → Shared → Prop} (R : SetS P w s.heap a l) (hh : A.handled = none) (h64 : l.length < 64)
    (hQ : ∀ s' p (out : List Value) (c : Nat), (∀ b o, s.heap.get? b = some o → s'.heap.get? b = some o) → s'.gens = s.gens → s'.os = s.os → s.heap.objs.size ≤ p → s'.heap.get? p = some (seqObj "list" out.toArray c) → StrsAre out (srtS l) → Q (.ref p) s') :
    wpAny (model P w) A (call (.builtin "sorted") [.ref a]) Q E s := by
  obtain ⟨D, ho, T⟩ := R
  obtain ⟨ks, ka, kp⟩ := txW_texts T.ok T.nd
  have dsz : D.1.size = l.length := T.ok.sz
  refine Calls.call_function_entry kind_sorted plain_sorted entry_sorted (args_sorted1 _) ?_; unfold Builtin.«sorted»
  refine wpAny_bind (m := checkCount "sorted" 1 1 _) (wpAny_pure (wpAny_bind (collect_set (A := A.in1) hh ⟨_, ho, rfl, rfl⟩ T.ok.fit (by rw [dsz]; unfold scanBound; omega) T.ris T.led fun s1 vs k1 hz g1 o1 pm => ?_)))
  -- the values are the texts, in some order
  have ord : ∀ (us ws : List Value), us.Perm ws → ∀ ys, StrsAre ws ys → ∃ xs, StrsAre us xs ∧ xs.Perm ys := by
    intro us ws pp
    induction pp with
    | nil => intro ys h; cases h; exact ⟨[], .nil, .nil⟩
    | cons v _ ih => intro ys h; cases h with
      | cons x t r => obtain ⟨xs, a1, a2⟩ := ih _ r; exact ⟨x :: xs, .cons x t a1, .cons x a2⟩
    | swap u v us => intro ys h; cases h with
      | cons x t r => cases r with
        | cons y t' r => exact ⟨y :: x :: _, .cons y t' (.cons x t r), .swap _ _ _⟩
    | trans _ _ ih1 ih2 => intro ys h; obtain ⟨xs, a1, a2⟩ := ih2 _ h; obtain ⟨zs, b1, b2⟩ := ih1 _ a1; exact ⟨zs, b1, b2.trans a2⟩
  obtain ⟨xs, xa, xp⟩ := ord _ _ pm ks ka
  have xl : vs.length = l.length := by rw [xa.length, xp.length_eq, kp.length_eq]
  refine wpAny_bind (wpAny_newList ?_ (by rw [xl, sizeLine_eq]; omega))
  have hoL : (s1.heap.push (seqObj "list" vs.toArray 0)).get? s1.heap.objs.size = some (seqObj "list" vs.toArray 0) := Heap.get?_push_size _ rfl
  refine wpAny_bind (wpAny_holding (wpAny_call_entry slot_list_sort ⟨_, hoL, rfl⟩ entry_list_sort (list_sort_treeK strKind_oneLt (s := { s1 with heap := s1.heap.push (seqObj "list" vs.toArray 0) }) hoL xa.keysOf (fun v₁ v₂ rest e => keyKind_strs (by rw [← e]; exact xa)) (by rw [xl]; exact h64) fun st' hp hs => ⟨_, rfl, ?_⟩) (args_list_sort _)))
  obtain ⟨ys, y1, y2, y3⟩ := sorted_out_str xa hp hs
  obtain ⟨c, hc⟩ := sortedHeap_at (vs := vs) (out := (arrOf st').map (·.2)) hoL
  have q := y2.trans (xp.trans kp)
  rw [srtS_eq y3 q T.nd] at y1
  refine wpAny_pure ⟨_, rfl, hQ _ s1.heap.objs.size ((arrOf st').map (·.2)).toList c (fun b u e => ?_) g1 o1 hz (by rw [Array.toArray_toList]; exact hc) y1⟩
  have e1 := k1 b u e
  have lt := Heap.lt_size e1
  exact (sortedHeap_old (Nat.ne_of_lt lt) (by rw [size_push']; exact Nat.lt_succ_of_lt lt)).trans (Heap.get?_push_of_some _ e1)
def rSetS (P : Program) (w : World) (K : PySem.W.Frag) : List V → Hp → VK → Prop := fun xs H Q => ∃ (p : Addr) (zs : List Str), xs = [.ref p] ∧ SqL K H p (zs.map V.str) ∧ zs.length ≤ 1000 ∧
  ∀ a l H', H a = none → Same H H' → H' a = some (SetSO P w a l) → l.length ≤ zs.length → (∀ y, y ∈ l ↔ y ∈ zs) → Q (.ref a) H'
theorem cr_setS {X : Cx} (hc : X.calm = true) : CallR X (.type "set") (rSetS X.prog X.w X.K) := by
  intro pins s σ H xs us Q I r h
  obtain ⟨p, zs, rfl, hs, hl, q⟩ := h
  rw [Vals.ref1 r]
  obtain ⟨its, rv, il, _⟩ := I.list hs
  refine call_setL (I.ok.hd hc) il.isList (by simpa using strs_of_vals rv) (by unfold scanBound; omega) fun h' tk l S c m k => ?_
  have fr : H s.heap.objs.size = none := I.hok.fresh (Nat.le_refl _)
  exact ⟨.ref s.heap.objs.size, upd H s.heap.objs.size (SetSO X.prog X.w s.heap.objs.size l), I.laid (t' := tk) k (Nat.le_refl _) (setSO_new S), rfl, q _ l _ fr (same_new fr) upd_same c m⟩
def rSortedSS (P : Program) (w : World) : List V → Hp → VK → Prop := fun xs H Q => ∃ (a : Addr) (l : List Str), xs = [.ref a] ∧ H a = some (SetSO P w a l) ∧ l.length < 64 ∧
  ∀ p H', H p = none → Same H H' → H' p = some (.lst ((srtS l).map V.str)) → Q (.ref p) H'
theorem cr_sortedSS {X : Cx} (hc : X.calm = true) : CallR X (.builtin "sorted") (rSortedSS X.prog X.w) := by
  intro pins s σ H xs us Q I r h
  obtain ⟨a, l, rfl, ha, h64, q⟩ := h
  rw [Vals.ref1 r]
  have R : SetS X.prog X.w s.heap a l := (I.hok a _ ha).1
  refine sorted_setS R (I.ok.hd hc) h64 fun s' p out c k g o hp hg hi => ?_
  have ln : ((srtS l).map V.str).length ≤ sizeLine := by rw [List.length_map]; have := srtS_len_le l; exact small_sz (by omega)
  have fr : H p = none := I.hok.fresh hp
  have J : Inv X pins σ (upd H p (.lst ((srtS l).map V.str))) { s with heap := s'.heap, gens := s'.gens, drawn := s'.drawn, toks := s'.toks } :=
    I.call (ch := []) (Un.laid k hp fr) (I.hok.laid k hp ⟨ln, out, c, vals_of_strs hi, hg⟩) (by rw [g]; exact I.bare) (fun _ z => nomatch z)
  have e : s' = { s with heap := s'.heap, gens := s'.gens, drawn := s'.drawn, toks := s'.toks } := by
    obtain ⟨h1, g1, d1, t1, o1⟩ := s'
    obtain rfl : o1 = s.os := o
    rfl
  rw [e]
  exact ⟨.ref p, _, J, rfl, q p _ fr (same_new fr) upd_same⟩
end
end EE

/-! Own layer: a dict locked while it is walked; what is walked, in one form; comprehensions of lists and of dicts over anything. -/
namespace EE
open PySem PySem.Spec PyProof.Rows L2
section
variable {K : PySem.W.Frag} {σ : L2.St} {H : Hp} {Q : VK} {g : TG} {tt : TT} {te tk tv td : TE} {vs : List Nat} {d : Addr} {kvs : List (Key × V)} {t : TE} {ts : TS}
/-- what is asked where the lock ends -/
def LockK (d : Addr) (od : Obj) (u : HO) (Q : VK) : VK := fun v H' => H' d = some (.frz od u) ∧ Q v (upd H' d u)
def LockS (d : Addr) (od : Obj) (u : HO) (D : Ends) : Ends := ⟨fun σ' H' => H' d = some (.frz od u) ∧ D.nx σ' (upd H' d u), fun v H' => H' d = some (.frz od u) ∧ D.rt v (upd H' d u), fun σ' H' => H' d = some (.frz od u) ∧ D.bk σ' (upd H' d u), fun σ' H' => H' d = some (.frz od u) ∧ D.ct σ' (upd H' d u)⟩
theorem lock_at (h : H d = some (.dK kvs)) (q : ∀ od H1, But d H H1 → H1 d = some (.frz od (.dK kvs)) → t σ H1 (LockK d od (.dK kvs) Q)) : tLockE t σ H Q :=
  ⟨d, _, h, trivial, fun od => q od _ but_upd upd_same⟩
theorem lockS_at {D : Ends} (h : H d = some (.dK kvs)) (q : ∀ od H1, But d H H1 → H1 d = some (.frz od (.dK kvs)) → ts (LockS d od (.dK kvs) D) σ H1) : tLock ts D σ H :=
  ⟨d, _, h, trivial, fun od => q od _ but_upd upd_same⟩
theorem back_same {od : Obj} {H1 H' : Hp} (h : H d = some (.dK kvs)) (b : But d H H1) (s : Same H1 H') : Same H (upd H' d (.dK kvs)) := fun a o e => by
  by_cases c : a = d
  · subst c
    rw [h] at e
    rw [upd_same]; exact e
  · rw [upd_ne c]
    exact s _ _ (b _ _ c e)
/-- the lock's end: what was made stays, the dict is as before -/
theorem unlock {od : Obj} {H1 H' : Hp} {v : V} (h : H d = some (.dK kvs)) (b : But d H H1) (h1 : H1 d = some (.frz od (.dK kvs))) (s : Same H1 H') (q : ∀ H2, Same H H2 → But d H' H2 → Q v H2) : LockK d od (.dK kvs) Q v H' :=
  ⟨s _ _ h1, q _ (back_same (od := od) h b s) but_upd⟩
def ValsAt (R : It → Hp → Prop) (x : V) (H1 : Hp) : Prop := ∃ d o kvs, x = .ref d ∧ H1 d = some (.frz o (.dK kvs)) ∧ R (Itd d o kvs) H1
def ItemsAt (R : It → Hp → Prop) (x : V) (H1 : Hp) : Prop := ∃ d o kvs, x = .ref d ∧ H1 d = some (.frz o (.dK kvs)) ∧ R (Iti d o kvs) H1
def KeysAt (R : It → Hp → Prop) (x : V) (H1 : Hp) : Prop := ∃ d o, x = .ref d ∧ ((∃ kvs, H1 d = some (.frz o (.dK kvs)) ∧ R (Itk d o kvs) H1) ∨ ∃ kvs, H1 d = some (.frz o (.dT kvs)) ∧ R (Itkt d o kvs) H1)
theorem rd_iVals {R : It → Hp → Prop} (h : td σ H fun x H1 => ValsAt R x H1) : iVals td σ H R := h
theorem rd_iItems {R : It → Hp → Prop} (h : td σ H fun x H1 => ItemsAt R x H1) : iItems td σ H R := h
theorem rd_iKeys {R : It → Hp → Prop} (h : td σ H fun x H1 => KeysAt R x H1) : iKeys td σ H R := h
theorem vals_at {R : It → Hp → Prop} {o : Obj} (h : H d = some (.frz o (.dK kvs))) (q : R (Itd d o kvs) H) : ValsAt R (.ref d) H := ⟨d, o, kvs, rfl, h, q⟩
theorem items_at {R : It → Hp → Prop} {o : Obj} (h : H d = some (.frz o (.dK kvs))) (q : R (Iti d o kvs) H) : ItemsAt R (.ref d) H := ⟨d, o, kvs, rfl, h, q⟩
theorem keys_at {R : It → Hp → Prop} {o : Obj} (h : H d = some (.frz o (.dK kvs))) (q : R (Itk d o kvs) H) : KeysAt R (.ref d) H := ⟨d, o, rfl, .inl ⟨kvs, h, q⟩⟩
end
/-- what J walks is l, as long as Ok; Y: what an item of l gives -/
structure ItW {α : Type} (J : It) (l : List α) (Ok : Hp → Prop) (Y : α → V → Hp → Hp → Prop) : Prop where
  go : ∀ {i H}, Ok H → i < l.length → J.go i H
  stop : ∀ {i H}, Ok H → l.length ≤ i → J.stop i H
  yld : ∀ {i H x H'}, Ok H → i < l.length → J.yld i H x H' → ∃ a, l[i]? = some a ∧ Y a x H H'
/-- an item is a value as it stands -/
def YV {α : Type} (f : α → V) : α → V → Hp → Hp → Prop := fun a x H H' => x = f a ∧ H' = H
theorem itw_list {K : PySem.W.Frag} {a : Addr} {xs : List V} : ItW (Itl K a) xs (fun H => SqL K H a xs) (YV id) := ⟨fun {i H} h c => ⟨xs, xs[i], h, by simp [c]⟩, fun {i H} h c => ⟨xs, h, c⟩, fun {i H x H'} h _ ⟨e, y⟩ => ⟨x, y xs h, rfl, e⟩⟩
theorem itw_tup {K : PySem.W.Frag} {a : Addr} {xs : List V} : ItW (Itt K a) xs (fun H => SqT K H a xs) (YV id) := ⟨fun {i H} h c => ⟨xs, xs[i], h, by simp [c]⟩, fun {i H} h c => ⟨xs, h, c⟩, fun {i H x H'} h _ ⟨e, y⟩ => ⟨x, y xs h, rfl, e⟩⟩
theorem itw_vals {d : Addr} {o : Obj} {kvs : List (Key × V)} : ItW (Itd d o kvs) kvs (fun H => H d = some (.frz o (.dK kvs))) (YV fun p => p.2) := ⟨fun h c => ⟨h, c⟩, fun h c => ⟨h, c⟩, fun _ _ ⟨e, k, y⟩ => ⟨_, y, rfl, e⟩⟩
theorem itw_keys {d : Addr} {o : Obj} {kvs : List (Key × V)} : ItW (Itk d o kvs) kvs (fun H => H d = some (.frz o (.dK kvs))) (YV fun p => kV p.1) := ⟨fun h c => ⟨h, c⟩, fun h c => ⟨h, c⟩, fun _ _ ⟨e, k, v, y, z⟩ => ⟨_, y, z, e⟩⟩
def YItem : Key × V → V → Hp → Hp → Prop := fun p x H H' => ∃ T, x = .ref T ∧ H T = none ∧ H' = upd H T (.tup [kV p.1, p.2])
theorem itw_items {d : Addr} {o : Obj} {kvs : List (Key × V)} : ItW (Iti d o kvs) kvs (fun H => H d = some (.frz o (.dK kvs))) YItem := ⟨fun h c => ⟨h, c⟩, fun h c => ⟨h, c⟩, fun _ _ ⟨T, k, v, y, z, n, e⟩ => ⟨_, y, T, z, n, e⟩⟩
theorem itw_str {x : Str} : ItW (Its x) x.cps.toList (fun _ => True) (YV fun c => .str ⟨#[c]⟩) :=
  ⟨fun {i H} _ c => by rw [Array.length_toList] at c; exact c, fun {i H} _ c => by rw [Array.length_toList] at c; exact c, fun {i H y H'} _ _ q => by
    obtain ⟨e, c, hc, r⟩ := q
    exact ⟨c, by rw [Array.getElem?_toList]; exact hc, r, e⟩⟩
theorem itw_range {lo : Int} {n : Nat} : ItW (Itr lo n) (List.range n) (fun _ => True) (YV fun i => .int (lo + (i : Nat))) :=
  ⟨fun {i H} _ c => by rw [List.length_range] at c; exact c, fun {i H} _ c => by rw [List.length_range] at c; exact c, fun {i H y H'} _ c q => ⟨i, by rw [List.length_range] at c; exact List.getElem?_range c, q.2, q.1⟩⟩
section
variable {K : PySem.W.Frag} {σ : L2.St} {H : Hp} {Q : VK} {g : TG} {tt : TT} {te tk tv : TE} {vs : List Nat} {α : Type} {l : List α} {J : It} {Ok : Hp → Prop} {Y : α → V → Hp → Hp → Prop}
/-- a list comprehension over anything, Pv what holds of the new list and the turn -/
theorem lc_any (W : ItW J l Ok Y) (Pv : Addr → Nat → Hp → Prop) (ok : ∀ D i H', H D = none → Pv D i H' → Ok H') (h0 : ∀ D, H D = none → Pv D 0 (upd H D (.lst [])))
    (hs : ∀ D i a x H1 H2, H D = none → l[i]? = some a → Pv D i H1 → Y a x H1 H2 → g x (wipe σ vs) H2 fun σ2 H2 => wipe σ2 vs = wipe σ vs ∧ tt σ2 H2 fun b H3 =>
      if b = true then te σ2 H3 fun y H4 => ∃ acc, H4 D = some (.lst acc) ∧ acc.length < sizeLine ∧ Pv D (i + 1) (upd H4 D (.lst (acc ++ [y]))) else Pv D (i + 1) H3)
    (hd : ∀ D H', H D = none → Pv D l.length H' → Q (.ref D) H') : LcAt g tt te vs σ Q J H := fun D hD => by
  refine ⟨fun i m H => m = l.length - i ∧ i ≤ l.length ∧ Pv D i H, ⟨l.length, by simp, Nat.zero_le _, h0 D hD⟩, ?_⟩
  rintro i m H1 ⟨rfl, hi, p⟩
  have o := ok D i H1 hD p
  by_cases c : i < l.length
  · refine .inr ⟨W.go o c, Pv D (i + 1), fun H' p' => ⟨l.length - (i + 1), by omega, rfl, c, p'⟩, fun x H' y => ?_⟩
    obtain ⟨a, ha, y⟩ := W.yld o c y
    exact hs D i a x H1 H' hD ha p y
  · obtain rfl : i = l.length := by omega
    exact .inl ⟨W.stop o (Nat.le_refl _), hd D H1 hD p⟩
/-- .. each item gives a value or none -/
theorem lcF_any (W : ItW J l Ok Y) (F : α → Option V) (ok : ∀ H', Same H H' → Ok H') (hs : ∀ D i a x H1 H2, H D = none → l[i]? = some a → LcI l F D H i H1 → Y a x H1 H2 → g x (wipe σ vs) H2 fun σ2 H2 => wipe σ2 vs = wipe σ vs ∧ tt σ2 H2 fun b H3 =>
      if b = true then te σ2 H3 fun y H4 => ∃ acc, H4 D = some (.lst acc) ∧ acc.length < sizeLine ∧ LcI l F D H (i + 1) (upd H4 D (.lst (acc ++ [y]))) else LcI l F D H (i + 1) H3)
    (hd : ∀ D H', H D = none → Same H H' → H' D = some (.lst (l.filterMap F)) → Q (.ref D) H') : LcAt g tt te vs σ Q J H :=
  lc_any W (fun D i H' => LcI l F D H i H') (fun D i H' _ I => ok H' I.same) (fun D hD => LcI.zero hD) hs fun D H' hD I => hd D H' hD I.same I.done
def DcAt (g : TG) (tt : TT) (tk tv : TE) (vs : List Nat) (σ : L2.St) (Q : VK) (J : It) (H1 : Hp) : Prop := ∀ D, H1 D = none → ∃ W : Nat → Nat → Hp → Prop, (∃ m, W 0 m (upd H1 D (.dK []))) ∧ ∀ i m H, W i m H →
  (J.stop i H ∧ Q (.ref D) H) ∨ (J.go i H ∧ ∃ Nx : Hp → Prop, (∀ H', Nx H' → ∃ m', m' < m ∧ W (i + 1) m' H') ∧ ∀ x H', J.yld i H x H' → g x (wipe σ vs) H' fun σ2 H2 => wipe σ2 vs = wipe σ vs ∧ tt σ2 H2 fun b H3 =>
    if b = true then tk σ2 H3 fun y H4 => tv σ2 H4 fun z H5 => ∃ kvs k, y = kV k ∧ H5 D = some (.dK kvs) ∧ kvs.length < sizeLine ∧ Nx (upd H5 D (.dK (putK kvs k z))) else Nx H3)
theorem rd_dc {wi : TI} (h : wi σ H (DcAt g tt tk tv vs σ Q)) : tDc wi g tt tk tv vs σ H Q := h
theorem dc_any (W : ItW J l Ok Y) (Pv : Addr → Nat → Hp → Prop) (ok : ∀ D i H', H D = none → Pv D i H' → Ok H') (h0 : ∀ D, H D = none → Pv D 0 (upd H D (.dK [])))
    (hs : ∀ D i a x H1 H2, H D = none → l[i]? = some a → Pv D i H1 → Y a x H1 H2 → g x (wipe σ vs) H2 fun σ2 H2 => wipe σ2 vs = wipe σ vs ∧ tt σ2 H2 fun b H3 =>
      if b = true then tk σ2 H3 fun y H4 => tv σ2 H4 fun z H5 => ∃ kvs k, y = kV k ∧ H5 D = some (.dK kvs) ∧ kvs.length < sizeLine ∧ Pv D (i + 1) (upd H5 D (.dK (putK kvs k z))) else Pv D (i + 1) H3)
    (hd : ∀ D H', H D = none → Pv D l.length H' → Q (.ref D) H') : DcAt g tt tk tv vs σ Q J H := fun D hD => by
  refine ⟨fun i m H => m = l.length - i ∧ i ≤ l.length ∧ Pv D i H, ⟨l.length, by simp, Nat.zero_le _, h0 D hD⟩, ?_⟩
  rintro i m H1 ⟨rfl, hi, p⟩
  have o := ok D i H1 hD p
  by_cases c : i < l.length
  · refine .inr ⟨W.go o c, Pv D (i + 1), fun H' p' => ⟨l.length - (i + 1), by omega, rfl, c, p'⟩, fun x H' y => ?_⟩
    obtain ⟨a, ha, y⟩ := W.yld o c y
    exact hs D i a x H1 H' hD ha p y
  · obtain rfl : i = l.length := by omega
    exact .inl ⟨W.stop o (Nat.le_refl _), hd D H1 hD p⟩
/-- what a dict comprehension has made so far -/
structure DcI {α : Type} (l : List α) (F : α → Option (Key × V)) (D : Addr) (H0 : Hp) (i : Nat) (H : Hp) : Prop where
  same : Same H0 H
  at_ : H D = some (.dK (mergeK [] ((l.take i).filterMap F)))
theorem DcI.zero {α : Type} {l : List α} {F : α → Option (Key × V)} {D : Addr} {H0 : Hp} (hD : H0 D = none) : DcI l F D H0 0 (upd H0 D (.dK [])) := ⟨same_new hD, upd_same⟩
theorem len_mergeK (more : List (Key × V)) : ∀ kvs : List (Key × V), (mergeK kvs more).length ≤ kvs.length + more.length := by
  induction more with
  | nil => exact fun kvs => Nat.le_refl _
  | cons p r ih => intro kvs; have h := ih (putK kvs p.1 p.2); have := length_putK kvs p.1 p.2; show (mergeK (putK kvs p.1 p.2) r).length ≤ _; rw [List.length_cons]; omega
theorem DcI.some {α : Type} {l : List α} {F : α → Option (Key × V)} {D : Addr} {H0 H H4 : Hp} {i : Nat} {a : α} {k : Key} {z y : V} (I : DcI l F D H0 i H) (hD : H0 D = none) (hi : l[i]? = some a) (hF : F a = some (k, z)) (s : Same H H4) (hl : l.length ≤ 1000000) (hy : y = kV k) :
    ∃ kvs k, y = kV k ∧ H4 D = some (.dK kvs) ∧ kvs.length < sizeLine ∧ DcI l F D H0 (i + 1) (upd H4 D (.dK (putK kvs k z))) := by
  refine ⟨_, k, hy, s _ _ I.at_, ?_, ?_, ?_⟩
  · have h1 := List.length_filterMap_le F (l.take i)
    have h2 : (l.take i).length ≤ l.length := by rw [List.length_take]; exact Nat.min_le_right _ _
    have h3 := len_mergeK ((l.take i).filterMap F) []
    have : (sizeLine : Nat) = 16777216 := by decide
    rw [List.length_nil] at h3
    omega
  · intro b o e
    rw [upd_ne (ne_of_none e hD)]
    exact s _ _ (I.same _ _ e)
  · rw [upd_same, List.take_add_one, hi, List.filterMap_append]
    unfold mergeK
    rw [List.foldl_append]
    simp [hF]
theorem DcI.none {α : Type} {l : List α} {F : α → Option (Key × V)} {D : Addr} {H0 H H4 : Hp} {i : Nat} {a : α} (I : DcI l F D H0 i H) (hi : l[i]? = .some a) (hF : F a = .none) (s : Same H H4) : DcI l F D H0 (i + 1) H4 := by
  refine ⟨fun b o e => s _ _ (I.same _ _ e), ?_⟩
  rw [s _ _ I.at_, List.take_add_one, hi, List.filterMap_append]
  simp [hF]
theorem dcF_any (W : ItW J l Ok Y) (F : α → Option (Key × V)) (ok : ∀ H', Same H H' → Ok H') (hs : ∀ D i a x H1 H2, H D = none → l[i]? = some a → DcI l F D H i H1 → Y a x H1 H2 → g x (wipe σ vs) H2 fun σ2 H2 => wipe σ2 vs = wipe σ vs ∧ tt σ2 H2 fun b H3 =>
      if b = true then tk σ2 H3 fun y H4 => tv σ2 H4 fun z H5 => ∃ kvs k, y = kV k ∧ H5 D = some (.dK kvs) ∧ kvs.length < sizeLine ∧ DcI l F D H (i + 1) (upd H5 D (.dK (putK kvs k z))) else DcI l F D H (i + 1) H3)
    (hd : ∀ D H', H D = none → Same H H' → H' D = some (.dK (mergeK [] (l.filterMap F))) → Q (.ref D) H') : DcAt g tt tk tv vs σ Q J H :=
  dc_any W (fun D i H' => DcI l F D H i H') (fun D i H' _ I => ok H' I.same) (fun D hD => DcI.zero hD) hs fun D H' hD I => hd D H' hD I.same (by have e := I.at_; rw [List.take_length] at e; exact e)
/-- a for loop over anything, Pv what holds of the turn, the slots and the heap -/
theorem for_any {tb : TS} {D : Ends} (W : ItW J l Ok Y) (Pv : Nat → L2.St → Hp → Prop) (ok : ∀ i σ H', Pv i σ H' → Ok H') (h0 : Pv 0 σ H)
    (hs : ∀ i a x σ1 H1 H2, l[i]? = some a → Pv i σ1 H1 → Y a x H1 H2 → g x σ1 H2 fun σ2 H3 => tb ⟨Pv (i + 1), D.rt, D.nx, Pv (i + 1)⟩ σ2 H3) (hd : ∀ σ1 H1, Pv l.length σ1 H1 → D.nx σ1 H1) : ForAt g tb D σ J H := by
  refine ⟨fun i m σ H => m = l.length - i ∧ i ≤ l.length ∧ Pv i σ H, ⟨l.length, by simp, Nat.zero_le _, h0⟩, ?_⟩
  rintro i m σ1 H1 ⟨rfl, hi, p⟩
  have o := ok i σ1 H1 p
  by_cases c : i < l.length
  · refine .inr ⟨W.go o c, Pv (i + 1), fun σ' H' p' => ⟨l.length - (i + 1), by omega, rfl, c, p'⟩, fun x H' y => ?_⟩
    obtain ⟨a, ha, y⟩ := W.yld o c y
    exact hs i a x σ1 H1 H' ha p y
  · obtain rfl : i = l.length := by omega
    exact .inl ⟨W.stop o (Nat.le_refl _), hd σ1 H1 p⟩
end
end EE

/-! Own layer: tuple(d), bool(d), list(d), sorted(d), d == e of dicts of texts. -/
namespace EE
open PySem PySem.Spec PyProof.Rows L2
section
variable {prog : Program} {w : World} {A : Around} {E : Value → Shared → Prop} {s : Shared} {κ : Type} [DecidableEq κ] {knd : KeyKind prog w κ} {d : Addr} {kvs : List (κ × Value)} {ep : Nat}
/-- bool(d) -/
theorem call_bool_dict {Q : Value → Shared → Prop} (lo : (d == sysModules) = false) (hd : s.heap.DictOf knd d kvs) (hf : (kvs.length : Int) < 2 ^ 63) (h : ∀ t, Q (.bool (!kvs.isEmpty)) { s with toks := t }) : wpAny (model prog w) A (call (.type "bool") [.ref d]) Q E s := by
  refine callType_codes (Q₁ := fun v t => (∃ b, v = .bool b) ∧ Q v t) PySem.F.called_bool (PySem.F.typeCall_bool_1 _) PySem.F.entry_object_init (codeAny_of_tree ?_) fun obj s1 h1 => ?_
  · show wpAny _ A.in1.in1 (do checkBuiltinCall "bool.__new__" ⟨[.type "bool", .ref d], []⟩; again (.builtin "bool.__new__" ⟨[.type "bool", .ref d], []⟩)) _ _ s
    refine wpAny_bind (wpAny_of_eq (PySem.F.newCall_bool_1 _) (wpAny_pure ⟨plainId_quiet (by decide +kernel) _, codeAny_builtin PySem.F.entry_bool_new ?_⟩))
    rw [Around.under_plainId (by decide +kernel) _]
    obtain ⟨hp, g, dd, tk, os⟩ := s
    have f1 := PySem.F.conv_sub_bool
    (repeat (any_goals (first | assumption | (with_reducible refine wpAny_truthy_dict lo hd hf ?_) | wp_step)))
    all_goals exact ⟨⟨_, rfl⟩, h _⟩
  · obtain ⟨⟨b, rfl⟩, q⟩ := h1
    exact ⟨rfl, PySem.F.args_object_init_2 _ _, object_init_meets PySem.F.called_bool.init.lookup PySem.F.called_bool.made (by decide) prog w _ _ s1 ⟨rfl, rfl, q⟩⟩
/-- tuple(d) -/
theorem call_tuple_dict {Q : Value → Shared → Prop} (lo : (d == sysModules) = false) (hh : A.handled = none) (hd : s.heap.DictAt knd d kvs ep) (hz : kvs.length ≤ sizeLine)
    (hQ : ∀ (h' : Heap) (tk : Nat) (acc : Array Value), (∀ b o, s.heap.get? b = some o → h'.get? b = some o) → ItemsOf (fun i v => ∃ k x, kvs[i]? = some (k, x) ∧ knd.is k v = true) acc kvs.length → Q (.ref h'.objs.size) { s with heap := h'.push { cls := .type "tuple", data := .seq acc }, toks := tk }) :
    wpAny (model prog w) A (call (.type "tuple") [.ref d]) Q E s := by
  refine callType_codes (Q₁ := fun obj t => t.TypeIs obj "tuple" ∧ Q obj t) PySem.F.called_tuple (PySem.F.typeCall_tuple_1 _) PySem.F.entry_object_init (codeAny_of_tree ?_) fun obj s1 h1 => ?_
  · show wpAny _ A.in1.in1 (do checkBuiltinCall "tuple.__new__" ⟨[.type "tuple", .ref d], []⟩; again (.builtin "tuple.__new__" ⟨[.type "tuple", .ref d], []⟩)) _ _ s
    refine wpAny_bind (wpAny_of_eq (PySem.F.newCall_tuple_1 _) (wpAny_pure ⟨plainId_quiet PySem.F.plain_tuple_new _, codeAny_builtin PySem.F.entry_tuple_new ?_⟩))
    rw [Around.under_plainId PySem.F.plain_tuple_new _]
    have e1 := sub_tuple_self; have e2 := init_tuple_lookup; have e3 := madeHere_tuple
    have hT := hd.dictOf.typeIs (s := s)
    wp_walk using wpAny_typeOf hT, PySem.W.kdu_collect (A := A.in1.in1) (PySem.W.kdl_dict (knd := knd) (kvs := kvs) (ep := ep) lo) (show A.in1.in1.handled = none from hh) hd hz
    intro h' tk acc k hacc
    show wpAny _ _ (Builtin.Tuple.tupleExact acc.toList.toArray >>= fun v => ret v) _ _ _
    unfold Builtin.Tuple.tupleExact
    have e : acc.toList.toArray = acc := by simp
    rw [e]
    refine wpAny_bind (wpAny_newObj_type ?_ (by show acc.size ≤ sizeLine; rw [hacc.1]; exact hz))
    exact wpAny_pure ⟨⟨_, Heap.get?_push_size _ rfl, rfl⟩, hQ h' tk acc k hacc⟩
  · exact ⟨h1.1, PySem.F.args_object_init_2 obj _, object_init_meets PySem.F.called_tuple.init.lookup PySem.F.called_tuple.made (by decide) prog w A.in1 _ s1 ⟨h1.1, rfl, h1.2⟩⟩
end
section
variable {X : Cx}
def rBoolD : List V → Hp → VK → Prop := fun xs H Q => ∃ (a : Addr) (kvs : List (Key × V)), xs = [.ref a] ∧ Rd H a (.dK kvs) ∧ Q (.bl (!kvs.isEmpty)) H
theorem cr_boolD : CallR X (.type "bool") rBoolD := by
  intro pins s σ H xs us Q I r h
  obtain ⟨a, kvs, rfl, hd, q⟩ := h
  rw [Vals.ref1 r]
  obtain ⟨z, lo, vs, rel, dd⟩ := dk_rd I.hok hd
  have e : vs.isEmpty = kvs.isEmpty := by
    have := rel.length
    cases vs <;> cases kvs <;> first | rfl | (simp at this)
  refine call_bool_dict lo dd (by rw [← rel.length]; rw [sizeLine_eq] at z; omega) fun t => ?_
  rw [e]
  exact ⟨.bl _, H, I.tok _, rfl, q⟩
def rTupD : List V → Hp → VK → Prop := fun xs H Q => ∃ (a : Addr) (kvs : List (Key × V)), xs = [.ref a] ∧ Rd H a (.dK kvs) ∧ ∀ p H', H p = none → Same H H' → H' p = some (.tup (kvs.map fun kv => kV kv.1)) → Q (.ref p) H'
theorem cr_tupD (hc : X.calm = true) : CallR X (.type "tuple") rTupD := by
  intro pins s σ H xs us Q I r h
  obtain ⟨a, kvs, rfl, hd, q⟩ := h
  rw [Vals.ref1 r]
  obtain ⟨z, lo, vs, rel, dd⟩ := dk_rd I.hok hd
  obtain ⟨ep, hat⟩ := dd.dictAt
  have ek : (kvs.map fun kv => kV kv.1) = vs.map fun p => kV p.1 := by
    have e := congrArg (List.map kV) rel.keys
    rw [List.map_map, List.map_map] at e
    exact e
  refine call_tuple_dict lo (I.ok.hd hc) hat (by rw [← rel.length]; exact z) fun h' tk acc k hacc => ?_
  have hv : Vals (vs.map fun p => kV p.1) acc.toList := L2.keys_at (by rw [Array.length_toList]; exact hacc.1) fun j v e => hacc.2 j v (by rw [← Array.getElem?_toList]; exact e)
  have I1 : Inv X pins σ H { s with heap := h', toks := tk } := I.kept k
  have fr : H h'.objs.size = none := I1.hok.fresh (Nat.le_refl _)
  refine ⟨.ref h'.objs.size, upd H h'.objs.size (.tup (kvs.map fun kv => kV kv.1)), I1.laid (t' := tk) (fun b o e => Heap.get?_push_of_some _ e) (Nat.le_refl _) (show ObjOk X.prog X.w _ _ _ (.tup _) from ⟨by rw [List.length_map]; exact z, acc.toList, by rw [ek]; exact hv, ?_⟩), rfl, q _ _ fr (same_new fr) upd_same⟩
  rw [Array.toArray_toList]; exact IsTup.new _ _
def rListD : List V → Hp → VK → Prop := fun xs H Q => ∃ (a : Addr) (kvs : List (Key × V)), xs = [.ref a] ∧ Rd H a (.dK kvs) ∧ ∀ p, H p = none → Q (.ref p) (upd H p (.lst (kvs.map fun kv => kV kv.1)))
theorem cr_listD (hc : X.calm = true) : CallR X (.type "list") rListD := call_listD hc
def rSortD : List V → Hp → VK → Prop := fun xs H Q => ∃ (a : Addr) (kvs : List (Key × V)) (ks : List Str), xs = [.ref a] ∧ Rd H a (.dK kvs) ∧ kvs.map (·.1) = ks.map Sum.inr ∧ ks.length < 64 ∧ ∀ ys p, ys.Perm ks → sortedS ys = true → H p = none → Q (.ref p) (upd H p (.lst (ys.map V.str)))
theorem cr_sortD (hc : X.calm = true) : CallR X (.builtin "sorted") rSortD := call_sortedD hc
/-! d == e, the values ints -/
def dEq (ks ls : List (Key × V)) : Bool := ks.length == ls.length && ks.all fun p => decide (valV ls p.1 = some p.2)
def intVs (ks : List (Key × V)) : Prop := ∀ p ∈ ks, ∃ i : Int, p.2 = .int i
theorem hits_ints {A : Around} {s : Shared} {ls : List (Key × V)} {vb : List (Key × Value)} (rb : KV ls vb) (hi : intVs ls) : ∀ {ks : List (Key × V)} {va : List (Key × Value)}, KV ks va → intVs ks → PySem.W.KeqHits A s vb va (ks.all fun p => decide (valV ls p.1 = some p.2)) := by
  intro ks va ra
  unfold KV at ra
  induction ra with
  | nil => exact fun _ => .nil
  | @cons p q ps qs h t ih =>
    intro hk
    obtain ⟨h1, h2⟩ := h
    obtain ⟨k, v⟩ := q
    obtain rfl : p.1 = k := h1
    obtain ⟨i, hp⟩ := hk p List.mem_cons_self
    rw [hp] at h2
    obtain ⟨tk, hv⟩ : ∃ t, v = Value.int i t := h2
    subst hv
    have rr := rb.val p.1
    rw [List.all_cons, hp]
    cases c : valV ls p.1 with
    | none =>
      rw [c] at rr
      rw [decide_eq_false (by simp), Bool.false_and]
      refine .miss ?_
      revert rr
      cases valueAt vb p.1 <;> intro rr
      · rfl
      · exact rr.elim
    | some y =>
      rw [c] at rr
      obtain ⟨u, hu, ru⟩ := rr.some_of
      have : ∃ j : Int, y = .int j := by
        unfold valV at c
        obtain ⟨kv, h1, h2⟩ := Option.map_eq_some_iff.mp c
        obtain ⟨j, e⟩ := hi kv (List.mem_of_find?_eq_some h1)
        exact ⟨j, by rw [← h2, e]⟩
      obtain ⟨j, rfl⟩ := this
      obtain ⟨tj, rfl⟩ : ∃ t, u = Value.int j t := ru
      have he := SeqAt.EqAt.int_int (A := A) (s := s) i tk j tj
      have hq : (i == j) = true ↔ i = j := by simp
      generalize (i == j) = e at he hq
      have e2 : decide (some (V.int j) = some (V.int i)) = e := by
        have : (some (V.int j) = some (V.int i)) ↔ e = true := by rw [hq]; simp [eq_comm]
        by_cases z : e = true
        · rw [z]; exact decide_eq_true (this.mpr z)
        · rw [decide_eq_false fun y => z (this.mp y)]; simpa using z
      rw [e2]
      exact .hit hu he (ih fun p' hm => hk p' (List.mem_cons_of_mem _ hm))
def rEqDI : R2 := fun x y H Q => ∃ a b ks ls, x = .ref a ∧ y = .ref b ∧ H a = some (.dK ks) ∧ H b = some (.dK ls) ∧ intVs ks ∧ intVs ls ∧ Q (.bl (dEq ks ls)) H
theorem or_eqDI (hu : X.A.units < cLine) : OpR X (compareOp .Eq) rEqDI := by
  intro pins s σ H x y v u Q I rx ry h
  obtain ⟨a, b, ks, ls, rfl, rfl, ea, eb, ia, ib, q⟩ := h
  obtain rfl : v = Value.ref a := rx
  obtain rfl : u = Value.ref b := ry
  obtain ⟨_, ya, va, ra, da⟩ := (show ObjOk X.prog X.w H s.heap a (.dK ks) from I.hok a _ ea)
  obtain ⟨_, yb, vb, rb, db⟩ := (show ObjOk X.prog X.w H s.heap b (.dK ls) from I.hok b _ eb)
  refine PySem.W.keq_eq (knd := mixKind X.prog X.w) ya yb da db hu (fun _ => hits_ints rb ib ra ia) ?_
  exact ⟨.bl (dEq ks ls), H, I, by rw [← ra.length, ← rb.length]; rfl, q⟩
end
section
variable {H : Hp} {Q : VK} {a b : Addr} {kvs : List (Key × V)} {ps : List (Str × V)}
theorem rd_boolD (h : Rd H a (.dK kvs)) (q : Q (.bl (!kvs.isEmpty)) H) : rBoolD [.ref a] H Q := ⟨a, kvs, rfl, h, q⟩
theorem kw_keys (ps : List (Str × V)) : (kwK ps).map (fun kv => kV kv.1) = (ps.map (·.1)).map V.str := by
  unfold kwK
  rw [List.map_map, List.map_map]; rfl
theorem rd_tupD (h : Rd H a (.dK (kwK ps))) (q : ∀ p H', H p = none → Same H H' → H' p = some (.tup ((ps.map (·.1)).map V.str)) → Q (.ref p) H') : rTupD [.ref a] H Q := ⟨a, _, rfl, h, fun p H' n s e => q p H' n s (by rw [e, kw_keys])⟩
theorem rd_listD (h : Rd H a (.dK (kwK ps))) (q : ∀ p H', H p = none → Same H H' → H' p = some (.lst ((ps.map (·.1)).map V.str)) → Q (.ref p) H') : rListD [.ref a] H Q := ⟨a, _, rfl, h, fun p n => q p _ n (same_new n) (by rw [upd_same, kw_keys])⟩
theorem rd_sortD (h : Rd H a (.dK (kwK ps))) (nd : (ps.map (·.1)).Nodup) (hl : ps.length < 64) (q : ∀ p H', H p = none → Same H H' → H' p = some (.lst ((srtS (ps.map (·.1))).map V.str)) → Q (.ref p) H') : rSortD [.ref a] H Q :=
  ⟨a, _, ps.map (·.1), rfl, h, by unfold kwK; rw [List.map_map, List.map_map]; rfl, by rw [List.length_map]; exact hl, fun ys p pm so n => by rw [srtS_eq so pm nd]; exact q p _ n (same_new n) upd_same⟩
end
end EE

/-! Own layer: names; vectors as ascending lists of names and numbers. -/
namespace EE
open PySem PySem.Spec PyProof.Rows L2
def lets : Str := "abcdefghijklmnopqrstuvwxyz"
def nameS (z : Str) : Bool := decide (1 ≤ z.length ∧ z.length ≤ 8 ∧ z ≠ "self") && z.cps.toList.all (fun c => decide (c ∈ lets.cps.toList))
theorem nameS_bound {z : Str} (h : nameS z = true) : z.length ≤ 8 ∧ Asc z := by
  unfold nameS at h
  obtain ⟨h1, h2⟩ := Bool.and_eq_true_iff.mp h
  refine ⟨(of_decide_eq_true h1).2.1, fun c hc => ?_⟩
  have q := of_decide_eq_true (List.all_eq_true.mp h2 c (by first | exact hc | simpa using hc))
  have e : ∀ c ∈ lets.cps.toList, c < 128 := by decide +kernel
  first | exact e c q | (have := e c q; omega)
theorem nameS_self {z : Str} (h : nameS z = true) : z ≠ "self" := (of_decide_eq_true (Bool.and_eq_true_iff.mp h).1).2.2
/-- a dict of names and integers -/
def intB (ps : List (Str × Int)) : List (Str × V) := ps.map fun p => (p.1, .int p.2)
theorem keys_intB (ps : List (Str × Int)) : (intB ps).map (·.1) = ps.map (·.1) := by
  unfold intB
  rw [List.map_map]; rfl
def GoodB (ps : List (Str × Int)) : Prop := (∀ p ∈ ps, nameS p.1 = true) ∧ (ps.map (·.1)).Nodup ∧ ps.length ≤ 60
theorem GoodB.names {ps : List (Str × Int)} (h : GoodB ps) : NamesOk (intB ps) := by
  refine ⟨fun p hp => ?_, by rw [keys_intB]; exact h.2.1, by rw [intB, List.length_map]; exact Nat.le_trans h.2.2 (by decide)⟩
  obtain ⟨q, hq, rfl⟩ := List.mem_map.mp hp
  exact nameS_self (h.1 q hq)
/-! ### numbers by names -/
def getV (ps : List (Str × Int)) (n : Str) : Int := (ps.lookup n).getD 0
def vec (ns : List Str) (f : Str → Int) : List (Str × Int) := (srtS ns).filterMap fun n => if f n = 0 then none else some (n, f n)
structure Good (ps : List (Str × Int)) : Prop where
  s : Srt (ps.map (·.1))
  z : ∀ p ∈ ps, p.2 ≠ 0
theorem lookup_none {α : Type} {n : Str} : ∀ {ps : List (Str × α)}, n ∉ ps.map (·.1) → ps.lookup n = none
  | [], _ => rfl
  | p :: ps, h => by
    rw [List.map_cons, List.mem_cons, not_or] at h
    have e : (n == p.1) = false := beq_eq_false_iff_ne.mpr h.1
    rw [List.lookup_cons, e]
    exact lookup_none h.2
theorem lookup_mem {α : Type} {n : Str} {i : α} : ∀ {ps : List (Str × α)}, (ps.map (·.1)).Nodup → (n, i) ∈ ps → ps.lookup n = some i
  | p :: ps, nd, h => by
    rw [List.map_cons] at nd
    obtain ⟨n1, n2⟩ := List.nodup_cons.mp nd
    rw [List.lookup_cons]
    rcases List.mem_cons.mp h with e | h
    · subst e
      have e : (n == n) = true := beq_self_eq_true n
      dsimp only
      rw [e]
    · have ne : n ≠ p.1 := fun e => n1 (by rw [← e]; exact List.mem_map.mpr ⟨_, h, rfl⟩)
      have e : (n == p.1) = false := beq_eq_false_iff_ne.mpr ne
      rw [e]
      exact lookup_mem n2 h
theorem mem_of_lookup {α : Type} {n : Str} {i : α} : ∀ {ps : List (Str × α)}, ps.lookup n = some i → (n, i) ∈ ps
  | p :: ps, h => by
    rw [List.lookup_cons] at h
    by_cases c : n = p.1
    · have e : (n == p.1) = true := beq_iff_eq.mpr c
      rw [e] at h
      have := Option.some.inj h
      subst c this
      exact List.mem_cons_self
    · have e : (n == p.1) = false := beq_eq_false_iff_ne.mpr c
      rw [e] at h
      exact List.mem_cons_of_mem _ (mem_of_lookup h)
theorem getV_mem {n : Str} {i : Int} {ps : List (Str × Int)} (nd : (ps.map (·.1)).Nodup) (h : (n, i) ∈ ps) : getV ps n = i := by
  unfold getV; rw [lookup_mem nd h]; rfl
theorem getV_none {n : Str} {ps : List (Str × Int)} (h : n ∉ ps.map (·.1)) : getV ps n = 0 := by
  unfold getV; rw [lookup_none h]; rfl
theorem mem_vec {ns : List Str} {f : Str → Int} {p : Str × Int} : p ∈ vec ns f ↔ p.1 ∈ ns ∧ p.2 = f p.1 ∧ p.2 ≠ 0 := by
  unfold vec
  rw [List.mem_filterMap]
  constructor
  · rintro ⟨n, hn, e⟩
    by_cases c : f n = 0
    · rw [if_pos c] at e; cases e
    · rw [if_neg c] at e; cases e
      exact ⟨mem_srtS.mp hn, rfl, c⟩
  · rintro ⟨h1, h2, h3⟩
    refine ⟨p.1, mem_srtS.mpr h1, ?_⟩
    rw [h2] at h3
    rw [if_neg h3, ← h2]
theorem filterMap_keys {f : Str → Int} : ∀ {l : List Str}, Srt l → Srt ((l.filterMap fun n => if f n = 0 then none else some (n, f n)).map (·.1)) ∧ ∀ z ∈ (l.filterMap fun n => if f n = 0 then none else some (n, f n)).map (·.1), z ∈ l
  | [], _ => ⟨List.Pairwise.nil, fun z h => (by cases h)⟩
  | x :: l, h => by
    obtain ⟨h1, h2⟩ := List.pairwise_cons.mp h
    obtain ⟨i1, i2⟩ := filterMap_keys (f := f) h2
    rw [List.filterMap_cons]
    by_cases c : f x = 0
    · rw [if_pos c]
      exact ⟨i1, fun z hz => List.mem_cons_of_mem _ (i2 z hz)⟩
    · rw [if_neg c]
      dsimp only
      rw [List.map_cons]
      refine ⟨List.pairwise_cons.mpr ⟨fun z hz => h1 z (i2 z hz), i1⟩, fun z hz => ?_⟩
      rcases List.mem_cons.mp hz with e | hz
      · rw [e]; exact List.mem_cons_self
      · exact List.mem_cons_of_mem _ (i2 z hz)
theorem good_vec (ns : List Str) (f : Str → Int) : Good (vec ns f) := ⟨(filterMap_keys (srt_srtS ns)).1, fun p hp => (mem_vec.mp hp).2.2⟩
theorem getV_vec {ns : List Str} {f : Str → Int} (n : Str) : getV (vec ns f) n = if n ∈ ns then f n else 0 := by
  by_cases c : n ∈ ns ∧ f n ≠ 0
  · rw [if_pos c.1]
    exact getV_mem (good_vec ns f).s.nodup (mem_vec.mpr ⟨c.1, rfl, c.2⟩)
  · have h : n ∉ (vec ns f).map (·.1) := fun h => by
      obtain ⟨p, hp, rfl⟩ := List.mem_map.mp h
      obtain ⟨a, b, d⟩ := mem_vec.mp hp
      exact c ⟨a, b ▸ d⟩
    rw [getV_none h]
    by_cases d : n ∈ ns
    · rw [if_pos d]
      by_cases e : f n = 0
      · exact e.symm
      · exact absurd ⟨d, e⟩ c
    · rw [if_neg d]
theorem good_names {ps : List (Str × Int)} (g : Good ps) (n : Str) : n ∈ ps.map (·.1) ↔ getV ps n ≠ 0 := by
  constructor
  · intro h
    obtain ⟨p, hp, rfl⟩ := List.mem_map.mp h
    rw [getV_mem g.s.nodup (i := p.2) hp]
    exact g.z p hp
  · intro h
    by_cases c : n ∈ ps.map (·.1)
    · exact c
    · exact absurd (getV_none c) h
theorem pairs_of {ps : List (Str × Int)} (nd : (ps.map (·.1)).Nodup) : ps = (ps.map (·.1)).map fun n => (n, getV ps n) := by
  rw [List.map_map]
  have : ∀ p ∈ ps, p = ((fun n => (n, getV ps n)) ∘ fun p => p.1) p := fun p hp => by
    show p = (p.1, getV ps p.1)
    rw [getV_mem nd (i := p.2) hp]
  conv => lhs; rw [← List.map_id ps]
  exact List.map_congr_left fun p hp => this p hp
theorem good_ext {ps qs : List (Str × Int)} (a : Good ps) (b : Good qs) (h : ∀ n, getV ps n = getV qs n) : ps = qs := by
  have e : ps.map (·.1) = qs.map (·.1) := srt_ext a.s b.s fun z => by rw [good_names a, good_names b, h z]
  rw [pairs_of a.s.nodup, pairs_of b.s.nodup, e]
  exact List.map_congr_left fun n _ => by rw [h n]
theorem vec_good {ps : List (Str × Int)} (g : Good ps) : vec (ps.map (·.1)) (getV ps) = ps := good_ext (good_vec _ _) g fun n => by
  rw [getV_vec]
  by_cases c : n ∈ ps.map (·.1)
  · rw [if_pos c]
  · rw [if_neg c, getV_none c]
theorem vec_congr {ns ms : List Str} {f g : Str → Int} (h : ∀ n, (if n ∈ ns then f n else 0) = if n ∈ ms then g n else 0) : vec ns f = vec ms g := good_ext (good_vec _ _) (good_vec _ _) fun n => by rw [getV_vec, getV_vec, h n]
theorem vec_len (ns : List Str) (f : Str → Int) : (vec ns f).length ≤ ns.length := Nat.le_trans (List.length_filterMap_le ..) (srtS_len_le ns)
/-- what Vector keeps of a dict -/
def nrm (ps : List (Str × Int)) : List (Str × Int) := vec (ps.map (·.1)) (getV ps)
theorem getV_nrm {ps : List (Str × Int)} (n : Str) : getV (nrm ps) n = getV ps n := by
  unfold nrm
  rw [getV_vec]
  by_cases c : n ∈ ps.map (·.1)
  · rw [if_pos c]
  · rw [if_neg c, getV_none c]
/-- a vector as it is kept: names ascending, at most m, numbers below 2 ^ b -/
structure Vg (m b : Nat) (ps : List (Str × Int)) : Prop where
  g : Good ps
  n : ∀ p ∈ ps, nameS p.1 = true
  l : ps.length ≤ m
  b : ∀ p ∈ ps, p.2.natAbs < 2 ^ b
theorem Vg.mono {m m' b b' : Nat} {ps : List (Str × Int)} (h : Vg m b ps) (hm : m ≤ m') (hb : b ≤ b') : Vg m' b' ps := ⟨h.g, h.n, Nat.le_trans h.l hm, fun p hp => Nat.lt_of_lt_of_le (h.b p hp) (Nat.pow_le_pow_right (by decide) hb)⟩
theorem Vg.goodB {m b : Nat} {ps : List (Str × Int)} (h : Vg m b ps) (hm : m ≤ 60) : GoodB ps := ⟨h.n, h.g.s.nodup, Nat.le_trans h.l hm⟩
theorem getV_bound {m b : Nat} {ps : List (Str × Int)} (h : Vg m b ps) (n : Str) : (getV ps n).natAbs < 2 ^ b := by
  by_cases c : n ∈ ps.map (·.1)
  · obtain ⟨p, hp, rfl⟩ := List.mem_map.mp c
    rw [getV_mem h.g.s.nodup (i := p.2) hp]
    exact h.b p hp
  · rw [getV_none c]
    exact Nat.pow_pos (by decide)
theorem vg_vec {ns : List Str} {f : Str → Int} {m b : Nat} (hn : ∀ n ∈ ns, nameS n = true) (hl : ns.length ≤ m) (hb : ∀ n ∈ ns, (f n).natAbs < 2 ^ b) : Vg m b (vec ns f) :=
  ⟨good_vec ns f, fun p hp => hn _ (mem_vec.mp hp).1, Nat.le_trans (vec_len ns f) hl, fun p hp => by obtain ⟨a, e, _⟩ := mem_vec.mp hp; rw [e]; exact hb _ a⟩
def addV (ps qs : List (Str × Int)) : List (Str × Int) := vec (ps.map (·.1) ++ qs.map (·.1)) fun n => getV ps n + getV qs n
def mulV (ps : List (Str × Int)) (k : Int) : List (Str × Int) := vec (ps.map (·.1)) fun n => getV ps n * k
theorem getV_add {ps qs : List (Str × Int)} (n : Str) : getV (addV ps qs) n = getV ps n + getV qs n := by
  unfold addV
  rw [getV_vec]
  by_cases c : n ∈ ps.map (·.1) ++ qs.map (·.1)
  · rw [if_pos c]
  · rw [List.mem_append, not_or] at c
    rw [if_neg (by rw [List.mem_append, not_or]; exact c), getV_none c.1, getV_none c.2]; rfl
theorem getV_mul {ps : List (Str × Int)} {k : Int} (n : Str) : getV (mulV ps k) n = getV ps n * k := by
  unfold mulV
  rw [getV_vec]
  by_cases c : n ∈ ps.map (·.1)
  · rw [if_pos c]
  · rw [if_neg c, getV_none c, Int.zero_mul]
theorem vg_add {m1 m2 b : Nat} {ps qs : List (Str × Int)} (h1 : Vg m1 b ps) (h2 : Vg m2 b qs) : Vg (m1 + m2) (b + 1) (addV ps qs) := by
  refine vg_vec (fun n hn => ?_) (by rw [List.length_append, List.length_map, List.length_map]; exact Nat.add_le_add h1.l h2.l) fun n _ => ?_
  · rcases List.mem_append.mp hn with h | h
    · obtain ⟨p, hp, rfl⟩ := List.mem_map.mp h; exact h1.n p hp
    · obtain ⟨p, hp, rfl⟩ := List.mem_map.mp h; exact h2.n p hp
  · have a := getV_bound h1 n
    have c := getV_bound h2 n
    rw [Nat.pow_succ]
    omega
theorem vg_mul {m b c : Nat} {ps : List (Str × Int)} {k : Int} (h : Vg m b ps) (hk : k.natAbs < 2 ^ c) : Vg m (b + c) (mulV ps k) := by
  refine vg_vec (fun n hn => ?_) (by rw [List.length_map]; exact h.l) fun n _ => ?_
  · obtain ⟨p, hp, rfl⟩ := List.mem_map.mp hn; exact h.n p hp
  · rw [Int.natAbs_mul, Nat.pow_add]
    exact Nat.mul_lt_mul'' (getV_bound h n) hk
end EE

/-! Own layer: vectors as objects. -/
namespace EE
open PySem PySem.Spec PyProof.Rows L2
/-- a vector at a, its dict at d; Rd: the dict may be locked -/
structure VecRd (C : Addr) (H : Hp) (a d : Addr) (ps : List (Str × Int)) : Prop where
  at_ : ∃ dx, H a = some (.ins C dx [("held", .ref d)])
  held : Rd H d (.dK (kwK (intB ps)))
structure VecAt (C : Addr) (H : Hp) (a d : Addr) (ps : List (Str × Int)) : Prop where
  at_ : ∃ dx, H a = some (.ins C dx [("held", .ref d)])
  held : H d = some (.dK (kwK (intB ps)))
section
variable {C : Addr} {H H' : Hp} {a d : Addr} {ps : List (Str × Int)}
theorem VecAt.rd (h : VecAt C H a d ps) : VecRd C H a d ps := ⟨h.at_, .of h.held⟩
theorem VecAt.keep (h : VecAt C H a d ps) (s : Same H H') : VecAt C H' a d ps := ⟨let ⟨dx, e⟩ := h.at_; ⟨dx, s _ _ e⟩, s _ _ h.held⟩
theorem VecRd.keep (h : VecRd C H a d ps) (s : Same H H') : VecRd C H' a d ps := ⟨let ⟨dx, e⟩ := h.at_; ⟨dx, s _ _ e⟩, h.held.imp (s _ _) fun ⟨o, e⟩ => ⟨o, s _ _ e⟩⟩
theorem VecAt.but {p : Addr} (h : VecAt C H a d ps) (s : But p H H') (n1 : a ≠ p) (n2 : d ≠ p) : VecAt C H' a d ps := ⟨let ⟨dx, e⟩ := h.at_; ⟨dx, s _ _ n1 e⟩, s _ _ n2 h.held⟩
/-- .. while some dict is locked -/
theorem VecRd.lock {e : Addr} {kvs : List (Key × V)} {o : Obj} (h : VecRd C H a d ps) (he : H e = some (.dK kvs)) (b : But e H H') (e' : H' e = some (.frz o (.dK kvs))) : VecRd C H' a d ps := by
  obtain ⟨dx, ha⟩ := h.at_
  refine ⟨⟨dx, b _ _ (fun z => ?_) ha⟩, ?_⟩
  · rw [z, he] at ha; cases ha
  · by_cases c : d = e
    · subst c
      rcases h.held with k | ⟨o2, k⟩
      · rw [he] at k; cases k
        exact .inr ⟨o, e'⟩
      · rw [he] at k; cases k
    · exact h.held.imp (b _ _ c) fun ⟨o2, k⟩ => ⟨o2, b _ _ c k⟩
end
section
variable {K : PySem.W.Frag} {σ : L2.St} {H : Hp} {Q : VK}
theorem dget_rd {a : Addr} {z : Str} {v : V} {kvs : List (Key × V)} (h : Rd H a (.dK kvs)) (e : valV kvs (.inr z) = some v) (q : Q v H) : DGetAt (.ref a) (.str z) H Q := ⟨a, v, rfl, .inl ⟨kvs, .inr z, h, rfl, e.symm⟩, q⟩
theorem din_rd {a : Addr} {z : Str} {kvs : List (Key × V)} (h : Rd H a (.dK kvs)) (q : Q (.bl (valV kvs (.inr z)).isSome) H) : DInAt (.str z) (.ref a) H Q := ⟨a, _, rfl, .inl ⟨kvs, .inr z, h, rfl, rfl⟩, q⟩
theorem val_kw (ps : List (Str × V)) (n : Str) : valV (kwK ps) (.inr n) = ps.lookup n := by
  induction ps with
  | nil => rfl
  | cons p ps ih =>
    show valV ((Sum.inr p.1, p.2) :: kwK ps) (.inr n) = _
    rw [List.lookup_cons]
    by_cases c : n = p.1
    · rw [valV_pos (by rw [c]), show (n == p.1) = true from beq_iff_eq.mpr c]
    · rw [valV_neg (fun z => c (Sum.inr.inj z).symm), show (n == p.1) = false from beq_eq_false_iff_ne.mpr c]
      exact ih
theorem lookup_intB (ps : List (Str × Int)) (n : Str) : (intB ps).lookup n = (ps.lookup n).map V.int := by
  induction ps with
  | nil => rfl
  | cons p ps ih =>
    show List.lookup n ((p.1, V.int p.2) :: intB ps) = _
    rw [List.lookup_cons, List.lookup_cons]
    by_cases c : n = p.1
    · rw [show (n == p.1) = true from beq_iff_eq.mpr c]; rfl
    · rw [show (n == p.1) = false from beq_eq_false_iff_ne.mpr c]
      exact ih
theorem val_int (ps : List (Str × Int)) (n : Str) : valV (kwK (intB ps)) (.inr n) = (ps.lookup n).map V.int := by rw [val_kw, lookup_intB]
theorem val_mem {ps : List (Str × Int)} {n : Str} (h : n ∈ ps.map (·.1)) : valV (kwK (intB ps)) (.inr n) = some (.int (getV ps n)) := by
  rw [val_int]
  unfold getV
  cases c : ps.lookup n with
  | some i => rfl
  | none =>
    obtain ⟨p, hp, rfl⟩ := List.mem_map.mp h
    have : ∀ {ps : List (Str × Int)}, p ∈ ps → ps.lookup p.1 ≠ none := by
      intro ps
      induction ps with
      | nil => intro h; cases h
      | cons q ps ih =>
        intro h
        rw [List.lookup_cons]
        by_cases c : p.1 = q.1
        · rw [show (p.1 == q.1) = true from beq_iff_eq.mpr c]; intro z; cases z
        · rw [show (p.1 == q.1) = false from beq_eq_false_iff_ne.mpr c]
          exact ih ((List.mem_cons.mp h).resolve_left fun e => c (by rw [e]))
    exact absurd c (this hp)
theorem val_isSome (ps : List (Str × Int)) (n : Str) : (valV (kwK (intB ps)) (.inr n)).isSome = decide (n ∈ ps.map (·.1)) := by
  by_cases c : n ∈ ps.map (·.1)
  · rw [val_mem c, decide_eq_true c]; rfl
  · rw [val_int, lookup_none c, decide_eq_false c]; rfl
/-! dict comprehensions of names and numbers -/
theorem merge_kw : ∀ {more ps : List (Str × Int)}, ((ps ++ more).map (·.1)).Nodup → mergeK (kwK (intB ps)) (kwK (intB more)) = kwK (intB (ps ++ more))
  | [], ps, _ => by rw [List.append_nil]; rfl
  | p :: more, ps, nd => by
    have hp : p.1 ∉ ps.map (·.1) := fun h => by
      rw [List.map_append, List.nodup_append] at nd
      exact nd.2.2 _ h _ (by rw [List.map_cons]; exact List.mem_cons_self) rfl
    have e : putK (kwK (intB ps)) (Sum.inr p.1) (V.int p.2) = kwK (intB (ps ++ [p])) := by
      unfold putK
      rw [if_neg]
      · unfold kwK intB
        simp
      · intro h
        obtain ⟨q, hq, e⟩ := List.any_eq_true.mp h
        have e := of_decide_eq_true e
        unfold kwK intB at hq
        rw [List.map_map] at hq
        obtain ⟨r, hr, rfl⟩ := List.mem_map.mp hq
        exact hp (List.mem_map.mpr ⟨r, hr, Sum.inr.inj e⟩)
    show mergeK (putK (kwK (intB ps)) (Sum.inr p.1) (V.int p.2)) (kwK (intB more)) = _
    rw [e, merge_kw (by rw [List.append_assoc]; exact nd), List.append_assoc]
    rfl
theorem merge_nil {more : List (Str × Int)} (nd : (more.map (·.1)).Nodup) : mergeK [] (kwK (intB more)) = kwK (intB more) := merge_kw (ps := []) nd
/-! C(**d) of a vector -/
def spInitV (C : Addr) : Sp := fun vs H Q _ => ∃ (a dx D : Addr) (ps : List (Str × Int)), vs = [.ref a, .ref D] ∧ H a = some (.ins C dx []) ∧ H D = some (.dK (kwK (intB ps))) ∧ GoodB ps ∧
  ∀ H' d, But a H H' → H d = none → VecAt C H' a d (nrm ps) → Q .non H'
def MapAt (C : Addr) (sp : Sp) (E : XK) (D : Addr) (Q : VK) (v : V) (H1 : Hp) : Prop := ∃ o kvs, v = .ref o ∧ H1 D = some (.dK []) ∧ H1 o = some (.dK (kwK kvs)) ∧ D ≠ o ∧ NamesOk kvs ∧ MkK C sp E kvs (upd H1 D (.dK (kwK kvs))) Q
theorem rd_mkMap {C : Addr} {sp : Sp} {E : XK} {t : TE} (h : ∀ D H0, H D = none → Same H H0 → H0 D = some (.dK []) → t σ H0 fun v H1 => MapAt C sp E D Q v H1) : tMkMap C sp E t σ H Q := fun D hD => h D _ hD (same_new hD) upd_same
/-- the new vector -/
theorem newV {C : Addr} {E : XK} {kvs : List (Str × V)} {ps : List (Str × Int)} (e : kvs = intB ps) (g : GoodB ps) (q : ∀ r d H', H r = none → H d = none → Same H H' → VecAt C H' r d (nrm ps) → Q (.ref r) H') : MkK C (spInitV C) E kvs H Q := by
  subst e
  intro x dx nx ndx ne D nD
  have xD : x ≠ D := fun z => by rw [← z, upd_same] at nD; cases nD
  have s1 : Same H (upd (upd (upd H dx (.own x)) x (.ins C dx [])) D (.dK (kwK (intB ps)))) := fun b o hb => by
    rw [upd_ne (fun z => by rw [z] at hb; rw [upd_ne (Ne.symm xD), upd_ne (fun y => by rw [y, upd_same] at nD; cases nD)] at nD; rw [nD] at hb; cases hb), upd_ne (ne_of_none hb nx), upd_ne (ne_of_none hb ndx)]
    exact hb
  refine ⟨x, dx, D, ps, rfl, by rw [upd_ne xD, upd_same], upd_same, g, fun H' d b nd v => ⟨rfl, q x d H' nx (s1.free nd) (fun c o hc => b _ _ (ne_of_none hc nx) (s1 _ _ hc)) v⟩⟩
theorem map_at {C : Addr} {E : XK} {D o : Addr} {ps : List (Str × Int)} (ho : H o = some (.dK (kwK (intB ps)))) (hD : H D = some (.dK [])) (ne : D ≠ o) (g : GoodB ps) (q : ∀ r d H', H r = none → H d = none → But D H H' → VecAt C H' r d (nrm ps) → Q (.ref r) H') :
    MapAt C (spInitV C) E D Q (.ref o) H := by
  refine ⟨o, intB ps, rfl, hD, ho, ne, g.names, newV rfl g fun r d H' nr nd s v => ?_⟩
  have rD : ∀ {x : Addr}, upd H D (.dK (kwK (intB ps))) x = none → H x = none := fun {x} h => by
    by_cases c : x = D
    · rw [c, upd_same] at h; cases h
    · rw [upd_ne c] at h; exact h
  exact q r d H' (rD nr) (rD nd) (fun b u n hb => s _ _ (by rw [upd_ne n]; exact hb)) v
end
end EE

/-! Own layer: own operators by named readings; o.m(k = v); bool(x), x is True. -/
namespace EE
open PySem PySem.Spec PyProof.Rows L2
/-- the def behind an operator of the class at C -/
structure OpF (P : Program) (w : World) (K : PySem.W.Frag) (mg : Str → Option Value) (base : Heap) (k : Nat) (C : Addr) (m : Str) (sp : Sp) (f : Addr) : Prop where
  F : FnR P w K mg base CX0 k f sp
  s : PySem.W.findIn K (.ref C) m = some (some (.ref f))
  n : PySem.W.isFn K (.ref f) = true
  i : PySem.W.fnIn K f = true
/-- .. from a promise by names -/
theorem FnOk.r {P : Program} {w : World} {K : PySem.W.Frag} {mg : Str → Option Value} {base : Heap} {CX : CXT} {k : Nat} {f : Addr} {fd : FuncData} {ps : List Str} {sp : Sp} (F : FnOk P w K mg base CX k f fd ps sp) (hb : Binds K fd ps []) : FnR P w K mg base CX k f sp :=
  (F.raw hb .nil).imp fun vs H Q E h => by rw [List.append_nil]; exact h
def rInO (C : Addr) (sp : Sp) (E : XK) : R2 := fun y x H Q => IsI C x H ∧ sp [x, y] H (fun r H' => ∃ b, r = .bl b ∧ Q (.bl b) H') E
def rNegO (C : Addr) (sp : Sp) (E : XK) : V → Hp → VK → Prop := fun x H Q => IsI C x H ∧ sp [x] H Q E
def rBinO (C : Addr) (sp : Sp) (E : XK) : R2 := fun x y H Q => IsI C y H ∧ rOp C sp E x y H Q
def rBinI (C : Addr) (sp : Sp) (E : XK) : R2 := fun x y H Q => (∃ n, y = .int n) ∧ rOp C sp E x y H Q
def rLenO (C : Addr) (sp : Sp) (E : XK) : List V → Hp → VK → Prop := fun vs H Q => ∃ x, vs = [x] ∧ IsI C x H ∧ sp [x] H (fun r H' => ∃ n : Int, r = .int n ∧ (0 ≤ n ∧ n < 2 ^ 63) ∧ Q (.int n) H') E
def rBoolO (C : Addr) (sp : Sp) (E : XK) : List V → Hp → VK → Prop := fun vs H Q => ∃ x, vs = [x] ∧ IsI C x H ∧ sp [x] H (fun r H' => ∃ b, r = .bl b ∧ Q (.bl b) H') E
/-- facts for x op n -/
structure OpI (K : PySem.W.Frag) (C : Addr) (m mr : Str) : Prop where
  rf : PySem.W.findIn K (.ref C) mr = some none
  h1 : ∃ fo, PySem.W.findIn K (.type "int") m = some fo
  h2 : ∃ ro, PySem.W.findIn K (.type "int") mr = some ro
  sub : PySem.W.subIn K (.type "int") (.ref C) = some false
section
variable {X : Cx} {k : Nat} {f C : Addr} {sp : Sp} {m : Str}
theorem or_inO (O : OpF X.prog X.w X.K X.mg X.base k C "__contains__" sp f) (hr : Room k X.A) {E : XK} (hx : Passes CX0 X E) : OpR X (compareOp .In) (rInO C sp E) := op_inO O.F hr hx O.s O.n
theorem ur_negO (O : OpF X.prog X.w X.K X.mg X.base k C "__neg__" sp f) (hr : Room k X.A) {E : XK} (hx : Passes CX0 X E) : UnR X (unaryOp .USub) (rNegO C sp E) := op_negO O.F hr hx O.s O.n
theorem or_addO (O : OpF X.prog X.w X.K X.mg X.base k C "__add__" sp f) (hr : Room k X.A) {E : XK} (hx : Passes CX0 X E) (hc : PySem.W.selfFirst X.K C = true) : OpR X (binaryOp .Add) (rBinO C sp E) := op_binO (op := .Add) O.F hr hx hc O.s O.n
theorem or_subO (O : OpF X.prog X.w X.K X.mg X.base k C "__sub__" sp f) (hr : Room k X.A) {E : XK} (hx : Passes CX0 X E) (hc : PySem.W.selfFirst X.K C = true) : OpR X (binaryOp .Sub) (rBinO C sp E) := op_binO (op := .Sub) O.F hr hx hc O.s O.n
theorem or_mulI (O : OpF X.prog X.w X.K X.mg X.base k C "__mul__" sp f) (Z : OpI X.K C "__mul__" "__rmul__") (hr : Room k X.A) {E : XK} (hx : Passes CX0 X E) (hc : PySem.W.selfFirst X.K C = true) : OpR X (binaryOp .Mult) (rBinI C sp E) := by
  obtain ⟨fo, h1⟩ := Z.h1
  obtain ⟨ro, h2⟩ := Z.h2
  exact op_binI (op := .Mult) O.F hr hx hc O.s O.n Z.rf (.inl rfl) h1 h2 Z.sub
theorem or_eqO (O : OpF X.prog X.w X.K X.mg X.base k C "__eq__" sp f) (hr : Room k X.A) {E : XK} (hx : Passes CX0 X E) : OpR X (compareOp .Eq) (rBinO C sp E) := op_eqO O.F hr hx O.s O.n
theorem cr_lenO (O : OpF X.prog X.w X.K X.mg X.base k C "__len__" sp f) (hr : Room (k + 1) X.A) {E : XK} (hx : Passes CX0 X E) : CallR X (.builtin "len") (rLenO C sp E) := call_lenO O.F hr hx O.s O.n
theorem pe_getO {a b : Expr} {pos : Pos} {ta tb : TE} (O : OpF X.prog X.w X.K X.mg X.base k C "__getitem__" sp f) (hr : Room (k + 1) X.A) {E : XK} (hx : Passes CX0 X E) (ha : PE X a ta) (hb : PE X b tb) (hsl : ∀ o i, subscripted b true o i = runValue (.builtin "lifetime.subscript" ⟨[o, i], []⟩) := by intro _ _; with_unfolding_all rfl) :
    PE X (.Subscript a b pos) (tOp (rOp C sp E) ta tb) := pe_subO O.F hr hx O.s O.i O.n ha hb hsl
/-- bool(x) of the own class -/
theorem cr_boolO (O : OpF X.prog X.w X.K X.mg X.base k C "__bool__" sp f) (hr : Room (k + 2) X.A) {E : XK} (hx : Passes CX0 X E) : CallR X (.type "bool") (rBoolO C sp E) := by
  intro pins s σ H vs us Q I rv ⟨x, e, hi, h⟩
  subst e
  cases rv with
  | cons rx rt =>
    cases rt
    obtain ⟨a, ox, od, rfl, rfl, J⟩ := isI_at I rx hi
    obtain ⟨m, hF⟩ := I.fr
    refine callType_codes (Q₁ := fun v t => (∃ b, v = .bool b) ∧ EP X pins σ Q v t) PySem.F.called_bool (PySem.F.typeCall_bool_1 _) PySem.F.entry_object_init (codeAny_of_tree ?_) fun obj s1 h1 => ?_
    · show wpAny _ X.A.in1.in1 (do checkBuiltinCall "bool.__new__" ⟨[.type "bool", .ref a], []⟩; again (.builtin "bool.__new__" ⟨[.type "bool", .ref a], []⟩)) _ _ s
      refine wpAny_bind (wpAny_of_eq (PySem.F.newCall_bool_1 _) (wpAny_pure ⟨plainId_quiet (by decide +kernel) _, codeAny_builtin PySem.F.entry_bool_new ?_⟩))
      rw [Around.under_plainId (by decide +kernel) _]
      have f1 := PySem.F.conv_sub_bool
      (repeat (any_goals (first | assumption | (with_reducible refine PySem.W.truthy_K hF I.ok.mod.kin J O.s O.n ?_) | wp_step)))
      have e := I.env0
      have e0 : Env0 X.prog X.w X.K X.mg X.base X.A.in1.in1 X.stack s H := ⟨e.frames, e.mod, e.bs, e.bsz, e.funs, e.frf, e.hok, e.bare⟩
      refine codeAny_mono (O.F X.A.in1.in1 X.stack s H [.ref a] [.ref a] _ E hr.in1.in1 e0 (.cons rfl .nil) h) fun r s' hq => ?_
      match r, hq with
      | .error e, hq => exact hx pins σ H s e s' I hq
      | .ok (.ret u), hq =>
        obtain ⟨v, H', I', rw', b, ev, q⟩ := I.after hq
        subst ev
        obtain rfl : u = Value.bool b := rw'
        exact wpAny_pure ⟨⟨_, rfl⟩, .bl b, H', I', rfl, q⟩
      | .ok .next, hq => exact hq.elim
      | .ok .brk, hq => exact hq.elim
      | .ok .cont, hq => exact hq.elim
    · obtain ⟨⟨b, rfl⟩, q⟩ := h1
      exact ⟨rfl, PySem.F.args_object_init_2 _ _, object_init_meets PySem.F.called_bool.init.lookup PySem.F.called_bool.made (by decide) X.prog X.w _ _ s1 ⟨rfl, rfl, q⟩⟩
/-- o.m(k = v, ..) -/
theorem pe_methN0 {pl : Sem Bool} {CX : CXT} {fd : FuncData} {ps ks : List Str} {E : XK} {o : Expr} {kws : List Keyword} {ta : TE} {tk : TA} {apos pos : Pos} {g : List Value → List Value → List Value} {gV : List V → List V → List V} (he : PE X o ta) (c : Cls X.K C) (hm : Meth X.K C m f) (F : FnOk X.prog X.w X.K X.mg X.base CX k f fd ps sp) (hr : Room k X.A) (hb : KBn X.K fd ps 1 ks g gV) (hx : Passes CX X E)
    (hkw : PK X kws tk) (hall : (backToKw pos (keywordEach kws X.env)).all (·.1.isSome) = true := by rfl) (hks : (backToKw pos (keywordEach kws X.env)).filterMap (·.1) = ks := by rfl)
    (hpl : ((backTo pos (starEach [] X.env)).any (·.1) || (backToKw pos (keywordEach kws X.env)).any (·.1.isNone)) = false := by rfl)
    (ht : eval (.Call (.Attribute o m apos) [] kws pos) X.env = (do
      let ov ← eval o X.env
      standAt apos.atName
      let (f, first) ← holding [ov] (getMethod ov m pl)
      callWith pos f first (backTo pos (starEach [] X.env)) (backToKw pos (keywordEach kws X.env))) := by rfl) :
    PE X (.Call (.Attribute o m apos) [] kws pos) (tMeth C m (fun vs H Q E => vs.length = 1 + ks.length ∧ sp (gV (vs.take 1) (vs.drop 1)) H Q E) [] E ta tk) := by
  refine ⟨fun pins s σ H Q I h => ?_⟩
  refine PySem.W.methodCall_KW (pl := pl) (thn (he.run pins s σ H _ I h) fun u s1 ⟨x, H1, I1, rx, a, dx, fs, ex, ea, l, q⟩ => ?_) ht
  subst ex
  obtain rfl : u = Value.ref a := rx
  refine getmeth_ok I1 ea c hm l ?_
  refine PySem.W.callWith_KW0 (first := [.ref a]) (h₀ := X.base) I.ok.mod.kin hm.kp hall ?_ hpl
  refine thn (hkw.run pos pins s1 σ H1 _ I1 q) fun ws s2 ⟨zs, H2, I2, rz, l2, q2⟩ => ⟨I2.kIn, ?_⟩
  rw [hks]
  refine run_fnN (us := [.ref a]) (vs := [.ref a]) F hr hb hx I2 (.cons rfl .nil) rz rfl (by rw [List.append_nil, List.length_cons] at l2; omega) ?_
  simpa using q2
end
/-! readings -/
section
variable {C : Addr} {sp : Sp} {E : XK} {H : Hp} {Q : VK} {a : Addr} {x y : V}
theorem rd_inO (h : ∃ dx fs, H a = some (.ins C dx fs)) (q : sp [.ref a, y] H (fun r H' => ∃ b, r = .bl b ∧ Q (.bl b) H') E) : rInO C sp E y (.ref a) H Q := ⟨let ⟨dx, fs, e⟩ := h; ⟨a, dx, fs, rfl, e⟩, q⟩
theorem rd_getO (h : ∃ dx fs, H a = some (.ins C dx fs)) (q : sp [.ref a, y] H Q E) : rOp C sp E (.ref a) y H Q := ⟨let ⟨dx, fs, e⟩ := h; ⟨a, dx, fs, rfl, e⟩, q⟩
theorem rd_negO (h : ∃ dx fs, H a = some (.ins C dx fs)) (q : sp [.ref a] H Q E) : rNegO C sp E (.ref a) H Q := ⟨let ⟨dx, fs, e⟩ := h; ⟨a, dx, fs, rfl, e⟩, q⟩
theorem rd_binO {b : Addr} (h : ∃ dx fs, H a = some (.ins C dx fs)) (h2 : ∃ dx fs, H b = some (.ins C dx fs)) (q : sp [.ref a, .ref b] H Q E) : rBinO C sp E (.ref a) (.ref b) H Q := ⟨let ⟨dx, fs, e⟩ := h2; ⟨b, dx, fs, rfl, e⟩, rd_getO h q⟩
theorem rd_binI {n : Int} (h : ∃ dx fs, H a = some (.ins C dx fs)) (q : sp [.ref a, .int n] H Q E) : rBinI C sp E (.ref a) (.int n) H Q := ⟨⟨n, rfl⟩, rd_getO h q⟩
theorem rd_lenO (h : ∃ dx fs, H a = some (.ins C dx fs)) (q : sp [.ref a] H (fun r H' => ∃ n : Int, r = .int n ∧ (0 ≤ n ∧ n < 2 ^ 63) ∧ Q (.int n) H') E) : rLenO C sp E [.ref a] H Q := ⟨_, rfl, let ⟨dx, fs, e⟩ := h; ⟨a, dx, fs, rfl, e⟩, q⟩
theorem rd_boolO (h : ∃ dx fs, H a = some (.ins C dx fs)) (q : sp [.ref a] H (fun r H' => ∃ b, r = .bl b ∧ Q (.bl b) H') E) : rBoolO C sp E [.ref a] H Q := ⟨_, rfl, let ⟨dx, fs, e⟩ := h; ⟨a, dx, fs, rfl, e⟩, q⟩
def rIsBl : R2 := fun x y H Q => ∃ a b, x = .bl a ∧ y = .bl b ∧ Q (.bl (decide (a = b))) H
theorem or_isBl {X : Cx} : OpR X (compareOp .Is) rIsBl := op_is_bl
theorem rd_isBl {a b : Bool} (q : Q (.bl (decide (a = b))) H) : rIsBl (.bl a) (.bl b) H Q := ⟨a, b, rfl, rfl, q⟩
theorem VecRd.ins {d : Addr} {ps : List (Str × Int)} (h : VecRd C H a d ps) : ∃ dx fs, H a = some (.ins C dx fs) := let ⟨dx, e⟩ := h.at_; ⟨dx, _, e⟩
theorem VecAt.ins {d : Addr} {ps : List (Str × Int)} (h : VecAt C H a d ps) : ∃ dx fs, H a = some (.ins C dx fs) := let ⟨dx, e⟩ := h.at_; ⟨dx, _, e⟩
end
section
variable {K : PySem.W.Frag} {σ : L2.St} {H : Hp} {Q : VK} {D : Ends} {td te : TE} {J : It} {g : TG} {tt : TT} {tk tv : TE} {vs : List Nat}
instance go_iVals {R : It → Hp → Prop} : Go (iVals td σ H R) (td σ H fun x H1 => ValsAt R x H1) := ⟨rd_iVals⟩
instance go_iItems {R : It → Hp → Prop} : Go (iItems td σ H R) (td σ H fun x H1 => ItemsAt R x H1) := ⟨rd_iItems⟩
instance go_iKeys {R : It → Hp → Prop} : Go (iKeys td σ H R) (td σ H fun x H1 => KeysAt R x H1) := ⟨rd_iKeys⟩
instance go_dc {wi : TI} : Go (tDc wi g tt tk tv vs σ H Q) (wi σ H (DcAt g tt tk tv vs σ Q)) := ⟨rd_dc⟩
instance go_isBl {a b : Bool} : Go (rIsBl (.bl a) (.bl b) H Q) (Q (.bl (decide (a = b))) H) := ⟨rd_isBl⟩
end
/-! the class Vector -/
structure VcK (K : PySem.W.Frag) (mg : Str → Option Value) (C : Addr) : Prop where
  cl : Cls K C
  g : mg "Vector" = some (.ref C)
  nH : NoAttr K C "held"
  sf : PySem.W.selfFirst K C = true
  ha : PySem.W.findIn K (.ref C) "__class__" = some (some (.builtin "object.__class__"))
  hn : PySem.W.specialIn K (.builtin "object.__class__") "__get__" = some (some (.builtin "getset_descriptor.__get__"))
  ht : PySem.W.takesIn K (.builtin "object.__class__") = some true
  hm : PySem.W.mroIn K C (.type "object") = some true
  me : PySem.W.kitOne K (.ref C) (.ref C) = some true
theorem VcK.ty {K : PySem.W.Frag} {mg : Str → Option Value} {C : Addr} (V : VcK K mg C) {H : Hp} {a : Addr} (h : ∃ dx fs, H a = some (.ins C dx fs)) : TyX K H (.ref a) (.ref C) := let ⟨_, _, e⟩ := h; .base (.ins e V.cl V.ha V.hn V.ht V.hm)
theorem rd_isiO {K : PySem.W.Frag} {H : Hp} {Q : VK} {x : V} {t : Value} {D : Addr} {b : Bool} (ty : TyX K H x t) (e : PySem.W.kitOne K t (.ref D) = some b) (q : Q (.bl b) H) : rIsi K [x, .ref D] H Q := ⟨x, .ref D, t, .ref D, b, rfl, .own D, ty, e, q⟩
/-- a def of one text that tells a value and changes nothing -/
def spS (f : Str → V) : Sp := fun vs H Q _ => ∃ z : Str, vs = [.str z] ∧ z.length ≤ 1000 ∧ Asc z ∧ ∀ H', Same H H' → Q (f z) H'
def spInt1 : Sp := fun vs H Q _ => ∃ i : Int, vs = [.int i] ∧ ∀ H', Same H H' → Q (.bl true) H'
def spAreNames : Sp := fun vs H Q _ => ∃ (a : Addr) (zs : List Str), vs = [.ref a] ∧ H a = some (.lst (zs.map V.str)) ∧ zs.length ≤ 1000 ∧ (∀ z ∈ zs, nameS z = true) ∧ ∀ H', Same H H' → Q (.bl true) H'
/-! promises about vectors -/
def spNeed : Sp := fun vs H Q _ => ∃ (a : Addr) (ps : List (Str × Int)), vs = [.ref a] ∧ H a = some (.dK (kwK (intB ps))) ∧ GoodB ps ∧ ∀ H', Same H H' → Q .non H'
def spVin (C : Addr) : Sp := fun vs H Q _ => ∃ (a d : Addr) (ps : List (Str × Int)) (z : Str), vs = [.ref a, .str z] ∧ VecRd C H a d ps ∧ ∀ H', Same H H' → Q (.bl (decide (z ∈ ps.map (·.1)))) H'
def spVget (C : Addr) : Sp := fun vs H Q _ => ∃ (a d : Addr) (ps : List (Str × Int)) (z : Str), vs = [.ref a, .str z] ∧ VecRd C H a d ps ∧ ∀ H', Same H H' → Q (.int (getV ps z)) H'
def spVnames (C : Addr) : Sp := fun vs H Q _ => ∃ (a d : Addr) (ps : List (Str × Int)), vs = [.ref a] ∧ VecRd C H a d ps ∧ ∀ p H', H p = none → Same H H' → H' p = some (.tup ((ps.map (·.1)).map V.str)) → Q (.ref p) H'
def spVlen (C : Addr) : Sp := fun vs H Q _ => ∃ (a d : Addr) (ps : List (Str × Int)), vs = [.ref a] ∧ VecRd C H a d ps ∧ Q (.int (ps.length : Nat)) H
def spVbool (C : Addr) : Sp := fun vs H Q _ => ∃ (a d : Addr) (ps : List (Str × Int)), vs = [.ref a] ∧ VecRd C H a d ps ∧ Q (.bl (!ps.isEmpty)) H
def spVadd (C : Addr) : Sp := fun vs H Q _ => ∃ (a d b e : Addr) (ps qs : List (Str × Int)), vs = [.ref a, .ref b] ∧ VecRd C H a d ps ∧ VecRd C H b e qs ∧ GoodB ps ∧ GoodB qs ∧ ps.length + qs.length ≤ 60 ∧
  ∀ r f H', H r = none → H f = none → Same H H' → VecAt C H' r f (addV ps qs) → Q (.ref r) H'
def spVmul (C : Addr) : Sp := fun vs H Q _ => ∃ (a d : Addr) (ps : List (Str × Int)) (k : Int), vs = [.ref a, .int k] ∧ VecAt C H a d ps ∧ GoodB ps ∧ k.natAbs < 2 ^ 4000 ∧ (∀ p ∈ ps, p.2.natAbs < 2 ^ 4000) ∧
  ∀ r f H', H r = none → H f = none → Same H H' → VecAt C H' r f (mulV ps k) → Q (.ref r) H'
def spVneg (C : Addr) : Sp := fun vs H Q _ => ∃ (a d : Addr) (ps : List (Str × Int)), vs = [.ref a] ∧ VecAt C H a d ps ∧ GoodB ps ∧ (∀ p ∈ ps, p.2.natAbs < 2 ^ 4000) ∧
  ∀ r f H', H r = none → H f = none → Same H H' → VecAt C H' r f (mulV ps (-1)) → Q (.ref r) H'
def spVsub (C : Addr) : Sp := fun vs H Q _ => ∃ (a d b e : Addr) (ps qs : List (Str × Int)), vs = [.ref a, .ref b] ∧ VecRd C H a d ps ∧ VecAt C H b e qs ∧ GoodB ps ∧ GoodB qs ∧ ps.length + qs.length ≤ 60 ∧ (∀ p ∈ qs, p.2.natAbs < 2 ^ 4000) ∧
  ∀ r f H', H r = none → H f = none → Same H H' → VecAt C H' r f (addV ps (mulV qs (-1))) → Q (.ref r) H'
def dotV (ps qs : List (Str × Int)) : Int := (ps.map fun p => p.2 * getV qs p.1).sum
def spVdot (C : Addr) : Sp := fun vs H Q _ => ∃ (a d b e : Addr) (ps qs : List (Str × Int)), vs = [.ref a, .ref b] ∧ VecAt C H a d ps ∧ VecRd C H b e qs ∧ ps.length ≤ 1000 ∧ (∀ p ∈ ps, p.2.natAbs < 2 ^ 4000) ∧ (∀ n, (getV qs n).natAbs < 2 ^ 4000) ∧
  ∀ H', Same H H' → Q (.int (dotV ps qs)) H'
def spVeq (C : Addr) : Sp := fun vs H Q _ => ∃ (a d b e : Addr) (ps qs : List (Str × Int)), vs = [.ref a, .ref b] ∧ VecAt C H a d ps ∧ VecAt C H b e qs ∧ Good ps ∧ Good qs ∧ Q (.bl (decide (ps = qs))) H
/-- C.of(d) -/
def spVof (C : Addr) : Sp := fun vs H Q _ => ∃ (o : Addr) (ps : List (Str × Int)), vs = [.ref C, .ref o] ∧ H o = some (.dK (kwK (intB ps))) ∧ GoodB ps ∧ ∀ r f H', H r = none → H f = none → Same H H' → VecAt C H' r f (nrm ps) → Q (.ref r) H'
def rLenD : List V → Hp → VK → Prop := fun xs H Q => ∃ (a : Addr) (kvs : List (Key × V)), xs = [.ref a] ∧ Rd H a (.dK kvs) ∧ Q (.int (kvs.length : Nat)) H
theorem cr_lenD {X : Cx} : CallR X (.builtin "len") rLenD := by
  intro pins s σ H xs us Q I r h
  obtain ⟨a, kvs, rfl, hd, q⟩ := h
  rw [Vals.ref1 r]
  obtain ⟨z, lo, vs, rel, dd⟩ := dk_rd I.hok hd
  have e : vs.length = kvs.length := rel.length.symm
  refine call_len_dict lo dd (by rw [e]; rw [sizeLine_eq] at z; omega) ?_
  rw [e]
  exact ⟨.int _, H, I.tok _, ⟨_, rfl⟩, q⟩
theorem rd_lenD {H : Hp} {Q : VK} {a : Addr} {kvs : List (Key × V)} (h : Rd H a (.dK kvs)) (q : Q (.int (kvs.length : Nat)) H) : rLenD [.ref a] H Q := ⟨a, kvs, rfl, h, q⟩
theorem rd_eqDI {H : Hp} {Q : VK} {a b : Addr} {ps qs : List (Str × Int)} (h1 : H a = some (.dK (kwK (intB ps)))) (h2 : H b = some (.dK (kwK (intB qs)))) (g1 : Good ps) (g2 : Good qs) (q : Q (.bl (decide (ps = qs))) H) : rEqDI (.ref a) (.ref b) H Q := by
  have iv : ∀ rs : List (Str × Int), intVs (kwK (intB rs)) := fun rs p hp => by
    unfold kwK intB at hp
    rw [List.map_map] at hp
    obtain ⟨r, _, rfl⟩ := List.mem_map.mp hp
    exact ⟨r.2, rfl⟩
  refine ⟨a, b, _, _, rfl, rfl, h1, h2, iv ps, iv qs, ?_⟩
  have e : dEq (kwK (intB ps)) (kwK (intB qs)) = decide (ps = qs) := by
    have len : ∀ rs : List (Str × Int), (kwK (intB rs)).length = rs.length := fun rs => by unfold kwK intB; rw [List.length_map, List.length_map]
    unfold dEq
    rw [len, len]
    by_cases c : ps = qs
    · subst c
      rw [decide_eq_true rfl, beq_self_eq_true, Bool.true_and]
      refine List.all_eq_true.mpr fun p hp => decide_eq_true ?_
      unfold kwK intB at hp
      rw [List.map_map] at hp
      obtain ⟨r, hr, rfl⟩ := List.mem_map.mp hp
      show valV (kwK (intB ps)) (.inr r.1) = some (.int r.2)
      rw [val_int, lookup_mem g1.s.nodup (i := r.2) hr]; rfl
    · rw [decide_eq_false c]
      refine Bool.eq_false_iff.mpr fun h => c ?_
      obtain ⟨h1, h2⟩ := Bool.and_eq_true_iff.mp h
      have hl : ps.length = qs.length := by simpa using h1
      have sub : ∀ p ∈ ps, p ∈ qs := fun p hp => by
        have := of_decide_eq_true (List.all_eq_true.mp h2 (.inr p.1, .int p.2) (by unfold kwK intB; rw [List.map_map]; exact List.mem_map.mpr ⟨p, hp, rfl⟩))
        rw [show valV (kwK (intB qs)) (Sum.inr p.1, V.int p.2).1 = (qs.lookup p.1).map V.int from val_int qs p.1] at this
        obtain ⟨i, hi, e⟩ := Option.map_eq_some_iff.mp this
        cases e
        exact mem_of_lookup hi
      have perm : qs.Perm ps := perm_of_sub (List.Pairwise.of_map (S := (· ≠ ·)) (·.1) (fun a b h e => h (by rw [e])) g1.s.nodup) sub (by omega)
      refine good_ext g1 g2 fun n => ?_
      have nm : n ∈ ps.map (·.1) ↔ n ∈ qs.map (·.1) := (perm.map (·.1)).mem_iff.symm
      by_cases d : n ∈ ps.map (·.1)
      · obtain ⟨p, hp, rfl⟩ := List.mem_map.mp d
        rw [getV_mem g1.s.nodup (i := p.2) hp, getV_mem g2.s.nodup (i := p.2) (sub p hp)]
      · rw [getV_none d, getV_none fun z => d (nm.mpr z)]
  rw [e]; exact q
theorem itw_listM {K : PySem.W.Frag} {a : Addr} {α : Type} {l : List α} {f : α → V} : ItW (Itl K a) l (fun H => SqL K H a (l.map f)) (YV f) :=
  ⟨fun {i H} h c => ⟨_, f l[i], h, by simp [c]⟩, fun {i H} h c => ⟨_, h, by rw [List.length_map]; exact c⟩, fun {i H x H'} h c ⟨e, y⟩ => ⟨l[i], List.getElem?_eq_getElem c, by have := y _ h; simp [c] at this; exact this.symm, e⟩⟩
theorem itw_tupM {K : PySem.W.Frag} {a : Addr} {α : Type} {l : List α} {f : α → V} : ItW (Itt K a) l (fun H => SqT K H a (l.map f)) (YV f) :=
  ⟨fun {i H} h c => ⟨_, f l[i], h, by simp [c]⟩, fun {i H} h c => ⟨_, h, by rw [List.length_map]; exact c⟩, fun {i H x H'} h c ⟨e, y⟩ => ⟨l[i], List.getElem?_eq_getElem c, by have := y _ h; simp [c] at this; exact this.symm, e⟩⟩
/-- the pairs that a comprehension over names makes -/
def numF (f : Str → Int) (n : Str) : Option (Key × V) := some (.inr n, .int (f n))
def nzF (f : Str → Int) (n : Str) : Option (Key × V) := if f n = 0 then none else some (.inr n, .int (f n))
theorem nzF_all (f : Str → Int) : ∀ l : List Str, l.filterMap (nzF f) = kwK (intB (l.filterMap fun n => if f n = 0 then none else some (n, f n)))
  | [] => rfl
  | n :: l => by
    rw [List.filterMap_cons, List.filterMap_cons]
    unfold nzF
    by_cases c : f n = 0
    · rw [if_pos c, if_pos c]; exact nzF_all f l
    · rw [if_neg c, if_neg c]
      show _ :: List.filterMap (nzF f) l = _
      rw [nzF_all f l]; rfl
theorem nz_merge (f : Str → Int) (ns : List Str) : mergeK [] ((srtS ns).filterMap (nzF f)) = kwK (intB (vec ns f)) := by
  rw [nzF_all]
  exact merge_nil (good_vec ns f).s.nodup
theorem put_num {ds : List (Str × Int)} {n : Str} {i : Int} (nd : (ds.map (·.1)).Nodup) : (n ∈ ds.map (·.1) → getV ds n = i → putK (kwK (intB ds)) (.inr n) (.int i) = kwK (intB ds)) ∧ (n ∉ ds.map (·.1) → putK (kwK (intB ds)) (.inr n) (.int i) = kwK (intB (ds ++ [(n, i)]))) := by
  have any : ((kwK (intB ds)).any fun kv => decide (kv.1 = Sum.inr n)) = decide (n ∈ ds.map (·.1)) := by
    rw [Bool.eq_iff_iff, List.any_eq_true, decide_eq_true_iff]
    constructor
    · rintro ⟨q, hq, e⟩
      have e := of_decide_eq_true e
      unfold kwK intB at hq
      rw [List.map_map] at hq
      obtain ⟨r, hr, rfl⟩ := List.mem_map.mp hq
      exact List.mem_map.mpr ⟨r, hr, Sum.inr.inj e⟩
    · intro h
      obtain ⟨r, hr, e⟩ := List.mem_map.mp h
      refine ⟨(.inr r.1, .int r.2), ?_, by rw [e]; exact decide_eq_true rfl⟩
      unfold kwK intB
      rw [List.map_map]
      exact List.mem_map.mpr ⟨r, hr, rfl⟩
  constructor
  · intro h e
    unfold putK
    rw [any, decide_eq_true h, if_pos rfl]
    conv => rhs; rw [← List.map_id (kwK (intB ds))]
    refine List.map_congr_left fun q hq => ?_
    unfold kwK intB at hq
    rw [List.map_map] at hq
    obtain ⟨r, hr, rfl⟩ := List.mem_map.mp hq
    show (if (Sum.inr r.1 : Key) = Sum.inr n then ((Sum.inr r.1 : Key), V.int i) else (Sum.inr r.1, V.int r.2)) = (Sum.inr r.1, V.int r.2)
    by_cases c : r.1 = n
    · rw [if_pos (by rw [c]), ← e, ← c, getV_mem nd (i := r.2) hr]
    · rw [if_neg fun z => c (Sum.inr.inj z)]
  · intro h
    unfold putK
    rw [any, decide_eq_false h, if_neg (by decide)]
    unfold kwK intB
    simp
theorem num_merge (f : Str → Int) : ∀ (l : List Str) (d0 : List (Str × Int)), (d0.map (·.1)).Nodup → (∀ p ∈ d0, p.2 = f p.1) →
    ∃ ds, mergeK (kwK (intB d0)) (l.filterMap (numF f)) = kwK (intB ds) ∧ (ds.map (·.1)).Nodup ∧ (∀ n, n ∈ ds.map (·.1) ↔ n ∈ d0.map (·.1) ∨ n ∈ l) ∧ (∀ p ∈ ds, p.2 = f p.1) ∧ ds.length ≤ d0.length + l.length
  | [], d0, nd, h => ⟨d0, rfl, nd, fun n => by simp, h, Nat.le_refl _⟩
  | x :: l, d0, nd, h => by
    have e : mergeK (kwK (intB d0)) ((x :: l).filterMap (numF f)) = mergeK (putK (kwK (intB d0)) (.inr x) (.int (f x))) (l.filterMap (numF f)) := rfl
    obtain ⟨p1, p2⟩ := put_num (n := x) (i := f x) nd
    by_cases c : x ∈ d0.map (·.1)
    · obtain ⟨p, hp, rfl⟩ := List.mem_map.mp c
      rw [e, p1 c (by rw [getV_mem nd (i := p.2) hp, h p hp])]
      obtain ⟨ds, a1, a2, a3, a4, a5⟩ := num_merge f l d0 nd h
      refine ⟨ds, a1, a2, fun n => ?_, a4, by rw [List.length_cons]; omega⟩
      rw [a3 n, List.mem_cons]
      exact ⟨fun z => z.imp id .inr, fun z => z.elim .inl fun z => z.elim (fun y => .inl (y ▸ c)) .inr⟩
    · rw [e, p2 c]
      obtain ⟨ds, a1, a2, a3, a4, a5⟩ := num_merge f l (d0 ++ [(x, f x)]) (by
        rw [List.map_append, List.nodup_append]
        exact ⟨nd, by simp, fun a ha b hb y => by
          have : b = x := by simpa using hb
          exact c (by rw [← this, ← y]; exact ha)⟩) fun p hp => by
          rcases List.mem_append.mp hp with q | q
          · exact h p q
          · rw [List.mem_singleton.mp q]
      refine ⟨ds, a1, a2, fun n => ?_, a4, by rw [List.length_append] at a5; simp at a5 ⊢; omega⟩
      rw [a3 n, List.map_append, List.mem_append, List.mem_cons]
      simp [or_assoc]
/-- what Vector makes of a dict comprehension over names -/
theorem num_vec (f : Str → Int) (l : List Str) (hn : ∀ n ∈ l, nameS n = true) (hl : l.length ≤ 60) : ∃ ds, mergeK [] (l.filterMap (numF f)) = kwK (intB ds) ∧ GoodB ds ∧ nrm ds = vec l f := by
  obtain ⟨ds, a1, a2, a3, a4, a5⟩ := num_merge f l [] List.nodup_nil (fun p hp => by cases hp)
  have mem : ∀ n, n ∈ ds.map (·.1) ↔ n ∈ l := fun n => by rw [a3 n]; simp
  refine ⟨ds, a1, ⟨fun p hp => hn _ ((mem _).mp (List.mem_map.mpr ⟨p, hp, rfl⟩)), a2, by simp at a5; omega⟩, vec_congr fun n => ?_⟩
  by_cases c : n ∈ l
  · have c' := (mem n).mpr c
    rw [if_pos c, if_pos c']
    obtain ⟨p, hp, rfl⟩ := List.mem_map.mp c'
    rw [getV_mem a2 (i := p.2) hp, a4 p hp]
  · rw [if_neg c, if_neg fun z => c ((mem n).mp z)]
theorem star_tup {K : PySem.W.Frag} {σ : L2.St} {H : Hp} {t : TA} {Q : List V → Hp → Prop} {p : Addr} {xs : List V} (h : H p = some (.tup xs)) (q : t σ H fun ys H2 => Q (xs ++ ys) H2) : StarAt K t σ Q (.ref p) H := ⟨p, xs, rfl, .inl (sqT_of h), q⟩
end EE

/-! Own layer: name = {.. for ..}, the name a local; the same under a lock. -/
namespace EE
open PySem PySem.Spec PyProof.Rows L2
theorem sw_dict {kx vx : Expr} {gs : List Comprehension} {scope : Scope} {pos py : Pos} {y : Str} {l : Nat} {env : Env} (hk : env.scope.kind = .function) (hy : env.scope.names.lookup y = some .local) (hl : (py.line == pos.line) = true)
    (ha : (scope.names.any fun (n, k) => n == y && (k == .local || k == .cell)) = false) : swapsWith (.DictComp kx vx gs scope pos) (some (.Name y py)) l env = pure true := by
  have k1 : env.kindOf y = some .local := hy
  have k2 : env.blockKind = .function := by unfold Env.blockKind; rw [hk]; rfl
  unfold swapsWith; simp only [k2, k1, ha, Expr.pos, hl]; rfl
section
variable {X : Cx}
theorem ps_setDc {i : Nat} {y : Str} {py : Pos} {kx vx tg iter : Expr} {ifs : List Expr} {scope : Scope} {own : List (Str × Nat)} {pos spos : Pos} {wi : TI} {g : TG} {tt : TT} {tk tv : TE} (calm : X.calm = true) (nd : X.N.Nodup) (hy : X.N[i]? = some y) (loc : X.env.scope.names.lookup y = some .local)
    (sw : swapsWith (.DictComp kx vx [⟨tg, iter, ifs, 0⟩] scope pos) (some (.Name y py)) spos.line X.env = pure true) (hi : PI X tg iter wi) (ok : BlkOk X.N X.env.scope scope own)
    (pg : ∀ (s : Shared) (H : Hp) (C : Addr) (cl : List (Str × Addr)) (fp : List Addr), PG (X.blk s H scope (compEnvC scope cl C X.env) fp) tg g) (pt : ∀ (s : Shared) (H : Hp) (C : Addr) (cl : List (Str × Addr)) (fp : List Addr), PTs (X.blk s H scope (compEnvC scope cl C X.env) fp) ifs tt)
    (pk : ∀ (s : Shared) (H : Hp) (C : Addr) (cl : List (Str × Addr)) (fp : List Addr), PE (X.blk s H scope (compEnvC scope cl C X.env) fp) kx tk) (pv : ∀ (s : Shared) (H : Hp) (C : Addr) (cl : List (Str × Addr)) (fp : List Addr), PE (X.blk s H scope (compEnvC scope cl C X.env) fp) vx tv) (fs : ∀ x, foldedSetIterable iter X.env x = pure x := by intro _; rfl) :
    PS X (.Assign [.Name y py] (.DictComp kx vx [⟨tg, iter, ifs, 0⟩] scope pos) spos) (tAsg (tDc wi g tt tk tv (own.map (·.2))) (gName i)) := by
  refine ⟨fun pins s σ H D I h => ?_⟩
  rw [exec_Assign_Name_used _ _ _ _ sw]
  refine wpAny_bind (wpAny_standAt (wpAny_bind ?_)); show wpAny _ X.A (do let _ ← comprehension (.DictComp kx vx [⟨tg, iter, ifs, 0⟩] scope pos) scope X.env (firstIterPos [⟨tg, iter, ifs, 0⟩] pos) newDict false (eval iter X.env) (some (assign (.Name y py) X.env))) _ _ s
  have q : tDc wi g tt tk tv (own.map (·.2)) σ H (fun x H1 => gName i x σ H1 D.nx) := h
  refine wpAny_bind (thn (dc_core (Qf := fun _ t => SP X pins D .next t) calm nd I hi ok pg pt pk pv fs q fun L C t m H' J z hn f => ?_) fun _ t r => wpAny_pure (wpAny_pure r))
  show wpAny _ _ (assign (.Name y py) X.env (.ref L)) _ _ _
  refine wpAny_assign_Name (store_ok2 (v := V.ref L) J nd hy (.inl loc) rfl (fun t2 J2 ⟨a, sb, ha⟩ => ?_) (.inr loc))
  obtain ⟨f0, f1, f2, f3, f4, f5⟩ := f
  have Ca : C ≠ a := ha.elim (fun z => z ▸ f1) fun z e => f4 y a z e.symm
  exact ⟨m, hn.sameBut sb Ca, fun h3 sb3 => ⟨_, H', J2.turned (t' := t2.toks) (fun b o hb e => (sb3.2 b hb).trans e) f0 f1 f3 f4 f5, z⟩⟩
end
/-- the lock's end, behind a statement -/
theorem unlockS {d : Addr} {kvs : List (Key × V)} {D : Ends} {σ' : L2.St} {H : Hp} {od : Obj} {H1 H' : Hp} (h : H d = some (.dK kvs)) (b : But d H H1) (h1 : H1 d = some (.frz od (.dK kvs))) (s : Same H1 H') (q : ∀ H2, Same H H2 → But d H' H2 → D.nx σ' H2) : (LockS d od (.dK kvs) D).nx σ' H' :=
  ⟨s _ _ h1, q _ (back_same (od := od) h b s) but_upd⟩
section
variable {σ : L2.St} {H : Hp} {Q : VK}
theorem rd_mulW {i j : Int} (q : Q (.int (i * j)) H) (c : CMulW i j) : rI CMulW (fun i j => .int (i * j)) (.int i) (.int j) H Q := ⟨i, j, rfl, rfl, c, q⟩
theorem rd_mkMapV {C : Addr} {sp : Sp} {E : XK} {tf t : TE} (h : tf σ H fun c H0 => c = .ref C ∧ tMkMap C sp E t σ H0 Q) : tMkMapV C sp E tf t σ H Q := h
instance go_mkMapV {C : Addr} {sp : Sp} {E : XK} {tf t : TE} : Go (tMkMapV C sp E tf t σ H Q) (tf σ H fun c H0 => c = .ref C ∧ tMkMap C sp E t σ H0 Q) := ⟨rd_mkMapV⟩
end
end EE

/-! Own layer: what the laws' own defs need: xs.pop(i) of texts, d.get(k, i), pairs as data. -/
namespace EE
open PySem PySem.Spec PyProof.Rows L2
theorem pen_ne {n : Nat} {H : Hp} {p q m : Addr} {kvs : List (Key × V)} (h : PenAt n H p q) (hm : H m = some (.dK kvs)) : m ≠ p ∧ m ≠ q := by
  obtain ⟨ns, a, r, h1, h2, _⟩ := h
  exact ⟨fun z => (by rw [z, h1] at hm; cases hm), fun z => (by rw [z, h2] at hm; cases hm)⟩
/-- where the pen's own objects stay -/
theorem PenAt.but {n : Nat} {H H' : Hp} {p q d : Addr} (h : PenAt n H p q) (b : But d H H') (n1 : p ≠ d) (n2 : q ≠ d) : PenAt n H' p q := by
  obtain ⟨ns, a, r, h1, h2, h3⟩ := h
  exact ⟨ns, a, r, b _ _ n1 h1, b _ _ n2 h2, h3⟩
theorem eraseIdx_map {α β : Type} (f : α → β) : ∀ (l : List α) (j : Nat), (l.map f).eraseIdx j = (l.eraseIdx j).map f
  | [], _ => rfl
  | _ :: _, 0 => rfl
  | x :: l, j + 1 => by show f x :: (l.map f).eraseIdx j = _; rw [eraseIdx_map f l j]; rfl
theorem mem_eraseIdx {α : Type} {z : α} : ∀ {l : List α} {j : Nat} (hj : j < l.length), z ∈ l ↔ z = l[j] ∨ z ∈ l.eraseIdx j
  | x :: l, 0, _ => by simp
  | x :: l, j + 1, h => by
    have := mem_eraseIdx (z := z) (l := l) (j := j) (Nat.lt_of_succ_lt_succ h)
    simp only [List.mem_cons, List.getElem_cons_succ, List.eraseIdx_cons_succ]
    rw [this]
    exact ⟨fun q => q.elim (fun e => .inr (.inl e)) fun q => q.elim .inl fun e => .inr (.inr e), fun q => q.elim (fun e => .inr (.inl e)) fun q => q.elim .inl fun e => .inr (.inr e)⟩
theorem nodup_eraseIdx {α : Type} : ∀ {l : List α} {j : Nat} (hj : j < l.length), l.Nodup → l[j] ∉ l.eraseIdx j ∧ (l.eraseIdx j).Nodup
  | x :: l, 0, _, nd => by obtain ⟨a, b⟩ := List.nodup_cons.mp nd; exact ⟨a, b⟩
  | x :: l, j + 1, h, nd => by
    obtain ⟨a, b⟩ := List.nodup_cons.mp nd
    obtain ⟨c, d⟩ := nodup_eraseIdx (Nat.lt_of_succ_lt_succ h) b
    refine ⟨fun z => ?_, List.nodup_cons.mpr ⟨fun z => a (List.mem_of_mem_eraseIdx z), d⟩⟩
    rcases List.mem_cons.mp z with e | e
    · exact a (by rw [← e]; exact List.getElem_mem _)
    · exact c e
section
variable {K : PySem.W.Frag} {σ : L2.St} {H : Hp} {Q : VK}
theorem rd_popS {M : Addr} {zs : List Str} {e : Int} (h : H M = some (.lst (zs.map V.str))) (e0 : 0 ≤ e) (e1 : e < (zs.length : Nat)) (hl : zs.length ≤ 1000) (q : ∀ (j : Nat) (hj : j < zs.length) (H' : Hp), But M H H' → H' M = some (.lst ((zs.eraseIdx j).map V.str)) → Q (.str zs[j]) H') : rPopAt (.ref M) [.int e] H Q := by
  have hj : e.toNat < zs.length := by omega
  refine ⟨M, _, e, e.toNat, .str zs[e.toNat], rfl, rfl, h, by omega, by omega, ?_, by rw [List.getElem?_map, List.getElem?_eq_getElem hj]; rfl, q _ hj _ but_upd (by rw [upd_same, eraseIdx_map])⟩
  unfold seqIndex?
  simp only [List.length_map, show ¬ e < 0 by omega, if_false]
  rw [if_pos (by simp only [Bool.and_eq_true, decide_eq_true_eq]; exact ⟨e0, e1⟩)]
theorem put_last {bs : List (Str × Int)} {z : Str} {i j : Int} (h : z ∉ bs.map (·.1)) (nd : (bs.map (·.1)).Nodup) : putK (kwK (intB (bs ++ [(z, i)]))) (.inr z) (.int j) = kwK (intB (bs ++ [(z, j)])) := by
  have e : kwK (intB (bs ++ [(z, i)])) = kwK (intB bs) ++ [(.inr z, .int i)] := by unfold kwK intB; simp
  have e2 : kwK (intB (bs ++ [(z, j)])) = kwK (intB bs) ++ [(.inr z, .int j)] := by unfold kwK intB; simp
  rw [e, e2]
  unfold putK
  rw [if_pos (by simp), List.map_append]
  congr 1
  · conv => rhs; rw [← List.map_id (kwK (intB bs))]
    refine List.map_congr_left fun q hq => ?_
    unfold kwK intB at hq
    rw [List.map_map] at hq
    obtain ⟨r, hr, rfl⟩ := List.mem_map.mp hq
    show (if (Sum.inr r.1 : Key) = Sum.inr z then ((Sum.inr r.1 : Key), V.int j) else (Sum.inr r.1, V.int r.2)) = (Sum.inr r.1, V.int r.2)
    rw [if_neg fun y => h (List.mem_map.mpr ⟨r, hr, Sum.inr.inj y⟩)]
  · simp
def Nums (b : Nat) (bs : List (Str × Int)) : Prop := ∀ p ∈ bs, p.2.natAbs < 10 ^ b
/-! d.get(k, x) -/
def DGet2At (ty tx : TE) (σ : L2.St) (Q : VK) (x : V) (H1 : Hp) : Prop := ∃ a, x = .ref a ∧ IsD H1 a ∧ ty σ H1 fun y H2 => tx σ H2 fun z H3 => ∃ o, DGet H3 a y o ∧ Q (o.getD z) H3
theorem rd_dget2 {td ty tx : TE} (h : td σ H fun x H1 => DGet2At ty tx σ Q x H1) : tDGet2 td ty tx σ H Q := h
instance go_dget2 {td ty tx : TE} : Go (tDGet2 td ty tx σ H Q) (td σ H fun x H1 => DGet2At ty tx σ Q x H1) := ⟨rd_dget2⟩
def DGetD (a : Addr) (Q : VK) (y z : V) (H3 : Hp) : Prop := ∃ o, DGet H3 a y o ∧ Q (o.getD z) H3
theorem dget2_at {ty tx : TE} {a : Addr} {kvs : List (Key × V)} (h : Rd H a (.dK kvs)) (q : ty σ H fun y H2 => tx σ H2 fun z H3 => DGetD a Q y z H3) : DGet2At ty tx σ Q (.ref a) H := ⟨a, rfl, .inl ⟨kvs, h⟩, q⟩
theorem dgetd_int {a : Addr} {ps : List (Str × Int)} {z : Str} (h : Rd H a (.dK (kwK (intB ps)))) (q : Q (.int (getV ps z)) H) : DGetD a Q (.str z) (.int 0) H := by
  refine ⟨_, .inl ⟨_, .inr z, h, rfl, rfl⟩, ?_⟩
  rw [val_int]
  unfold getV at q
  cases c : ps.lookup z with
  | none => rw [c] at q; exact q
  | some i => rw [c] at q; exact q
/-! lists of pairs as data -/
def nvD (p : Str × Int) : PyData := .tuple [.str p.1, .int p.2]
def nvsD (ps : List (Str × Int)) : PyData := .list (ps.map nvD)
theorem dp_pair {t : Addr} {z : Str} {i : Int} (h : H t = some (.tup [.str z, .int i])) : Dp K H (.ref t) (nvD (z, i)) := .tup (sqT_of h) (.cons (.str z) (.cons (.int i) .nil))
theorem dpAll_keep {H' : Hp} {vs : List V} {ds : List PyData} (h : DpAll K H vs ds) (s : Same H H') : DpAll K H' vs ds := dpAll_same s ds vs h
theorem dpAll_append : ∀ {vs ws : List V} {ds es : List PyData}, DpAll K H vs ds → DpAll K H ws es → DpAll K H (vs ++ ws) (ds ++ es)
  | _, _, _, _, .nil, h => h
  | _, _, _, _, .cons a b, h => .cons a (dpAll_append b h)
theorem dpAll_len : ∀ {vs : List V} {ds : List PyData}, DpAll K H vs ds → vs.length = ds.length
  | _, _, .nil => rfl
  | _, _, .cons _ b => congrArg Nat.succ (dpAll_len b)
end
/-! small data whose leaves may be longer -/
structure SmW (n k : Nat) (d : PyData) : Prop where
  l : d.leavesShort 200 = true
  s : d.showable = true
  c : d.canLay0 = true
  b : d.bulk ≤ n
  d : d.depth ≤ k
structure SmWAll (n k : Nat) (ds : List PyData) : Prop where
  l : PyData.leavesShortAll 200 ds = true
  s : PyData.showableAll ds = true
  c : PyData.canLayAll0 ds = true
  b : PyData.bulkAll ds ≤ n
  d : PyData.depthAll ds ≤ k
theorem SmW.mono {n m k j : Nat} {d : PyData} (h : SmW n k d) (h1 : n ≤ m) (h2 : k ≤ j) : SmW m j d := ⟨h.l, h.s, h.c, Nat.le_trans h.b h1, Nat.le_trans h.d h2⟩
theorem smWAll_nil {k : Nat} : SmWAll 0 k [] := ⟨rfl, rfl, rfl, Nat.le_refl _, Nat.zero_le _⟩
theorem SmWAll.mono {n m k j : Nat} {d : List PyData} (h : SmWAll n k d) (h1 : n ≤ m) (h2 : k ≤ j) : SmWAll m j d := ⟨h.l, h.s, h.c, Nat.le_trans h.b h1, Nat.le_trans h.d h2⟩
theorem smWAll_cons {n m k : Nat} {d : PyData} {ds : List PyData} (h : SmW n k d) (t : SmWAll m k ds) : SmWAll (n + 1 + m) k (d :: ds) := by
  refine ⟨?_, ?_, ?_, ?_, ?_⟩
  · show (d.leavesShort 200 && PyData.leavesShortAll 200 ds) = true
    rw [h.l, t.l]; rfl
  · show (d.showable && PyData.showableAll ds) = true
    rw [h.s, t.s]; rfl
  · show (d.canLay0 && PyData.canLayAll0 ds) = true
    rw [h.c, t.c]; rfl
  · show d.bulk + 1 + PyData.bulkAll ds ≤ _
    have := h.b; have := t.b; omega
  · show max d.depth (PyData.depthAll ds) ≤ k
    exact Nat.max_le.mpr ⟨h.d, t.d⟩
theorem smWAll_of {n k : Nat} : ∀ {ds : List PyData}, (∀ d ∈ ds, SmW n k d) → SmWAll (ds.length * (n + 1)) k ds
  | [], _ => smWAll_nil.mono (Nat.zero_le _) (Nat.le_refl _)
  | d :: ds, h => (smWAll_cons (h d List.mem_cons_self) (smWAll_of fun x hx => h x (List.mem_cons_of_mem _ hx))).mono (by rw [List.length_cons, Nat.succ_mul]; omega) (Nat.le_refl _)
theorem SmWAll.list {n k : Nat} {ds : List PyData} (h : SmWAll n k ds) : SmW n (k + 1) (.list ds) := ⟨h.l, h.s, h.c, h.b, Nat.succ_le_succ h.d⟩
theorem SmWAll.tuple {n k : Nat} {ds : List PyData} (h : SmWAll n k ds) : SmW n (k + 1) (.tuple ds) := ⟨h.l, h.s, h.c, h.b, Nat.succ_le_succ h.d⟩
theorem smW_str {z : Str} {n : Nat} (ha : Asc z) (h : z.length ≤ n) : SmW n 0 (.str z) := by
  refine ⟨List.all_eq_true.mpr fun c hc => decide_eq_true (Nat.lt_trans (ha c hc) (by decide)), rfl, ha.ok, h, Nat.le_refl _⟩
theorem smW_int {i : Int} (h : i.natAbs < 10 ^ 190) : SmW 0 0 (.int i) := by
  refine ⟨decide_eq_true ?_, decide_eq_true (log2_lt (Nat.lt_trans h (by decide : 10 ^ 190 < 2 ^ 1920)) (by decide)), rfl, Nat.le_refl _, Nat.le_refl _⟩
  have := len_int (k := 190) (by decide) h
  exact Nat.le_trans this (by decide)
theorem smW_bool {b : Bool} : SmW 0 0 (.bool b) := ⟨rfl, rfl, rfl, Nat.le_refl _, Nat.le_refl _⟩
theorem SmW.shown {n k : Nat} {d : PyData} (h : SmW n k d) (hn : n ≤ 40000) (hk : k ≤ 60) : d.showable = true ∧ d.depth ≤ 60 ∧ d.shown.length ≤ sizeLine := by
  refine ⟨h.s, Nat.le_trans h.d hk, ?_⟩
  have := PyData.shown_le_bulk 200 (by decide) d h.l
  have := h.b
  have e : (sizeLine : Nat) = 16777216 := by decide
  rw [e]
  omega
theorem SmW.shaped {n k : Nat} {d : PyData} (h : SmW n k d) (hk : k ≤ 60) : SeqAt.shaped d = true := by
  unfold SeqAt.shaped
  rw [h.c, decide_eq_true (Nat.le_trans h.d (Nat.le_trans hk (by decide)))]
  rfl
theorem SmW.self {n k : Nat} {d : PyData} (h : SmW n k d) : PyData.eqv d d = true := PySem.SeqAt.eqv_refl d h.c
theorem smW_pairs {ps : List (Str × Int)} (hn : ∀ p ∈ ps, nameS p.1 = true) (hb : Nums 190 ps) : SmW (ps.length * 30) 2 (nvsD ps) := by
  have h : SmWAll ((ps.map nvD).length * (20 + 1)) 1 (ps.map nvD) := smWAll_of fun d hd => by
    obtain ⟨p, hp, rfl⟩ := List.mem_map.mp hd
    obtain ⟨h1, h2⟩ := nameS_bound (hn p hp)
    exact (smWAll_cons (smW_str h2 h1) (smWAll_cons (smW_int (hb p hp)) smWAll_nil)).tuple.mono (by decide) (Nat.le_refl _)
  rw [List.length_map] at h
  exact h.list.mono (by omega) (Nat.le_refl _)
section
variable {K : PySem.W.Frag} {H : Hp} {Q : VK}
theorem rd_reprW {n k : Nat} {a : Addr} {d : PyData} (h : Dp K H (.ref a) d) (s : SmW n k d) (hn : n ≤ 40000) (hk : k ≤ 60) (q : Q (.str d.shown) H) : rReprQ K [.ref a] H Q := let ⟨h1, h2, h3⟩ := s.shown hn hk; rd_reprQ h.dq h1 h2 h3 q
theorem rd_neW {n k : Nat} {x y : V} {d : PyData} (h1 : Dp K H x d) (h2 : Dp K H y d) (s : SmW n k d) (hk : k ≤ 60) (q : Q (.bl false) H) : rNeD K x y H Q := rd_neD h1 h2 (s.shaped hk) (s.shaped hk) (by rw [s.self]; exact q)
end
section
variable {σ : L2.St} {H : Hp} {Q : VK}
def CMethAt (C : Addr) (sp : Sp) (E : XK) (t : TA) (σ : L2.St) (Q : VK) (x : V) (H1 : Hp) : Prop := x = .ref C ∧ t σ H1 fun vs H2 => sp (.ref C :: vs) H2 Q E
theorem rd_cmeth {C : Addr} {sp : Sp} {E : XK} {ta : TE} {t : TA} (h : ta σ H fun x H1 => CMethAt C sp E t σ Q x H1) : ClX.tCMeth C sp E ta t σ H Q := h
instance go_cmeth {C : Addr} {sp : Sp} {E : XK} {ta : TE} {t : TA} : Go (ClX.tCMeth C sp E ta t σ H Q) (ta σ H fun x H1 => CMethAt C sp E t σ Q x H1) := ⟨rd_cmeth⟩
instance go_cmethAt {C : Addr} {sp : Sp} {E : XK} {t : TA} : Go (CMethAt C sp E t σ Q (.ref C) H) (t σ H fun vs H2 => sp (.ref C :: vs) H2 Q E) := ⟨fun h => ⟨rfl, h⟩⟩
/-- C(k = v, ..) of a vector -/
def KwsAt (C : Addr) (sp : Sp) (E : XK) (ks : List Str) (Q : VK) (vs : List V) (H1 : Hp) : Prop := vs.length = ks.length ∧ NamesOk (ks.zip vs) ∧ MkK C sp E (ks.zip vs) H1 Q
theorem rd_mkKws {C : Addr} {sp : Sp} {E : XK} {ks : List Str} {tk : TA} (h : tk σ H fun vs H1 => KwsAt C sp E ks Q vs H1) : tMkKws C sp E ks tk σ H Q := h
instance go_mkKws {C : Addr} {sp : Sp} {E : XK} {ks : List Str} {tk : TA} : Go (tMkKws C sp E ks tk σ H Q) (tk σ H fun vs H1 => KwsAt C sp E ks Q vs H1) := ⟨rd_mkKws⟩
theorem kws_at {C : Addr} {E : XK} {ks : List Str} {is : List Int} (hl : is.length = ks.length) (g : GoodB (ks.zip is)) (q : ∀ r d H', H r = none → H d = none → Same H H' → VecAt C H' r d (nrm (ks.zip is)) → Q (.ref r) H') : KwsAt C (spInitV C) E ks Q (is.map V.int) H := by
  have e : ks.zip (is.map V.int) = intB (ks.zip is) := by
    unfold intB
    rw [List.zip_map_right]
    rfl
  exact ⟨by rw [List.length_map]; exact hl, by rw [e]; exact g.names, newV e g q⟩
end
theorem vg_nrm {bs : List (Str × Int)} {m : Nat} (g : GoodB bs) (l : bs.length ≤ m) {b : Nat} (hb : ∀ p ∈ bs, p.2.natAbs < 2 ^ b) : Vg m b (nrm bs) := by
  refine vg_vec (fun n hn => ?_) (by rw [List.length_map]; exact l) fun n hn => ?_
  · obtain ⟨p, hp, rfl⟩ := List.mem_map.mp hn; exact g.1 p hp
  · obtain ⟨p, hp, rfl⟩ := List.mem_map.mp hn
    rw [getV_mem g.2.1 (i := p.2) hp]; exact hb p hp
theorem vg_nums {m b : Nat} {ps : List (Str × Int)} (h : Vg m b ps) (hb : b ≤ 600) : Nums 190 ps := fun p hp => Nat.lt_of_lt_of_le (h.b p hp) (Nat.le_trans (Nat.pow_le_pow_right (by decide) hb) (by decide +kernel))
theorem vg_data {m b : Nat} {ps : List (Str × Int)} (h : Vg m b ps) (hm : m ≤ 60) (hb : b ≤ 600) : SmW 1800 2 (nvsD ps) := (smW_pairs h.n (vg_nums h hb)).mono (by have := h.l; omega) (Nat.le_refl _)
/-- == of lists of pairs -/
theorem eqv_pairs : ∀ (ps qs : List (Str × Int)), PyData.eqv (nvsD ps) (nvsD qs) = decide (ps = qs) := by
  have all : ∀ (ps qs : List (Str × Int)), PyData.eqvAll (ps.map nvD) (qs.map nvD) = decide (ps = qs) := by
    intro ps
    induction ps with
    | nil => intro qs; cases qs <;> rfl
    | cons p ps ih =>
      intro qs
      cases qs with
      | nil => rfl
      | cons q qs =>
        show (PyData.eqv (nvD p) (nvD q) && PyData.eqvAll (ps.map nvD) (qs.map nvD)) = _
        rw [ih qs]
        have e : PyData.eqv (nvD p) (nvD q) = decide (p = q) := by
          obtain ⟨a, i⟩ := p
          obtain ⟨b, j⟩ := q
          show (a == b && (i == j && true)) = _
          by_cases c1 : a = b
          · by_cases c2 : i = j
            · rw [beq_iff_eq.mpr c1, beq_iff_eq.mpr c2, decide_eq_true (by rw [c1, c2])]; rfl
            · rw [beq_eq_false_iff_ne.mpr c2, Bool.false_and, Bool.and_false, decide_eq_false fun z => c2 (Prod.mk.inj z).2]
          · rw [beq_eq_false_iff_ne.mpr c1, Bool.false_and, decide_eq_false fun z => c1 (Prod.mk.inj z).1]
        rw [e]
        by_cases c1 : p = q
        · by_cases c2 : ps = qs
          · rw [decide_eq_true c1, decide_eq_true c2, decide_eq_true (by rw [c1, c2])]; rfl
          · rw [decide_eq_false c2, Bool.and_false, decide_eq_false fun z => c2 (List.cons.inj z).2]
        · rw [decide_eq_false c1, Bool.false_and, decide_eq_false fun z => c1 (List.cons.inj z).1]
  intro ps qs
  exact all ps qs
end EE

/-! Own layer: numbers as words; lines of words. -/
namespace EE
open PySem PySem.Spec PyProof.Rows L2
def digs : Str := "0123456789"
def isDg (c : Nat) : Bool := decide (48 ≤ c ∧ c ≤ 57)
theorem mem_digs (c : Nat) : decide (c ∈ digs.cps.toList) = isDg c := by
  have e : digs.cps.toList = [48, 49, 50, 51, 52, 53, 54, 55, 56, 57] := by decide +kernel
  rw [e]
  unfold isDg
  refine decide_eq_decide.mpr ?_
  simp only [List.mem_cons, List.not_mem_nil, or_false]
  omega
/-- digits, not too many, no 0 ahead -/
def okD (m : Nat) (ds : List Nat) : Bool := decide (1 ≤ ds.length ∧ ds.length ≤ m) && ds.all isDg
def numR (m : Nat) (z : Str) : Option Int :=
  match z.cps.toList with
  | 45 :: ds => if okD m ds && !decide (ds.head? = some 48) then some (-((NumText.digitsVal ds : Nat) : Int)) else none
  | ds => if okD m ds && (!decide (ds.head? = some 48) || decide (ds = [48])) then some ((NumText.digitsVal ds : Nat) : Int) else none
def optI : Option Int → V | some i => .int i | none => .non
theorem str_nil {z : Str} (h : z.cps.toList = []) (c : Nat) : z ≠ ⟨#[c]⟩ := fun e => by
  rw [e] at h
  cases h
theorem str_eq {z : Str} {l : List Nat} : z = ⟨l.toArray⟩ ↔ z.cps.toList = l := ⟨fun e => by rw [e], fun e => by
  rw [← e]⟩
theorem cut_tail (z : Str) : (cutS z (some 1) none).cps.toList = z.cps.toList.drop 1 := by
  show (((z.cps.toList.drop _).take _).toArray).toList = _
  have e1 : HT.sIx z.length 0 (some 1) = min 1 z.length := by unfold HT.sIx; simp
  have e2 : HT.sIx z.length z.length none = z.length := rfl
  have el : z.cps.toList.length = z.length := Array.length_toList
  rw [e1, e2]
  by_cases h : 1 ≤ z.length
  · rw [Nat.min_eq_left h]
    exact List.take_of_length_le (by rw [List.length_drop, el]; exact Nat.le_refl _)
  · have : z.cps.toList = [] := List.length_eq_zero_iff.mp (by omega)
    rw [this]
    simp
theorem cut_head (z : Str) : (cutS z none (some 1)).cps.toList = z.cps.toList.take 1 := by
  show (((z.cps.toList.drop _).take _).toArray).toList = _
  have e1 : HT.sIx z.length z.length (some 1) = min 1 z.length := by unfold HT.sIx; simp
  have e2 : HT.sIx z.length 0 none = 0 := rfl
  have el : z.cps.toList.length = z.length := Array.length_toList
  rw [e1, e2]
  show (z.cps.toList.drop 0).take _ = _
  rw [List.drop_zero, Nat.sub_zero]
  by_cases h : 1 ≤ z.length
  · rw [Nat.min_eq_left h]
  · have : z.cps.toList = [] := List.length_eq_zero_iff.mp (by omega)
    rw [this]
    simp
def digL : List Nat → List Nat | 45 :: ds => ds | ds => ds
theorem numR_bad {m : Nat} {z : Str} (h : okD m (digL z.cps.toList) = false) : numR m z = none := by
  unfold numR
  unfold digL at h
  split at h
  · rw [h, Bool.false_and]
    exact if_neg Bool.false_ne_true
  · rw [h, Bool.false_and]
    exact if_neg Bool.false_ne_true
theorem numR_zero {m : Nat} {z : Str} (h : (digL z.cps.toList).head? = some 48) (n : z.cps.toList ≠ [48]) : numR m z = none := by
  unfold numR
  unfold digL at h
  split at h
  · rw [decide_eq_true h, Bool.not_true, Bool.and_false]
    exact if_neg Bool.false_ne_true
  · rw [decide_eq_true h, decide_eq_false n, Bool.not_true, Bool.or_false, Bool.and_false]
    exact if_neg Bool.false_ne_true
theorem allDg {ds : List Nat} (h : ds.all isDg = true) : ∀ c ∈ ds, 48 ≤ c ∧ c ≤ 57 := fun c hc => by
  have z := List.all_eq_true.mp h c hc
  exact of_decide_eq_true z
theorem numR_good {m : Nat} {z : Str} (hm : m ≤ 600) (h : okD m (digL z.cps.toList) = true) (n : (digL z.cps.toList).head? = some 48 → z.cps.toList = [48]) : ∃ i, numR m z = some i ∧ intText? z = some i ∧ z.length ≤ 640 := by
  have el : z.cps.toList.length = z.length := Array.length_toList
  have h' := h
  unfold okD at h
  rw [Bool.and_eq_true, decide_eq_true_eq] at h
  obtain ⟨⟨h1, h2⟩, h3⟩ := h
  unfold numR
  cases hz : z.cps.toList with
  | nil => rw [hz] at h1; exact absurd h1 (by decide)
  | cons c ds =>
    rw [hz] at h' h1 h2 h3 n el
    by_cases hc : c = 45
    · subst hc
      have nh : ds.head? ≠ some 48 := fun q => by have := n q; cases this
      have h'' : okD m ds = true := h'
      have e : z.length ≤ 640 := by
        have : ds.length ≤ m := h2
        simp only [List.length_cons] at el
        omega
      refine ⟨-((NumText.digitsVal ds : Nat) : Int), ?_, intText_neg hz (allDg h3) (fun q => by rw [q] at h1; exact absurd h1 (by decide)) (by omega), e⟩
      simp only [h'', decide_eq_false nh, Bool.not_false, Bool.and_self]
      rfl
    · have ed : digL (c :: ds) = c :: ds := by
        unfold digL
        split
        · rename_i q; injection q with q1 q2; exact absurd q1 hc
        · rfl
      rw [ed] at h' h1 h2 h3 n
      have e : z.length ≤ 640 := by omega
      refine ⟨((NumText.digitsVal (c :: ds) : Nat) : Int), ?_, by have q := intText_digits (x := z) (by rw [hz]; exact allDg h3) (by rw [hz]; exact List.cons_ne_nil _ _) (by omega); rw [hz] at q; exact q, e⟩
      split
      · rename_i q; injection q with q1 q2; exact absurd q1 hc
      · have hh : (!decide ((c :: ds).head? = some 48) || decide (c :: ds = [48])) = true := by
          by_cases q : (c :: ds).head? = some 48
          · rw [decide_eq_true (n q), Bool.or_true]
          · rw [decide_eq_false q]; rfl
        rw [h', hh]
        rfl
theorem dash {z : Str} : cutS z none (some 1) = ("-" : Str) ↔ ∃ ds, z.cps.toList = 45 :: ds := by
  have e1 : ("-" : Str) = ⟨[45].toArray⟩ := by decide +kernel
  rw [e1, str_eq, cut_head]
  cases z.cps.toList with
  | nil => simp
  | cons c ds => simp
theorem digL_cut {z : Str} (h : cutS z none (some 1) = ("-" : Str)) : (cutS z (some 1) none).cps.toList = digL z.cps.toList := by
  obtain ⟨ds, e⟩ := dash.mp h
  rw [cut_tail, e]
  rfl
theorem digL_not {z : Str} (h : ¬ cutS z none (some 1) = ("-" : Str)) : z.cps.toList = digL z.cps.toList := by
  unfold digL
  split
  · rename_i ds e
    exact absurd (dash.mpr ⟨ds, e⟩) h
  · rfl
theorem atI_zero {α : Type} (c : α) (cs : List α) : atI (c :: cs) 0 = some c := by
  unfold atI ixN
  simp
  all_goals omega
def spNum : Sp := fun vs H Q _ => ∃ (z : Str) (m : Nat), vs = [.str z, .int m] ∧ z.length ≤ 1000 ∧ Asc z ∧ m ≤ 600 ∧ ∀ H', Same H H' → Q (optI (numR m z)) H'
/-- the class Line in K -/
structure LnK (K : PySem.W.Frag) (mg : Str → Option Value) (C : Addr) : Prop where
  cl : Cls K C
  g : mg "Line" = some (.ref C)
  nW : NoAttr K C "line_words"
  nI : NoAttr K C "line_index"
  nT : NoAttr K C "taken"
def lnF (l : Addr) (i t : Nat) : List (Str × V) := [("line_words", .ref l), ("line_index", .int i), ("taken", .int t)]
/-- at a: a Line of the words ws (the i-th line), t of them taken -/
structure LineAt (C : Addr) (H : Hp) (a dx l : Addr) (ws : List Str) (i t : Nat) : Prop where
  at_ : H a = some (.ins C dx (lnF l i t))
  ws_ : H l = some (.lst (ws.map V.str))
theorem put_taken (l : Addr) (i t u : Nat) : putF "taken" (.int u) (lnF l i t) = lnF l i u := by
  unfold lnF
  simp only [putF]
  rw [if_neg (by decide +kernel), if_neg (by decide +kernel)]
  simp
def spInit (C : Addr) : Sp := fun vs H Q _ => ∃ (a dx : Addr) (z : Str) (i : Nat), vs = [.ref a, .str z, .int i] ∧ H a = some (.ins C dx []) ∧ z.length ≤ 100000 ∧
  ∀ l H', H l = none → But a H H' → LineAt C H' a dx l (Txt.split z " ") i 0 → Q .non H'
def spOver (C : Addr) : Sp := fun vs H Q _ => ∃ (a dx l : Addr) (ws : List Str) (i t : Nat), vs = [.ref a] ∧ LineAt C H a dx l ws i t ∧ Q (.bl (decide (t = ws.length))) H
/-- InvalidText(i, t) is raised -/
def Rz (CT : Addr) (E : XK) (i t : Nat) (H : Hp) : Prop := ∀ d H', Same H H' → H d = none → H' d = some (.xd [("word", .int t), ("line", .int i)]) → E (.ref CT) (some d) H'
def spRefuse (C CT : Addr) : Sp := fun vs H _ E => ∃ (a dx l : Addr) (ws : List Str) (i t b : Nat), vs = [.ref a, .int b] ∧ b ≤ t ∧ LineAt C H a dx l ws i t ∧ Rz CT E i (t - b) H
theorem LineAt.keep {C a dx l : Addr} {H H' : Hp} {ws : List Str} {i t : Nat} (h : LineAt C H a dx l ws i t) (s : Same H H') : LineAt C H' a dx l ws i t := ⟨s _ _ h.at_, s _ _ h.ws_⟩
end EE

/-! Own layer: words read one behind the other; texts compared, cut, put together. -/
namespace EE
open PySem PySem.Spec PyProof.Rows L2
/-! texts compared -/
def rLtS : R2 := fun x y H Q => ∃ i j, x = .str i ∧ y = .str j ∧ Q (.bl (decide (i.cps.toList < j.cps.toList))) H
def rLeS : R2 := fun x y H Q => ∃ i j, x = .str i ∧ y = .str j ∧ Q (.bl (!decide (j.cps.toList < i.cps.toList))) H
theorem or_ltS {X : Cx} : OpR X (compareOp .Lt) rLtS := op_lt_str
theorem or_leS {X : Cx} : OpR X (compareOp .LtE) rLeS := op_le_str
section
variable {K : PySem.W.Frag} {σ : L2.St} {H : Hp} {Q : VK} {x y : Str}
theorem rd_ltS (q : Q (.bl (decide (sLt x y))) H) : rLtS (.str x) (.str y) H Q := ⟨x, y, rfl, rfl, q⟩
theorem rd_leS (q : Q (.bl (!decide (sLt y x))) H) : rLeS (.str x) (.str y) H Q := ⟨x, y, rfl, rfl, q⟩
instance go_ltS : Go (rLtS (.str x) (.str y) H Q) (Q (.bl (decide (sLt x y))) H) := ⟨rd_ltS⟩
instance go_leS : Go (rLeS (.str x) (.str y) H Q) (Q (.bl (!decide (sLt y x))) H) := ⟨rd_leS⟩
/-! partition -/
def rPart : V → List V → Hp → VK → Prop := fun x xs H Q => ∃ a b, x = .str a ∧ xs = [.str b] ∧ (b.length == 0) = false ∧ a.length ≤ sizeLine ∧ ∀ p, H p = none → Q (.ref p) (upd H p (.tup [.str (Txt.partition a b).1, .str (Txt.partition a b).2.1, .str (Txt.partition a b).2.2]))
theorem pe_partN {X : Cx} {o e : Expr} {to te : TE} {apos pos : Pos} (ho : PE X o to) (he : PE X e te) (hs : starEach [e] X.env = [(false, eval e X.env)] := by rfl) (hbase : attributeBase o "partition" X.env (eval o X.env) = eval o X.env := by rfl) (hline : (apos.endLine == pos.line) = true := by rfl) :
    PE X (.Call (.Attribute o "partition" apos) [e] [] pos) (tM1 rPart to te) := pe_partition ho he hs hbase hline
theorem part_at {a b : Str} (ha : a.length ≤ 1000000) (hb : (b.length == 0) = false) (q : ∀ p H', H p = none → Same H H' → H' p = some (.tup [.str (Txt.partition a b).1, .str (Txt.partition a b).2.1, .str (Txt.partition a b).2.2]) → Q (.ref p) H') : rPart (.str a) [.str b] H Q :=
  ⟨a, b, rfl, rfl, hb, Nat.le_trans ha (by decide), fun p n => q p _ n (same_new n) upd_same⟩
/-! f-strings -/
def FmtAt (Q : VK) (x : V) (H1 : Hp) : Prop := (∃ y : Str, x = .str y ∧ y.length ≤ sizeLine ∧ Q (.str y) H1) ∨ ∃ i : Int, x = .int i ∧ i.natAbs.log2 < 1920 ∧ Q (.str (toString i)) H1
theorem rd_fmt {te : TE} (h : te σ H fun x H1 => FmtAt Q x H1) : tFmt te σ H Q := h
instance go_fmt {te : TE} : Go (tFmt te σ H Q) (te σ H fun x H1 => FmtAt Q x H1) := ⟨rd_fmt⟩
theorem fmt_s (h : x.length ≤ 1000000) (q : Q (.str x) H) : FmtAt Q (.str x) H := .inl ⟨x, rfl, Nat.le_trans h (by decide), q⟩
theorem fmt_i {i : Int} (h : i.natAbs < 2 ^ 1900) (q : Q (.str (toString i)) H) : FmtAt Q (.int i) H := .inr ⟨i, rfl, log2_lt (Nat.lt_of_lt_of_le h (Nat.pow_le_pow_right (by decide) (by decide))) (by decide), q⟩
def JsAt (ts : List TE) (acc : Str) (σ : L2.St) (R : Str → Hp → Prop) (x : V) (H1 : Hp) : Prop := ∃ y : Str, x = .str y ∧ (acc ++ y).length ≤ sizeLine ∧ tJs ts (acc ++ y) σ H1 R
theorem rd_js {t : TE} {ts : List TE} {acc : Str} {R : Str → Hp → Prop} (h : t σ H fun x H1 => JsAt ts acc σ R x H1) : tJs (t :: ts) acc σ H R := h
instance go_js {t : TE} {ts : List TE} {acc : Str} {R : Str → Hp → Prop} : Go (tJs (t :: ts) acc σ H R) (t σ H fun x H1 => JsAt ts acc σ R x H1) := ⟨rd_js⟩
instance go_js0 {acc : Str} {R : Str → Hp → Prop} : Go (tJs [] acc σ H R) (R acc H) := ⟨fun h => h⟩
theorem js_at {ts : List TE} {acc y : Str} {R : Str → Hp → Prop} (h : acc.length + y.length ≤ 1000000) (q : tJs ts (acc ++ y) σ H R) : JsAt ts acc σ R (.str y) H := ⟨y, rfl, by rw [len_append]; exact Nat.le_trans h (by decide), q⟩
def tJoined (ts : List TE) : TE := fun σ H Q => tJs ts Str.empty σ H fun out H1 => Q (.str out) H1
theorem pe_joinedN {X : Cx} {v1 v2 : Expr} {rest : List Expr} {ts : List TE} {pos : Pos} (h : PJ X (v1 :: v2 :: rest) ts) : PE X (.JoinedStr (v1 :: v2 :: rest) pos) (tJoined ts) := pe_joined h
instance go_joined {ts : List TE} : Go (tJoined ts σ H Q) (tJs ts Str.empty σ H fun out H1 => Q (.str out) H1) := ⟨fun h => h⟩
theorem empty_app (y : Str) : Str.empty ++ y = y := by
  refine str_of_list ?_
  show (Str.empty.cps ++ y.cps).toList = _
  rw [Array.toList_append]
  rfl
end
/-! ### words read -/
def amtR (m : Nat) (z : Str) : Option (Str × Int) := match numR m (Txt.partition z "=").2.2 with
  | some i => if nameS (Txt.partition z "=").1 = true ∧ i ≠ 0 then some ((Txt.partition z "=").1, i) else none
  | none => none
def rdW {α : Type} (f : Str → Option (Str × α)) : Str → Nat → List Str → Except Nat (List (Str × α))
  | _, _, [] => .ok []
  | last, k, w :: ws => match f w with
    | none => .error k
    | some (n, i) => if sLt last n then (match rdW f n (k + 1) ws with
      | .ok r => .ok ((n, i) :: r)
      | .error e => .error e) else .error k
theorem amtR_name {m : Nat} {z n : Str} {i : Int} (h : amtR m z = some (n, i)) : nameS n = true ∧ i ≠ 0 ∧ numR m (Txt.partition z "=").2.2 = some i := by
  unfold amtR at h
  cases c : numR m (Txt.partition z "=").2.2 with
  | none => rw [c] at h; cases h
  | some j =>
    rw [c] at h
    dsimp only at h
    by_cases d : nameS (Txt.partition z "=").1 = true ∧ j ≠ 0
    · rw [if_pos d] at h; cases h; exact ⟨d.1, d.2, rfl⟩
    · rw [if_neg d] at h; cases h
def pre {α : Type} (ps : List α) : Except Nat (List α) → Except Nat (List α)
  | .ok r => .ok (ps ++ r)
  | .error e => .error e
theorem pre_nil {α : Type} (e : Except Nat (List α)) : pre [] e = e := by cases e <;> rfl
theorem rdW_bad {α : Type} {f : Str → Option (Str × α)} {last w : Str} {k : Nat} {ws : List Str} (h : f w = none) : rdW f last k (w :: ws) = .error k := by simp only [rdW, h]
theorem rdW_low {α : Type} {f : Str → Option (Str × α)} {last w n : Str} {i : α} {k : Nat} {ws : List Str} (h : f w = some (n, i)) (l : ¬ sLt last n) : rdW f last k (w :: ws) = .error k := by simp only [rdW, h, if_neg l]
theorem rdW_go {α : Type} {f : Str → Option (Str × α)} {last w n : Str} {i : α} {k : Nat} {ws : List Str} (ps : List (Str × α)) (h : f w = some (n, i)) (l : sLt last n) : pre ps (rdW f last k (w :: ws)) = pre (ps ++ [(n, i)]) (rdW f n (k + 1) ws) := by
  simp only [rdW, h, if_pos l]
  cases rdW f n (k + 1) ws with
  | ok r => show Except.ok (ps ++ (n, i) :: r) = .ok ((ps ++ [(n, i)]) ++ r); rw [List.append_assoc]; rfl
  | error e => rfl
/-- the names of what is read ascend -/
theorem rdW_srt {α : Type} {f : Str → Option (Str × α)} : ∀ {ws : List Str} {last : Str} {k : Nat} {r : List (Str × α)}, rdW f last k ws = .ok r → Srt (r.map (·.1)) ∧ (∀ p ∈ r, sLt last p.1) ∧ (∀ p ∈ r, ∃ w ∈ ws, f w = some p) ∧ r.length = ws.length
  | [], _, _, r, h => by cases h; exact ⟨List.Pairwise.nil, fun p h => (by cases h), fun p h => (by cases h), rfl⟩
  | w :: ws, last, k, r, h => by
    cases c : f w with
    | none => rw [rdW_bad c] at h; cases h
    | some q =>
      obtain ⟨n, i⟩ := q
      by_cases l : sLt last n
      · have e := rdW_go (k := k) (ws := ws) [] c l
        rw [pre_nil, h] at e
        cases d : rdW f n (k + 1) ws with
        | error x => rw [d] at e; cases e
        | ok s =>
          rw [d] at e
          have e : r = [] ++ [(n, i)] ++ s := by injection e
          rw [List.nil_append] at e
          subst e
          obtain ⟨h1, h2, h3, h4⟩ := rdW_srt d
          refine ⟨List.pairwise_cons.mpr ⟨fun z hz => ?_, h1⟩, fun p hp => ?_, fun p hp => ?_, by rw [List.length_append, h4]; simp; omega⟩
          · obtain ⟨p, hp, rfl⟩ := List.mem_map.mp hz; exact h2 p hp
          · rcases List.mem_cons.mp hp with rfl | hp
            · exact l
            · exact sLt_trans l (h2 p hp)
          · rcases List.mem_cons.mp hp with rfl | hp
            · exact ⟨w, List.mem_cons_self, c⟩
            · obtain ⟨v, hv, e⟩ := h3 p hp; exact ⟨v, List.mem_cons_of_mem _ hv, e⟩
      · rw [rdW_low c l] at h; cases h
/-- what the meaning of a word is as a value -/
def MeanV (o : Option (Str × Int)) (v : V) (H : Hp) : Prop := (o = none → v = .non) ∧ ∀ n i, o = some (n, i) → ∃ t : Addr, v = .ref t ∧ H t = some (.tup [.str n, .int i])
/-- the function at fm reads words as f does -/
def MeansAt (P : Program) (w : World) (K : PySem.W.Frag) (mg : Str → Option Value) (base : Heap) (k : Nat) (fm : Addr) (f : Str → Option (Str × Int)) (ws : List Str) (a : Addr) (H : Hp) : Prop := ∀ z ∈ ws, ∀ H1, But a H H1 → CallsAt P w K mg base CX0 k fm [.str z] H1 (fun v H2 => Same H1 H2 ∧ MeanV (f z) v H2) (fun _ _ _ => False)
def spTakeN (P : Program) (w : World) (K : PySem.W.Frag) (mg : Str → Option Value) (base : Heap) (C CT : Addr) : Sp := fun vs H Q E => ∃ (a dx l fm : Addr) (ws : List Str) (i t : Nat), vs = [.ref a, .ref fm] ∧ LineAt C H a dx l ws i t ∧ t ≤ ws.length ∧ FnV K H fm ∧
  (t = ws.length → Rz CT E i t H) ∧ ∀ w', ws[t]? = some w' → CallsAt P w K mg base CX0 3 fm [.str w'] H (fun v H1 => Same H H1 ∧ (v = .non → Rz CT E i t H1) ∧ (v ≠ .non → ∀ H', But a H1 H' → LineAt C H' a dx l ws i (t + 1) → Q v H')) (fun _ _ _ => False)
/-- raised with the line's index i and the place t, the line at a having moved -/
def RzB (CT : Addr) (E : XK) (a : Addr) (i t : Nat) (H : Hp) : Prop := ∀ d H', But a H H' → H' d = some (.xd [("word", .int t), ("line", .int i)]) → E (.ref CT) (some d) H'
def spTakeAll (P : Program) (w : World) (K : PySem.W.Frag) (mg : Str → Option Value) (base : Heap) (C CT : Addr) : Sp := fun vs H Q E => ∃ (a dx l fm : Addr) (ws : List Str) (i : Nat) (f : Str → Option (Str × Int)), vs = [.ref a, .ref fm, .int 1] ∧ LineAt C H a dx l ws i 0 ∧ ws ≠ [] ∧ ws.length ≤ 1000 ∧ FnV K H fm ∧ MeansAt P w K mg base 3 fm f ws a H ∧ (∀ z n i, f z = some (n, i) → nameS n = true) ∧
  (∀ k, rdW f "" 0 ws = .error k → RzB CT E a i k H) ∧ ∀ ps, rdW f "" 0 ws = .ok ps → ∀ p H', H p = none → But a H H' → H' p = some (.dK (kwK (intB ps))) → Q (.ref p) H'
def spNext (C : Addr) : Sp := fun vs H Q _ => ∃ (a dx l : Addr) (ws : List Str) (i t : Nat), vs = [.ref a] ∧ LineAt C H a dx l ws i t ∧ t ≤ ws.length ∧ Q (match ws[t]? with | some z => .str z | none => .non) H
/-- skips(word): one word, asked at the beginning -/
def spSkip (C : Addr) : Sp := fun vs H Q _ => ∃ (a dx l t : Addr) (w w0 : Str) (ws : List Str) (i : Nat), vs = [.ref a, .ref t] ∧ H t = some (.tup [.str w]) ∧ LineAt C H a dx l (w0 :: ws) i 0 ∧ (w0 = w → ∀ H', But a H H' → LineAt C H' a dx l (w0 :: ws) i 1 → Q (.bl true) H') ∧ (w0 ≠ w → ∀ H', But a H H' → LineAt C H' a dx l (w0 :: ws) i 0 → Q (.bl false) H')
def spClose (C CT : Addr) : Sp := fun vs H Q E => ∃ (a dx l : Addr) (ws : List Str) (i t : Nat), vs = [.ref a] ∧ LineAt C H a dx l ws i t ∧ (t ≠ ws.length → Rz CT E i t H) ∧ (t = ws.length → Q .non H)
end EE

/-! Own layer: a text cut at a sign: split, partition, count. -/
namespace EE
open PySem PySem.Spec PyProof.Rows L2
theorem cutL (s : Nat) : ∀ l : List Nat, s ∉ l ∨ ∃ a b, l = a ++ s :: b ∧ s ∉ a
  | [] => .inl (by simp)
  | c :: l => by
    by_cases e : c = s
    · exact .inr ⟨[], l, by rw [e]; rfl, by simp⟩
    · rcases cutL s l with h | ⟨a, b, h, n⟩
      · exact .inl fun z => (List.mem_cons.mp z).elim (fun y => e y.symm) h
      · exact .inr ⟨c :: a, b, by rw [h]; rfl, fun z => (List.mem_cons.mp z).elim (fun y => e y.symm) n⟩
/-- y is the one sign s -/
structure Sep (y : Str) (s : Nat) : Prop where
  e : TL.tl y = [s]
  k : y.cps.all (· < 256) = true
section
variable {y : Str} {s : Nat} (Y : Sep y s)
include Y
theorem cut_cases (z : Str) : s ∉ TL.tl z ∨ ∃ a b : Str, z = a ++ y ++ b ∧ s ∉ TL.tl a := by
  rcases cutL s (TL.tl z) with h | ⟨a, b, h, n⟩
  · exact .inl h
  · refine .inr ⟨⟨a.toArray⟩, ⟨b.toArray⟩, str_of_list ?_, n⟩
    show TL.tl z = TL.tl (_ ++ y ++ _)
    rw [TL.tl_append, TL.tl_append, Y.e, h, List.append_assoc]; rfl
theorem split_none {z : Str} (h : s ∉ TL.tl z) : Txt.split z y = [z] := by
  refine TL.map_tl_inj ?_
  rw [TL.split_spl _ y (by rw [Y.e]; simp) (TL.kind_ok Y.k), Y.e, TL.spl_last1 h]; rfl
theorem split_cons {a b : Str} (h : s ∉ TL.tl a) : Txt.split (a ++ y ++ b) y = a :: Txt.split b y := by
  refine TL.map_tl_inj ?_
  have e : TL.tl (a ++ y ++ b) = TL.tl a ++ ([s] ++ TL.tl b) := by rw [TL.tl_append, TL.tl_append, Y.e, List.append_assoc]
  rw [TL.split_spl _ y (by rw [Y.e]; simp) (TL.kind_ok Y.k), Y.e, e, TL.spl_part1 h, List.map_cons, TL.split_spl _ y (by rw [Y.e]; simp) (TL.kind_ok Y.k), Y.e]; rfl
theorem part_none {z : Str} (h : s ∉ TL.tl z) : Txt.partition z y = (z, Str.empty, Str.empty) := TL.partition_none Y.e h
theorem part_cons {a b : Str} (h : s ∉ TL.tl a) : Txt.partition (a ++ y ++ b) y = (a, y, b) := TL.partition_app Y.e h
theorem count_split (z : Str) : (Txt.count z y : Int) = (Txt.split z y).length - 1 := by
  have hy : TL.tl y ≠ [] := by rw [Y.e]; simp
  obtain ⟨f, g, hn⟩ := PySem.StrLaws.occ_tight z y (TL.len1 hy)
  have key := TL.parts_spl hy _ 0 f (Nat.zero_le _) g hn
  rw [List.drop_zero, ← TL.split_spl z y hy (TL.kind_ok Y.k)] at key
  have l := congrArg List.length key
  rw [List.length_map, List.length_map] at l
  have parts : ∀ (cuts : List Nat) (n a : Nat), (PySem.StrLaws.partsFrom z n a cuts).length = cuts.length + 1 := by
    intro cuts
    induction cuts with
    | nil => intro n a; rfl
    | cons c r ih => intro n a; show (PySem.StrLaws.partsFrom z n (c + n) r).length + 1 = _; rw [ih]; rfl
  rw [parts] at l
  show ((PySem.Builtin.Str.occurrences z y 0 z.length (z.length + 1)).length : Int) = _
  omega
end
theorem sepEq : Sep "=" 61 := ⟨by decide +kernel, by decide +kernel⟩
theorem sepSp : Sep " " 32 := ⟨by decide +kernel, by decide +kernel⟩
theorem asc_left {a b : Str} (h : Asc (a ++ b)) : Asc a := fun c hc => h c (by show c ∈ TL.tl (a ++ b); rw [TL.tl_append]; exact List.mem_append_left _ hc)
theorem asc_right {a b : Str} (h : Asc (a ++ b)) : Asc b := fun c hc => h c (by show c ∈ TL.tl (a ++ b); rw [TL.tl_append]; exact List.mem_append_right _ hc)
theorem part_ok {y : Str} {s : Nat} (Y : Sep y s) {z : Str} (ha : Asc z) : (Txt.partition z y).1.length ≤ z.length ∧ Asc (Txt.partition z y).1 ∧ (Txt.partition z y).2.2.length ≤ z.length ∧ Asc (Txt.partition z y).2.2 := by
  rcases cut_cases Y z with h | ⟨a, b, rfl, h⟩
  · rw [part_none Y h]
    exact ⟨Nat.le_refl _, ha, Nat.zero_le _, fun c hc => by cases hc⟩
  · rw [part_cons Y h]
    refine ⟨?_, asc_left (asc_left ha), ?_, asc_right ha⟩
    · rw [len_append, len_append]; show a.length ≤ _; omega
    · rw [len_append, len_append]; show b.length ≤ _; omega
def spAmt : Sp := fun vs H Q _ => ∃ (z : Str) (m : Nat), vs = [.str z, .int m] ∧ z.length ≤ 1000 ∧ Asc z ∧ m ≤ 600 ∧ ∀ v H', Same H H' → MeanV (amtR m z) v H' → Q v H'
end EE

/-! Own layer: classmethods inside try, and by keyword. -/
namespace EE
open PySem PySem.Spec PyProof.Rows L2 ClX
section
variable {X : Cx} {CX : CXT} {k : Nat} {C p g : Addr} {mc : Value} {sp : Sp} {o e : Expr} {es : List Expr} {m : Str} {pos apos : Pos} {ta : TE} {t : TA}
theorem run_cmS {pins : List (Addr × Obj)} {σ : L2.St} {H : Hp} {s : Shared} {E : L2.St → XK} {q : Addr} {Q : VK} {us : List Value} {vs : List V} (F : FnR X.prog X.w X.K X.mg X.base CX k g sp) (hr : Room k X.A) (hx : PassesAt CX X σ (E σ)) (I : Inv X ((q, PySem.W.methodObj (.ref g) (.ref C)) :: pins) σ H s)
    (r : Vals vs us) (h : sp (.ref C :: vs) H Q (E σ)) : wpAny (model X.prog X.w) X.A (call (.ref q) us) (EP X pins σ Q) X.xe s := by
  have z : wpAny (model X.prog X.w) X.A (call (.ref q) us) (EP X ((q, PySem.W.methodObj (.ref g) (.ref C)) :: pins) σ Q) X.xe s := by
    refine wpAny_call (PySem.W.method_call (pin_at I) (codeAny_mono (F X.A X.stack s H (.ref C :: us) (.ref C :: vs) Q (E σ) hr I.env0 (.cons rfl r) h) fun r s' hq => ?_))
    cases r with
    | error e => exact hx _ H s e s' I hq
    | ok fl =>
      cases fl with
      | ret u => exact I.after hq
      | next => exact False.elim hq
      | brk => exact False.elim hq
      | cont => exact False.elim hq
  exact thn z fun _ _ y => unpinE y
/-- C.m(..) in a try -/
def tCMethS (C : Addr) (sp : Sp) (E : L2.St → XK) (ta : TE) (t : TA) : TE := fun σ H Q => ta σ H fun x H1 => x = .ref C ∧ t σ H1 fun vs H2 => sp (.ref C :: vs) H2 Q (E σ)
theorem pe_cmethS {E : L2.St → XK} {pl : Sem Bool} (he : PE X o ta) (r : CRead X.K C mc) (c : CMet X.K C mc m p g) (F : FnR X.prog X.w X.K X.mg X.base CX k g sp) (hr : Room k X.A) (hx : ∀ σ, PassesAt CX X σ (E σ)) (ha : PA X (e :: es) t)
    (hst : starEach (e :: es) X.env = (false, eval e X.env) :: starEach es X.env := by rfl) (hpl : (backTo pos (starEach es X.env)).any (·.1) = false := by rfl)
    (ht : eval (.Call (.Attribute o m apos) (e :: es) [] pos) X.env = (do
      let ov ← eval o X.env
      standAt apos.atName
      let (f, first) ← holding [ov] (getMethod ov m pl)
      callWith pos f first (backTo pos (starEach (e :: es) X.env)) (backToKw pos (keywordEach [] X.env))) := by rfl) :
    PE X (.Call (.Attribute o m apos) (e :: es) [] pos) (tCMethS C sp E ta t) := by
  refine ⟨fun pins s σ H Q I h => ?_⟩
  refine PySem.W.methodCall_KW (pl := pl) (thn (he.run pins s σ H _ I h) fun u s1 ⟨x, H1, I1, rx, ex, q⟩ => ?_) ht
  subst ex
  obtain rfl : u = Value.ref C := rx
  refine getmethcm_ok I1 r c fun s2 I2 => ?_
  refine callwith_cm I2 (base_none I1 (Nat.le_refl _)) c.fi (thn (ha.run pos _ s2 σ H1 _ I2 q) fun us s3 ⟨vs, H2, I3, rv, q2⟩ => ⟨⟨pin_at I3, I3.kIn⟩, ?_⟩) hst hpl
  exact run_cmS F hr (hx σ) I3 rv q2
instance go_cmethS {σ : L2.St} {H : Hp} {Q : VK} {E : L2.St → XK} : Go (tCMethS C sp E ta t σ H Q) (ta σ H fun x H1 => x = .ref C ∧ t σ H1 fun vs H2 => sp (.ref C :: vs) H2 Q (E σ)) := ⟨fun h => h⟩
/-- C.m(k = v) -/
def tCMethN (C : Addr) (n : Nat) (sp : Sp) (gV : List V → List V → List V) (E : XK) (ta : TE) (tk : TA) : TE := fun σ H Q => ta σ H fun x H1 => x = .ref C ∧ tk σ H1 fun zs H2 => zs.length = n ∧ sp (gV [.ref C] zs) H2 Q E
theorem pe_cmethN {E : XK} {fd : FuncData} {ps ks : List Str} {kws : List Keyword} {tk : TA} {gg : List Value → List Value → List Value} {gV : List V → List V → List V} {pl : Sem Bool} (he : PE X o ta) (r : CRead X.K C mc) (c : CMet X.K C mc m p g) (F : FnOk X.prog X.w X.K X.mg X.base CX k g fd ps sp) (hb : KBn X.K fd ps 1 ks gg gV) (hr : Room k X.A) (hx : Passes CX X E)
    (hkw : PK X kws tk) (hall : (backToKw pos (keywordEach kws X.env)).all (·.1.isSome) = true := by rfl) (hks : (backToKw pos (keywordEach kws X.env)).filterMap (·.1) = ks := by rfl)
    (hpl : ((backTo pos (starEach [] X.env)).any (·.1) || (backToKw pos (keywordEach kws X.env)).any (·.1.isNone)) = false := by rfl)
    (ht : eval (.Call (.Attribute o m apos) [] kws pos) X.env = (do
      let ov ← eval o X.env
      standAt apos.atName
      let (f, first) ← holding [ov] (getMethod ov m pl)
      callWith pos f first (backTo pos (starEach [] X.env)) (backToKw pos (keywordEach kws X.env))) := by rfl) :
    PE X (.Call (.Attribute o m apos) [] kws pos) (tCMethN C ks.length sp gV E ta tk) := by
  refine ⟨fun pins s σ H Q I h => ?_⟩
  refine PySem.W.methodCall_KW (pl := pl) (thn (he.run pins s σ H _ I h) fun u s1 ⟨x, H1, I1, rx, ex, q⟩ => ?_) ht
  subst ex
  obtain rfl : u = Value.ref C := rx
  refine getmethcm_ok I1 r c fun s2 I2 => ?_
  refine PySem.W.callWith_of (P := PySem.W.MethP X.K s1.heap.objs.size g (.ref C)) hpl (PySem.W.keeps_M c.fi) (PyProof.Rows.evalArgs_kw2_nil hall ?_)
  refine thn (hkw.run pos _ s2 σ H1 _ I2 q) fun ws s3 ⟨zs, H2, I3, rz, l2, q2⟩ => ⟨⟨pin_at I3, I3.kIn⟩, ?_⟩
  rw [hks]
  have z : wpAny (model X.prog X.w) X.A (call (.ref s1.heap.objs.size) ([] ++ []) (ks.zip ws)) (EP X ((s1.heap.objs.size, PySem.W.methodObj (.ref g) (.ref C)) :: pins) σ Q) X.xe s3 := by
    have r2 := hb.rel (vs := [V.ref C]) (us := [Value.ref C]) (.cons rfl .nil) rz
    refine wpAny_call (PySem.W.method_call (pin_at I3) (codeAny_mono (F.run X.A X.stack s3 H2 ⟨[.ref C], ks.zip ws⟩ (gg [.ref C] ws) (gV [.ref C] zs) Q E hr I3.env0 (hb.to s3 [.ref C] ws I3.kIn rfl (rz.length.symm.trans l2)) r2 q2) fun r s' hq => ?_))
    cases r with
    | error e => exact hx _ σ H2 s3 e s' I3 hq
    | ok fl =>
      cases fl with
      | ret u => exact I3.after hq
      | next => exact False.elim hq
      | brk => exact False.elim hq
      | cont => exact False.elim hq
  exact thn z fun _ _ y => unpinE y
instance go_cmethN {σ : L2.St} {H : Hp} {Q : VK} {E : XK} {n : Nat} {gV : List V → List V → List V} {tk : TA} : Go (tCMethN C n sp gV E ta tk σ H Q) (ta σ H fun x H1 => x = .ref C ∧ tk σ H1 fun zs H2 => zs.length = n ∧ sp (gV [.ref C] zs) H2 Q E) := ⟨fun h => h⟩
end
end EE

/-! Own layer: rows and books; list(d.values()), dict(d), dict(pairs), == of dicts of texts, of dicts of such. -/
namespace EE
open PySem PySem.Spec PyProof.Rows L2
abbrev RowS := List (Str × Str)
abbrev BkS := List (Str × RowS)
def strB (ps : RowS) : List (Str × V) := ps.map fun p => (p.1, V.str p.2)
theorem keys_strB (ps : RowS) : (strB ps).map (·.1) = ps.map (·.1) := by
  unfold strB
  rw [List.map_map]
  rfl
theorem len_strB (ps : RowS) : (strB ps).length = ps.length := by unfold strB; rw [List.length_map]
/-- rows by kinds: name, row, where the row stands -/
abbrev RowT := Str × RowS × Addr
def bkP (e : RowT) : Str × RowS := (e.1, e.2.1)
def refB (es : List RowT) : List (Str × V) := es.map fun e => (e.1, V.ref e.2.2)
structure RowsAt (H : Hp) (p : Addr) (es : List RowT) : Prop where
  d : H p = some (.dK (kwK (es.map fun e => (e.1, V.ref e.2.2))))
  r : ∀ e ∈ es, e.2.2 ≠ p ∧ H e.2.2 = some (.dK (kwK (strB e.2.1)))
theorem RowsAt.keep {H H' : Hp} {p : Addr} {es : List RowT} (h : RowsAt H p es) (s : Same H H') : RowsAt H' p es := ⟨s _ _ h.d, fun e he => ⟨(h.r e he).1, s _ _ (h.r e he).2⟩⟩
theorem RowsAt.but {H H' : Hp} {p a : Addr} {es : List RowT} (h : RowsAt H p es) (b : But a H H') (n : p ≠ a) (m : ∀ e ∈ es, e.2.2 ≠ a) : RowsAt H' p es := ⟨b _ _ n h.d, fun e he => ⟨(h.r e he).1, b _ _ (m e he) (h.r e he).2⟩⟩
/-! ### rows, books -/
def getS (ps : RowS) (n : Str) : Str := (ps.lookup n).getD ""
def getR (bs : BkS) (n : Str) : RowS := (bs.lookup n).getD []
def srtR (ps : RowS) : RowS := (srtS (ps.map (·.1))).map fun n => (n, getS ps n)
def nrmB (bs : BkS) : BkS := (srtS (bs.map (·.1))).filterMap fun n => if getR bs n = [] then none else some (n, srtR (getR bs n))
structure RowOk (ps : RowS) : Prop where
  n : ∀ p ∈ ps, nameS p.1 = true ∧ nameS p.2 = true
  d : (ps.map (·.1)).Nodup
  l : ps.length ≤ 60
structure BkOk (bs : BkS) : Prop where
  n : ∀ b ∈ bs, nameS b.1 = true ∧ RowOk b.2
  d : (bs.map (·.1)).Nodup
  l : bs.length ≤ 60
/-- as it is kept -/
structure BkN (bs : BkS) : Prop where
  s : Srt (bs.map (·.1))
  r : ∀ b ∈ bs, b.2 ≠ [] ∧ Srt (b.2.map (·.1))
theorem getS_mem {ps : RowS} {n z : Str} (nd : (ps.map (·.1)).Nodup) (h : (n, z) ∈ ps) : getS ps n = z := by unfold getS; rw [lookup_mem nd h]; rfl
theorem getR_mem {bs : BkS} {n : Str} {r : RowS} (nd : (bs.map (·.1)).Nodup) (h : (n, r) ∈ bs) : getR bs n = r := by unfold getR; rw [lookup_mem nd h]; rfl
theorem srtR_keys (ps : RowS) : (srtR ps).map (·.1) = srtS (ps.map (·.1)) := by
  unfold srtR
  rw [List.map_map]
  conv => rhs; rw [← List.map_id (srtS (ps.map (·.1)))]
  exact List.map_congr_left fun _ _ => rfl
theorem mem_srtR {ps : RowS} (nd : (ps.map (·.1)).Nodup) {p : Str × Str} : p ∈ srtR ps ↔ p ∈ ps := by
  unfold srtR
  rw [List.mem_map]
  constructor
  · rintro ⟨n, hn, rfl⟩
    obtain ⟨q, hq, e⟩ := List.mem_map.mp (mem_srtS.mp hn)
    have : getS ps n = q.2 := by rw [← e]; exact getS_mem nd hq
    rw [this, ← e]
    exact hq
  · intro h
    exact ⟨p.1, mem_srtS.mpr (List.mem_map.mpr ⟨p, h, rfl⟩), by rw [getS_mem nd (z := p.2) h]⟩
theorem srtR_self {ps : RowS} (h : Srt (ps.map (·.1))) : srtR ps = ps := by
  unfold srtR
  rw [srtS_of_srt h, List.map_map]
  conv => rhs; rw [← List.map_id ps]
  exact List.map_congr_left fun p hp => by
    show (p.1, getS ps p.1) = p
    rw [getS_mem h.nodup (z := p.2) hp]
theorem srtR_len (ps : RowS) : (srtR ps).length ≤ ps.length := by
  have := srtS_len_le (ps.map (·.1))
  rw [List.length_map] at this
  unfold srtR
  rw [List.length_map]
  exact this
theorem srtR_ne {ps : RowS} (h : ps ≠ []) : srtR ps ≠ [] := fun e => by
  cases ps with
  | nil => exact h rfl
  | cons p ps =>
    have : p.1 ∈ (srtR (p :: ps)).map (·.1) := by rw [srtR_keys]; exact mem_srtS.mpr List.mem_cons_self
    rw [e] at this
    cases this
theorem RowOk.srt {ps : RowS} (h : RowOk ps) : RowOk (srtR ps) := ⟨fun p hp => h.n p ((mem_srtR h.d).mp hp), by rw [srtR_keys]; exact (srt_srtS _).nodup, Nat.le_trans (srtR_len ps) h.l⟩
theorem mem_nrmB {bs : BkS} {b : Str × RowS} : b ∈ nrmB bs ↔ b.1 ∈ bs.map (·.1) ∧ getR bs b.1 ≠ [] ∧ b.2 = srtR (getR bs b.1) := by
  unfold nrmB
  rw [List.mem_filterMap]
  constructor
  · rintro ⟨n, hn, e⟩
    by_cases c : getR bs n = []
    · rw [if_pos c] at e; cases e
    · rw [if_neg c] at e; cases e
      exact ⟨mem_srtS.mp hn, c, rfl⟩
  · rintro ⟨h1, h2, h3⟩
    exact ⟨b.1, mem_srtS.mpr h1, by rw [if_neg h2, ← h3]⟩
theorem fmap_keys {α : Type} {g : Str → Option (Str × α)} (hg : ∀ n p, g n = some p → p.1 = n) : ∀ {l : List Str}, Srt l → Srt ((l.filterMap g).map (·.1)) ∧ ∀ z ∈ (l.filterMap g).map (·.1), z ∈ l
  | [], _ => ⟨List.Pairwise.nil, fun z h => (by cases h)⟩
  | x :: l, h => by
    obtain ⟨h1, h2⟩ := List.pairwise_cons.mp h
    obtain ⟨i1, i2⟩ := fmap_keys hg h2
    rw [List.filterMap_cons]
    cases c : g x with
    | none => exact ⟨i1, fun z hz => List.mem_cons_of_mem _ (i2 z hz)⟩
    | some p =>
      dsimp only
      rw [List.map_cons, hg _ _ c]
      refine ⟨List.pairwise_cons.mpr ⟨fun z hz => h1 z (i2 z hz), i1⟩, fun z hz => ?_⟩
      rcases List.mem_cons.mp hz with e | hz
      · rw [e]; exact List.mem_cons_self
      · exact List.mem_cons_of_mem _ (i2 z hz)
theorem nrmB_srt (bs : BkS) : Srt ((nrmB bs).map (·.1)) := (fmap_keys (g := fun n => if getR bs n = [] then none else some (n, srtR (getR bs n))) (fun n p e => by
  by_cases c : getR bs n = []
  · rw [if_pos c] at e; cases e
  · rw [if_neg c] at e; cases e; rfl) (srt_srtS _)).1
theorem bkN_nrm (bs : BkS) : BkN (nrmB bs) := ⟨nrmB_srt bs, fun b hb => by
  obtain ⟨h1, h2, h3⟩ := mem_nrmB.mp hb
  rw [h3]
  exact ⟨srtR_ne h2, by rw [srtR_keys]; exact srt_srtS _⟩⟩
theorem nrmB_len (bs : BkS) : (nrmB bs).length ≤ bs.length := by
  have := srtS_len_le (bs.map (·.1))
  rw [List.length_map] at this
  exact Nat.le_trans (List.length_filterMap_le ..) this
theorem getR_of {bs : BkS} {n : Str} (h : n ∈ bs.map (·.1)) (nd : (bs.map (·.1)).Nodup) : (n, getR bs n) ∈ bs := by
  obtain ⟨b, hb, rfl⟩ := List.mem_map.mp h
  rw [getR_mem nd (r := b.2) hb]
  exact hb
theorem BkOk.nrm {bs : BkS} (h : BkOk bs) : BkOk (nrmB bs) := ⟨fun b hb => by
  obtain ⟨h1, h2, h3⟩ := mem_nrmB.mp hb
  have := h.n _ (getR_of h1 h.d)
  rw [h3]
  exact ⟨this.1, this.2.srt⟩, (nrmB_srt bs).nodup, Nat.le_trans (nrmB_len bs) h.l⟩
theorem nrmB_self {bs : BkS} (h : BkN bs) : nrmB bs = bs := by
  unfold nrmB
  rw [srtS_of_srt h.s, List.filterMap_map]
  have : ∀ b ∈ bs, ((fun n => if getR bs n = [] then none else some (n, srtR (getR bs n))) ∘ fun x => x.1) b = some b := fun b hb => by
    show (if getR bs b.1 = [] then none else some (b.1, srtR (getR bs b.1))) = some b
    rw [getR_mem h.s.nodup (r := b.2) hb, if_neg (h.r b hb).1, srtR_self (h.r b hb).2]
  have key : ∀ {l : List (Str × RowS)} {g : Str × RowS → Option (Str × RowS)}, (∀ b ∈ l, g b = some b) → l.filterMap g = l := by
    intro l g
    induction l with
    | nil => intro _; rfl
    | cons b l ih => intro hg; rw [List.filterMap_cons, hg b List.mem_cons_self, ih fun c hc => hg c (List.mem_cons_of_mem _ hc)]
  exact key this
/-! ### list(e.values()) -/
def rValsL : V → Hp → VK → Prop := fun x H Q => ∃ (d : Addr) (kvs : List (Key × V)), x = .ref d ∧ H d = some (.dK kvs) ∧ ∀ p H', H p = none → Same H H' → H' p = some (.lst (kvs.map (·.2))) → Q (.ref p) H'
def tListVals (te : TE) : TE := fun σ H Q => te σ H fun x H1 => rValsL x H1 Q
theorem kv_vals {kvs : List (Key × V)} {vs : List (Key × Value)} (r : KV kvs vs) : Vals (kvs.map (·.2)) (vs.map (·.2)) := by
  unfold KV at r
  induction r with
  | nil => exact .nil
  | cons h _ ih => exact .cons h.2 ih
section
variable {X : Cx} {e : Expr} {te : TE} {p apos cpos pos : Pos}
theorem pe_listVals (hc : X.calm = true) (he : PE X e te) (hg : Gl X "list") (hm : X.mg "list" = none) (hv : bootBuiltins "list" = some (.type "list")) (hbase : attributeBase e "values" X.env (eval e X.env) = eval e X.env := by rfl) (hline : (apos.endLine == cpos.line) = true := by rfl)
    (hs : starEach [.Call (.Attribute e "values" apos) [] [] cpos] X.env = (false, eval (.Call (.Attribute e "values" apos) [] [] cpos) X.env) :: starEach [] X.env := by rfl) :
    PE X (.Call (.Name "list" p) [.Call (.Attribute e "values" apos) [] [] cpos] [] pos) (tListVals te) := by
  refine ⟨fun pins s σ H Q I hq => ?_⟩
  refine wpAny_Call_Name_kw (ld_blt I hg hm hv ?_)
  refine PyProof.Rows.callWith_type1 ?_ hs rfl
  rw [hs]
  show wpAny _ _ (spliced ((false, eval (.Call (.Attribute e "values" apos) [] [] cpos) X.env) :: backTo pos (starEach [] X.env))) _ _ s
  refine Calls.spliced_cons ?_
  refine wpAny_Call_method (T := "dict") (id := "dict.values") hbase rfl hline F.plainAttrs_dict F.slot_dict_values F.type_dict_values (thn (he.run pins s σ H _ I hq) fun u s1 ⟨x, H1, I1, rx, d, kvs, ex, hd, q⟩ => ?_)
  subst ex
  obtain rfl : u = Value.ref d := rx
  obtain ⟨hz, hs0, vs, kv, hdo⟩ := I1.hok d _ hd
  obtain ⟨ep, hat⟩ := hdo.dictAt
  have lk : kvs.length = vs.length := Paired.length kv
  have I2 : Inv X pins σ H1 { s1 with heap := s1.heap.push { cls := .type "dict_values", data := .fields #[.ref d] } } := I1.kept (t' := s1.toks) fun b ob q => Heap.get?_push_of_some _ q
  refine ⟨hdo.typeIs, hdo.mapOf.noDict, ?_⟩
  show wpAny _ _ (callWith cpos (.builtin "dict.values") [.ref d] [] []) _ X.xe s1
  refine method_meetsIn F.slot_dict_values F.entry_dict_values rfl (PySem.evalArgs_none ⟨rfl, hdo.typeIs, F.args_dict_values_1 _, _, meets_dict_values (mixKind X.prog X.w) d hs0, ⟨vs, hdo⟩, ?_⟩)
  refine Calls.spliced_nil ?_
  refine PySem.W.kdl_call (PySem.W.kdl_values (knd := mixKind X.prog X.w) (kvs := vs) (ep := ep)) (I1.ok.hd hc) ⟨⟨_, Heap.get?_push_size _ rfl, rfl, rfl⟩, hat.push _⟩ (by omega) fun h' tk acc c' hk hD hacc => ?_
  have ev : acc.toList = vs.map (·.2) := PySem.W.kdl_vals_eq acc.toList (by rw [Array.length_toList]; exact hacc.1) fun j v e => hacc.2 j v (by rw [← Array.getElem?_toList]; exact e)
  have nf := I2.hok.fresh (Nat.le_refl _)
  refine ⟨.ref _, _, I2.laid (t' := tk) hk (Nat.le_refl _) (show ObjOk X.prog X.w _ _ _ (.lst (kvs.map (·.2))) from ⟨by rw [List.length_map]; exact hz, acc.toList, c', by rw [ev]; exact kv_vals kv, by rw [Array.toArray_toList]; exact hD⟩), rfl, q _ _ nf (same_new nf) upd_same⟩
end
section
variable {σ : L2.St} {H : Hp} {Q : VK} {te : TE}
theorem rd_listVals (h : te σ H fun x H1 => rValsL x H1 Q) : tListVals te σ H Q := h
instance go_listVals : Go (tListVals te σ H Q) (te σ H fun x H1 => rValsL x H1 Q) := ⟨rd_listVals⟩
theorem rd_valsL {d : Addr} {ps : List (Str × V)} (h : H d = some (.dK (kwK ps))) (q : ∀ p H', H p = none → Same H H' → H' p = some (.lst (ps.map (·.2))) → Q (.ref p) H') : rValsL (.ref d) H Q :=
  ⟨d, _, rfl, h, fun p H' n s e => q p H' n s (by rw [e]; unfold kwK; rw [List.map_map]; rfl)⟩
end
/-! ### dict(d), dict(pairs) -/
def rDictD : LR := fun xs H Q => ∃ (a : Addr) (kvs : List (Key × V)), xs = [.ref a] ∧ Rd H a (.dK kvs) ∧ ∀ p, H p = none → Q (.ref p) (upd H p (.dK kvs))
theorem cr_dictD {X : Cx} : CallR X (.type "dict") rDictD := call_dictD
theorem rd_dictD {H : Hp} {Q : VK} {a : Addr} {kvs : List (Key × V)} (h : Rd H a (.dK kvs)) (q : ∀ p H', H p = none → Same H H' → H' p = some (.dK kvs) → Q (.ref p) H') : rDictD [.ref a] H Q := ⟨a, kvs, rfl, h, fun p n => q p _ n (same_new n) upd_same⟩
def rDictP (K : PySem.W.Frag) : LR := fun xs H Q => ∃ (a : Addr) (ps : List Addr) (kvs : List (Key × V)), xs = [.ref a] ∧ SqL K H a (ps.map V.ref) ∧ Paired (fun p kv => SqT K H p [kV kv.1, kv.2]) ps kvs ∧ ∀ p, H p = none → Q (.ref p) (upd H p (.dK (mergeK [] kvs)))
theorem cr_dictP {X : Cx} (hc : X.calm = true) : CallR X (.type "dict") (rDictP X.K) := call_dictP hc
/-! ### == of dicts of texts -/
def strVs (ks : List (Key × V)) : Prop := ∀ p ∈ ks, ∃ z : Str, p.2 = .str z
theorem strVs_B (ps : RowS) : strVs (kwK (strB ps)) := fun p hp => by
  unfold kwK strB at hp
  rw [List.map_map] at hp
  obtain ⟨r, _, rfl⟩ := List.mem_map.mp hp
  exact ⟨r.2, rfl⟩
theorem hits_strs {A : Around} {s : Shared} {ls : List (Key × V)} {vb : List (Key × Value)} (rb : KV ls vb) (hi : strVs ls) : ∀ {ks : List (Key × V)} {va : List (Key × Value)}, KV ks va → strVs ks → PySem.W.KeqHits A s vb va (ks.all fun p => decide (valV ls p.1 = some p.2)) := by
  intro ks va ra
  unfold KV at ra
  induction ra with
  | nil => exact fun _ => .nil
  | @cons p q ps qs h t ih =>
    intro hk
    obtain ⟨h1, h2⟩ := h
    obtain ⟨k, v⟩ := q
    obtain rfl : p.1 = k := h1
    obtain ⟨i, hp⟩ := hk p List.mem_cons_self
    rw [hp] at h2
    obtain ⟨tk, hv⟩ : ∃ t, v = Value.str i t := h2
    subst hv
    have rr := rb.val p.1
    rw [List.all_cons, hp]
    cases c : valV ls p.1 with
    | none =>
      rw [c] at rr
      rw [decide_eq_false (by simp), Bool.false_and]
      refine .miss ?_
      revert rr
      cases valueAt vb p.1 <;> intro rr
      · rfl
      · exact rr.elim
    | some y =>
      rw [c] at rr
      obtain ⟨u, hu, ru⟩ := rr.some_of
      have : ∃ j : Str, y = .str j := by
        unfold valV at c
        obtain ⟨kv, h1, h2⟩ := Option.map_eq_some_iff.mp c
        obtain ⟨j, e⟩ := hi kv (List.mem_of_find?_eq_some h1)
        exact ⟨j, by rw [← h2, e]⟩
      obtain ⟨j, rfl⟩ := this
      obtain ⟨tj, rfl⟩ : ∃ t, u = Value.str j t := ru
      have he := SeqAt.EqAt.str_str (A := A) (s := s) i tk j tj
      have hq : (i == j) = true ↔ i = j := by simp
      generalize (i == j) = e at he hq
      have e2 : decide (some (V.str j) = some (V.str i)) = e := by
        have : (some (V.str j) = some (V.str i)) ↔ e = true := by rw [hq]; simp [eq_comm]
        by_cases z : e = true
        · rw [z]; exact decide_eq_true (this.mpr z)
        · rw [decide_eq_false fun y => z (this.mp y)]; simpa using z
      rw [e2]
      exact .hit hu he (ih fun p' hm => hk p' (List.mem_cons_of_mem _ hm))
def rEqDS : R2 := fun x y H Q => ∃ a b ks ls, x = .ref a ∧ y = .ref b ∧ H a = some (.dK ks) ∧ H b = some (.dK ls) ∧ strVs ks ∧ strVs ls ∧ Q (.bl (dEq ks ls)) H
theorem or_eqDS {X : Cx} (hu : X.A.units < cLine) : OpR X (compareOp .Eq) rEqDS := by
  intro pins s σ H x y v u Q I rx ry h
  obtain ⟨a, b, ks, ls, rfl, rfl, ea, eb, ia, ib, q⟩ := h
  obtain rfl : v = Value.ref a := rx
  obtain rfl : u = Value.ref b := ry
  obtain ⟨_, ya, va, ra, da⟩ := (show ObjOk X.prog X.w H s.heap a (.dK ks) from I.hok a _ ea)
  obtain ⟨_, yb, vb, rb, db⟩ := (show ObjOk X.prog X.w H s.heap b (.dK ls) from I.hok b _ eb)
  refine PySem.W.keq_eq (knd := mixKind X.prog X.w) ya yb da db hu (fun _ => hits_strs rb ib ra ia) ?_
  exact ⟨.bl (dEq ks ls), H, I, by rw [← ra.length, ← rb.length]; rfl, q⟩
/-- d != {} -/
def rNeD0 : R2 := fun x y H Q => ∃ a b ks, x = .ref a ∧ y = .ref b ∧ H a = some (.dK ks) ∧ H b = some (.dK []) ∧ Q (.bl (!ks.isEmpty)) H
theorem or_neD0 {X : Cx} (hu : X.A.units < cLine) : OpR X (compareOp .NotEq) rNeD0 := by
  intro pins s σ H x y v u Q I rx ry h
  obtain ⟨a, b, ks, rfl, rfl, ea, eb, q⟩ := h
  obtain rfl : v = Value.ref a := rx
  obtain rfl : u = Value.ref b := ry
  obtain ⟨_, ya, va, ra, da⟩ := (show ObjOk X.prog X.w H s.heap a (.dK ks) from I.hok a _ ea)
  obtain ⟨_, yb, vb, rb, db⟩ := (show ObjOk X.prog X.w H s.heap b (.dK []) from I.hok b _ eb)
  have vb0 : vb = [] := by cases rb; rfl
  subst vb0
  refine PySem.W.keq_ne (knd := mixKind X.prog X.w) (r := true) ya yb da db hu (fun e => ?_) ?_
  · have : va = [] := List.length_eq_zero_iff.mp e
    subst this
    exact .nil
  · refine ⟨.bl (!ks.isEmpty), H, I, ?_, q⟩
    cases ra with
    | nil => rfl
    | cons _ _ => rfl
theorem rd_neD0k {H : Hp} {Q : VK} {a b : Addr} {ps : List (Str × V)} (h1 : H a = some (.dK (kwK ps))) (h2 : H b = some (.dK [])) (q : Q (.bl (decide (ps ≠ []))) H) : rNeD0 (.ref a) (.ref b) H Q := by
  refine ⟨a, b, _, rfl, rfl, h1, h2, ?_⟩
  cases ps with
  | nil => exact q
  | cons p ps => exact q
/-! ### == of dicts of dicts of texts -/
theorem hits_rows {P : Program} {w : World} {A : Around} {s : Shared} {F : V → V → Bool → Prop} (ih : ∀ x y v u b, F x y b → RelV x v → RelV y u → SeqAt.EqP P w A s v u b) {ls : List (Key × V)} {vb : List (Key × Value)} (rb : KV ls vb) {g : Key × V → Bool} {ks : List (Key × V)} {va : List (Key × Value)}
    (ra : KV ks va) : (∀ p ∈ ks, (valV ls p.1 = none ∧ g p = false) ∨ ∃ u, valV ls p.1 = some u ∧ F p.2 u (g p)) → PySem.W.KeqHitsP P w A s vb va (ks.all g) := by
  unfold KV at ra
  induction ra with
  | nil => intro _; exact .nil
  | @cons p q ps qs h t k =>
    intro hp
    obtain ⟨h1, h2⟩ := h
    obtain ⟨key, v⟩ := q
    have h1' : p.1 = key := h1
    rw [List.all_cons]
    have rr := rb.val p.1
    rcases hp p List.mem_cons_self with ⟨e, f⟩ | ⟨u, e, f⟩
    · rw [e] at rr
      rw [f, Bool.false_and]
      refine .miss ?_
      rw [← h1']
      revert rr
      cases valueAt vb p.1 <;> intro rr
      · rfl
      · exact rr.elim
    · rw [e] at rr
      obtain ⟨y, hy, ry⟩ := rr.some_of
      rw [h1'] at hy
      exact .hit hy (ih _ _ _ _ _ f h2 ry) (k fun p' hm => hp p' (List.mem_cons_of_mem _ hm))
def rowEq (p q : RowS) : Bool := dEq (kwK (strB p)) (kwK (strB q))
def bEq (bs cs : BkS) : Bool := bs.length == cs.length && bs.all fun b => match cs.lookup b.1 with | none => false | some r => rowEq b.2 r
theorem val_strB (ps : RowS) (n : Str) : valV (kwK (strB ps)) (.inr n) = (ps.lookup n).map V.str := by
  rw [val_kw]
  induction ps with
  | nil => rfl
  | cons p ps ih =>
    show List.lookup n ((p.1, V.str p.2) :: strB ps) = _
    rw [List.lookup_cons, List.lookup_cons]
    by_cases c : n = p.1
    · rw [show (n == p.1) = true from beq_iff_eq.mpr c]; rfl
    · rw [show (n == p.1) = false from beq_eq_false_iff_ne.mpr c]
      exact ih
theorem val_refB (es : List RowT) (n : Str) : valV (kwK (es.map fun e => (e.1, V.ref e.2.2))) (.inr n) = (es.lookup n).map fun e => V.ref e.2 := by
  rw [val_kw]
  induction es with
  | nil => rfl
  | cons p ps ih =>
    rw [List.map_cons, List.lookup_cons, List.lookup_cons]
    by_cases c : n = p.1
    · rw [show (n == p.1) = true from beq_iff_eq.mpr c]; rfl
    · rw [show (n == p.1) = false from beq_eq_false_iff_ne.mpr c]
      exact ih
theorem lookup_bkP (es : List RowT) (n : Str) : (es.map bkP).lookup n = (es.lookup n).map (·.1) := by
  induction es with
  | nil => rfl
  | cons p ps ih =>
    rw [List.map_cons]
    show List.lookup n ((p.1, p.2.1) :: ps.map bkP) = _
    rw [List.lookup_cons, List.lookup_cons]
    by_cases c : n = p.1
    · rw [show (n == p.1) = true from beq_iff_eq.mpr c]; rfl
    · rw [show (n == p.1) = false from beq_eq_false_iff_ne.mpr c]
      exact ih
theorem rowEq_self {p : RowS} (nd : (p.map (·.1)).Nodup) : rowEq p p = true := by
  unfold rowEq dEq
  rw [beq_self_eq_true, Bool.true_and, List.all_eq_true]
  intro q hq
  unfold kwK strB at hq
  rw [List.map_map] at hq
  obtain ⟨r, hr, rfl⟩ := List.mem_map.mp hq
  refine decide_eq_true ?_
  show valV (kwK (strB p)) (.inr r.1) = some (.str r.2)
  rw [val_strB, lookup_mem nd (i := r.2) hr]
  rfl
theorem strB_inj {p q : RowS} (h : kwK (strB p) = kwK (strB q)) : p = q := by
  induction p generalizing q with
  | nil =>
    cases q with
    | nil => rfl
    | cons b q => cases h
  | cons a p ih =>
    cases q with
    | nil => cases h
    | cons b q =>
      have h' : ((Sum.inr a.1 : Key), V.str a.2) :: kwK (strB p) = ((Sum.inr b.1 : Key), V.str b.2) :: kwK (strB q) := h
      injection h' with h1 h2
      injection h1 with h3 h4
      injection h3 with h3
      injection h4 with h4
      rw [ih h2]
      exact congrArg (· :: q) (Prod.ext h3 h4)
theorem all_congr {α : Type} {f g : α → Bool} : ∀ {l : List α}, (∀ x ∈ l, f x = g x) → l.all f = l.all g
  | [], _ => rfl
  | x :: l, h => by rw [List.all_cons, List.all_cons, h x List.mem_cons_self, all_congr fun y hy => h y (List.mem_cons_of_mem _ hy)]
def kwGo (es fs : List RowT) (p : Key × V) : Bool := match p.1 with
  | .inr n => (match (es.map bkP).lookup n, (fs.map bkP).lookup n with | some r, some r' => rowEq r r' | _, _ => false)
  | .inl _ => false
def rEqDD : R2 := fun x y H Q => ∃ (a b : Addr) (es fs : List RowT), x = .ref a ∧ y = .ref b ∧ RowsAt H a es ∧ RowsAt H b fs ∧ (es.map (·.1)).Nodup ∧ (∀ e ∈ es, (e.2.1.map (·.1)).Nodup) ∧ Q (.bl (bEq (es.map bkP) (fs.map bkP))) H
theorem or_eqDD {X : Cx} (hu : X.A.units + 1 < cLine) : OpR X (compareOp .Eq) rEqDD := by
  intro pins s σ H x y v u Q I rx ry h
  obtain ⟨a, b, es, fs, rfl, rfl, ea, eb, nk, nd, q⟩ := h
  obtain rfl : v = Value.ref a := rx
  obtain rfl : u = Value.ref b := ry
  obtain ⟨_, ya, va, ra, da⟩ := (show ObjOk X.prog X.w H s.heap a _ from I.hok a _ ea.d)
  obtain ⟨_, yb, vb, rb, db⟩ := (show ObjOk X.prog X.w H s.heap b _ from I.hok b _ eb.d)
  let F : V → V → Bool → Prop := fun x y r => ∃ (a c : Addr) (p q : RowS), x = .ref a ∧ y = .ref c ∧ H a = some (.dK (kwK (strB p))) ∧ H c = some (.dK (kwK (strB q))) ∧ (p.map (·.1)).Nodup ∧ r = rowEq p q
  have ih : ∀ x y v u r, F x y r → RelV x v → RelV y u → SeqAt.EqP X.prog X.w X.A.in1 s v u r := by
    rintro x y v u b ⟨a, c, p, r, rfl, rfl, ha, hc, np, rfl⟩ rx ry
    obtain rfl : v = Value.ref a := rx
    obtain rfl : u = Value.ref c := ry
    by_cases e : a = c
    · subst e
      rw [ha] at hc
      injection hc with hc
      injection hc with hc
      obtain rfl := strB_inj hc
      rw [rowEq_self np]
      exact (SeqAt.EqAt.same _).eqP
    · obtain ⟨_, ya, va, ra, da⟩ := (show ObjOk X.prog X.w H s.heap a _ from I.hok a _ ha)
      obtain ⟨_, yb, vb, rb, db⟩ := (show ObjOk X.prog X.w H s.heap c _ from I.hok c _ hc)
      refine SeqAt.eqP_refs e fun E Q hq => ?_
      refine PySem.W.keq_eq (knd := mixKind X.prog X.w) ya yb da db (by show X.A.units + 1 < cLine; exact hu) (fun _ => hits_strs rb (strVs_B _) ra (strVs_B _)) ?_
      have e2 : (va.length == vb.length && (kwK (strB p)).all fun x => decide (valV (kwK (strB r)) x.1 = some x.2)) = rowEq p r := by rw [← ra.length, ← rb.length]; rfl
      rw [e2]
      exact hq
  have key : ∀ e ∈ es, (kwGo es fs) (.inr e.1, .ref e.2.2) = (match (fs.map bkP).lookup e.1 with | none => false | some r => rowEq e.2.1 r) := fun e he => by
    show (match (es.map bkP).lookup e.1, (fs.map bkP).lookup e.1 with | some r, some r' => rowEq r r' | _, _ => false) = _
    have e1 : (es.map bkP).lookup e.1 = some e.2.1 := lookup_mem (by rw [List.map_map]; exact nk) (List.mem_map.mpr ⟨e, he, rfl⟩)
    rw [e1]
    cases (fs.map bkP).lookup e.1 <;> rfl
  refine PySem.W.rcP_dicts (knd := mixKind X.prog X.w) (r := (kwK (es.map fun e => (e.1, V.ref e.2.2))).all (kwGo es fs)) ya yb da db (by omega) (fun _ => hits_rows ih rb ra fun p hp => ?_) _ _ ?_
  · unfold kwK at hp
    rw [List.map_map] at hp
    obtain ⟨e, he, rfl⟩ := List.mem_map.mp hp
    show (valV (kwK (fs.map fun e => (e.1, V.ref e.2.2))) (.inr e.1) = none ∧ (kwGo es fs) (.inr e.1, .ref e.2.2) = false) ∨ ∃ u, valV (kwK (fs.map fun e => (e.1, V.ref e.2.2))) (.inr e.1) = some u ∧ F (.ref e.2.2) u ((kwGo es fs) (.inr e.1, .ref e.2.2))
    rw [key e he, val_refB, lookup_bkP]
    cases c : fs.lookup e.1 with
    | none => exact .inl ⟨rfl, rfl⟩
    | some r =>
      have hr : (e.1, r) ∈ fs := mem_of_lookup c
      exact .inr ⟨_, rfl, e.2.2, r.2, e.2.1, r.1, rfl, rfl, (ea.r e he).2, (eb.r _ hr).2, nd e he, rfl⟩
  · have e2 : (va.length == vb.length && (kwK (es.map fun e => (e.1, V.ref e.2.2))).all (kwGo es fs)) = bEq (es.map bkP) (fs.map bkP) := by
      rw [← ra.length, ← rb.length]
      unfold bEq kwK
      rw [List.length_map, List.length_map, List.length_map, List.length_map, List.length_map, List.length_map, List.map_map, List.all_map, List.all_map]
      congr 1
      exact all_congr fun e he => key e he
    rw [e2]
    exact ⟨.bl _, H, I, rfl, q⟩
theorem rd_eqDD {H : Hp} {Q : VK} {a b : Addr} {es fs : List RowT} (h1 : RowsAt H a es) (h2 : RowsAt H b fs) (n1 : (es.map (·.1)).Nodup) (n2 : ∀ e ∈ es, (e.2.1.map (·.1)).Nodup) (q : Q (.bl (bEq (es.map bkP) (fs.map bkP))) H) : rEqDD (.ref a) (.ref b) H Q := ⟨a, b, es, fs, rfl, rfl, h1, h2, n1, n2, q⟩
theorem bEq_self {bs : BkS} (nd : (bs.map (·.1)).Nodup) (h : ∀ b ∈ bs, (b.2.map (·.1)).Nodup) : bEq bs bs = true := by
  unfold bEq
  rw [beq_self_eq_true, Bool.true_and, List.all_eq_true]
  intro b hb
  rw [lookup_mem nd (i := b.2) hb]
  exact rowEq_self (h b hb)
theorem put_new {xs : List (Str × V)} {n : Str} {v : V} (h : n ∉ xs.map (·.1)) : putK (kwK xs) (.inr n) v = kwK (xs ++ [(n, v)]) := by
  have any : ((kwK xs).any fun kv => decide (kv.1 = Sum.inr n)) = false := by
    refine Bool.eq_false_iff.mpr fun q => ?_
    obtain ⟨kv, hk, e⟩ := List.any_eq_true.mp q
    have e := of_decide_eq_true e
    unfold kwK at hk
    obtain ⟨r, hr, rfl⟩ := List.mem_map.mp hk
    exact h (List.mem_map.mpr ⟨r, hr, Sum.inr.inj e⟩)
  unfold putK
  rw [any, if_neg Bool.false_ne_true]
  unfold kwK
  rw [List.map_append]
  rfl
theorem merge_kwV : ∀ {more ps : List (Str × V)}, ((ps ++ more).map (·.1)).Nodup → mergeK (kwK ps) (kwK more) = kwK (ps ++ more)
  | [], ps, _ => by rw [List.append_nil]; rfl
  | p :: more, ps, nd => by
    have hp : p.1 ∉ ps.map (·.1) := fun h => by
      rw [List.map_append, List.nodup_append] at nd
      exact nd.2.2 _ h _ (by rw [List.map_cons]; exact List.mem_cons_self) rfl
    show mergeK (putK (kwK ps) (Sum.inr p.1) p.2) (kwK more) = _
    rw [put_new hp, merge_kwV (by rw [List.append_assoc]; exact nd), List.append_assoc]
    rfl
theorem merge_kwV0 {more : List (Str × V)} (nd : (more.map (·.1)).Nodup) : mergeK [] (kwK more) = kwK more := merge_kwV (ps := []) nd
/-! ### books as objects -/
structure BookAt (C : Addr) (H : Hp) (a d : Addr) (es : List RowT) : Prop where
  at_ : ∃ dx, H a = some (.ins C dx [("held", .ref d)])
  held : RowsAt H d es
theorem BookAt.keep {C : Addr} {H H' : Hp} {a d : Addr} {es : List RowT} (h : BookAt C H a d es) (s : Same H H') : BookAt C H' a d es := ⟨let ⟨dx, e⟩ := h.at_; ⟨dx, s _ _ e⟩, h.held.keep s⟩
theorem BookAt.ins {C : Addr} {H : Hp} {a d : Addr} {es : List RowT} (h : BookAt C H a d es) : ∃ dx fs, H a = some (.ins C dx fs) := let ⟨dx, e⟩ := h.at_; ⟨dx, _, e⟩
def NewR (H : Hp) (es : List RowT) : Prop := ∀ e ∈ es, H e.2.2 = none
def spInitB (C : Addr) : Sp := fun vs H Q _ => ∃ (a dx D : Addr) (es : List RowT), vs = [.ref a, .ref D] ∧ H a = some (.ins C dx []) ∧ RowsAt H D es ∧ BkOk (es.map bkP) ∧
  ∀ H' d fs, But a H H' → H d = none → NewR H fs → BookAt C H' a d fs → fs.map bkP = nrmB (es.map bkP) → Q .non H'
theorem keys_bkP (es : List RowT) : (es.map bkP).map (·.1) = es.map (·.1) := by rw [List.map_map]; rfl
theorem keys_refs (es : List RowT) : (es.map fun e => (e.1, V.ref e.2.2)).map (·.1) = es.map (·.1) := by rw [List.map_map]; rfl
theorem BkOk.names {es : List RowT} (h : BkOk (es.map bkP)) : NamesOk (es.map fun e => (e.1, V.ref e.2.2)) := by
  refine ⟨fun p hp => ?_, by rw [keys_refs, ← keys_bkP]; exact h.d, by rw [List.length_map]; have := h.l; rw [List.length_map] at this; exact Nat.le_trans this (by decide)⟩
  obtain ⟨q, hq, rfl⟩ := List.mem_map.mp hp
  exact nameS_self (h.n _ (List.mem_map.mpr ⟨q, hq, rfl⟩)).1
/-- the new book -/
theorem newB {C : Addr} {E : XK} {H : Hp} {Q : VK} {kvs : List (Str × V)} {es : List RowT} (e : kvs = es.map fun e => (e.1, V.ref e.2.2)) (R : ∀ e ∈ es, H e.2.2 = some (.dK (kwK (strB e.2.1)))) (g : BkOk (es.map bkP))
    (q : ∀ r d fs H', H r = none → H d = none → NewR H fs → Same H H' → BookAt C H' r d fs → fs.map bkP = nrmB (es.map bkP) → Q (.ref r) H') : MkK C (spInitB C) E kvs H Q := by
  subst e
  intro x dx nx ndx ne D nD
  have xD : x ≠ D := fun z => by rw [← z, upd_same] at nD; cases nD
  have s1 : Same H (upd (upd (upd H dx (.own x)) x (.ins C dx [])) D (.dK (kwK (es.map fun e => (e.1, V.ref e.2.2))))) := fun b o hb => by
    rw [upd_ne (fun z => by rw [z] at hb; rw [upd_ne (Ne.symm xD), upd_ne (fun y => by rw [y, upd_same] at nD; cases nD)] at nD; rw [nD] at hb; cases hb), upd_ne (ne_of_none hb nx), upd_ne (ne_of_none hb ndx)]
    exact hb
  have nDH : H D = none := by
    rw [upd_ne (Ne.symm xD), upd_ne (fun y => by rw [y, upd_same] at nD; cases nD)] at nD
    exact nD
  refine ⟨x, dx, D, es, rfl, by rw [upd_ne xD, upd_same], ⟨upd_same, fun e he => ⟨ne_of_none (R e he) nDH, s1 _ _ (R e he)⟩⟩, g, fun H' d fs b nd nf v e => ⟨rfl, q x d fs H' nx (s1.free nd) (fun e he => s1.free (nf e he)) (fun c o hc => b _ _ (ne_of_none hc nx) (s1 _ _ hc)) v e⟩⟩
theorem mapB_at {C : Addr} {E : XK} {H : Hp} {Q : VK} {D o : Addr} {es : List RowT} (ho : RowsAt H o es) (hD : H D = some (.dK [])) (ne : D ≠ o) (nr : ∀ e ∈ es, e.2.2 ≠ D) (g : BkOk (es.map bkP))
    (q : ∀ r d fs H', H r = none → H d = none → NewR H fs → But D H H' → BookAt C H' r d fs → fs.map bkP = nrmB (es.map bkP) → Q (.ref r) H') : MapAt C (spInitB C) E D Q (.ref o) H := by
  refine ⟨o, _, rfl, hD, ho.d, ne, g.names, newB rfl (fun e he => by rw [upd_ne (nr e he)]; exact (ho.r e he).2) g fun r d fs H' nr nd nf s v e => ?_⟩
  have rD : ∀ {x : Addr} {u : HO}, upd H D u x = none → H x = none := fun {x u} h => by
    by_cases c : x = D
    · rw [c, upd_same] at h; cases h
    · rw [upd_ne c] at h; exact h
  exact q r d fs H' (rD nr) (rD nd) (fun e he => rD (nf e he)) (fun b u n hb => s _ _ (by rw [upd_ne n]; exact hb)) v e
/-! what Book's __init__ makes -/
def rowF (es : List RowT) (n : Str) : Option (Key × V) := match es.lookup n with | some e => if e.1 = [] then none else some (.inr n, .ref e.2) | none => none
def fndF (es : List RowT) (n : Str) : Option RowT := match es.lookup n with | some e => if e.1 = [] then none else some (n, e) | none => none
def fnd (es : List RowT) : List RowT := (srtS (es.map (·.1))).filterMap (fndF es)
theorem fndF_key {es : List RowT} (n : Str) (p : RowT) (h : fndF es n = some p) : p.1 = n := by
  unfold fndF at h
  cases c : es.lookup n with
  | none => rw [c] at h; cases h
  | some e =>
    rw [c] at h
    dsimp only at h
    by_cases d : e.1 = []
    · rw [if_pos d] at h; cases h
    · rw [if_neg d] at h; cases h; rfl
theorem fnd_srt (es : List RowT) : Srt ((fnd es).map (·.1)) := (fmap_keys (g := fndF es) fndF_key (srt_srtS _)).1
theorem rowF_merge (es : List RowT) : mergeK [] ((srtS (es.map (·.1))).filterMap (rowF es)) = kwK ((fnd es).map fun e => (e.1, V.ref e.2.2)) := by
  have e : ∀ l : List Str, l.filterMap (rowF es) = kwK ((l.filterMap (fndF es)).map fun e => (e.1, V.ref e.2.2)) := fun l => by
    induction l with
    | nil => rfl
    | cons n l ih =>
      rw [List.filterMap_cons, List.filterMap_cons]
      unfold rowF fndF at ih ⊢
      cases c : es.lookup n with
      | none => exact ih
      | some e =>
        dsimp only
        by_cases d : e.1 = []
        · rw [if_pos d, if_pos d]; exact ih
        · rw [if_neg d, if_neg d]
          dsimp only
          rw [ih]; rfl
  rw [e]
  exact merge_kwV0 (by rw [keys_refs]; exact (fnd_srt es).nodup)
theorem fnd_mem {es : List RowT} {e : RowT} (h : e ∈ fnd es) : e ∈ es ∧ e.2.1 ≠ [] := by
  obtain ⟨n, hn, q⟩ := List.mem_filterMap.mp h
  unfold fndF at q
  cases c : es.lookup n with
  | none => rw [c] at q; cases q
  | some r =>
    rw [c] at q
    dsimp only at q
    by_cases d : r.1 = []
    · rw [if_pos d] at q; cases q
    · rw [if_neg d] at q; cases q
      exact ⟨mem_of_lookup c, d⟩
theorem fnd_nrm {es : List RowT} (nk : (es.map (·.1)).Nodup) : (fnd es).map (fun e => (e.1, srtR e.2.1)) = nrmB (es.map bkP) := by
  unfold fnd nrmB
  rw [keys_bkP, List.map_filterMap]
  have : ∀ n ∈ srtS (es.map (·.1)), Option.map (fun e : RowT => (e.1, srtR e.2.1)) (fndF es n) = (fun n => if getR (es.map bkP) n = [] then none else some (n, srtR (getR (es.map bkP) n))) n := fun n hn => by
    obtain ⟨q, hq, rfl⟩ := List.mem_map.mp (mem_srtS.mp hn)
    have e1 : es.lookup q.1 = some q.2 := lookup_mem nk hq
    have e2 : getR (es.map bkP) q.1 = q.2.1 := getR_mem (by rw [keys_bkP]; exact nk) (List.mem_map.mpr ⟨q, hq, rfl⟩)
    unfold fndF
    dsimp only
    rw [e1, e2]
    dsimp only
    by_cases d : q.2.1 = []
    · rw [if_pos d, if_pos d]; rfl
    · rw [if_neg d, if_neg d]; rfl
  have key : ∀ {l : List Str} {f g : Str → Option (Str × RowS)}, (∀ n ∈ l, f n = g n) → l.filterMap f = l.filterMap g := by
    intro l f g
    induction l with
    | nil => intro _; rfl
    | cons b l ih => intro h; rw [List.filterMap_cons, List.filterMap_cons, h b List.mem_cons_self, ih fun c hc => h c (List.mem_cons_of_mem _ hc)]
  exact key this
theorem srtR_merge (ps : RowS) : mergeK [] ((srtS (ps.map (·.1))).filterMap fun w => some ((Sum.inr w : Key), V.str (getS ps w))) = kwK (strB (srtR ps)) := by
  have e : (srtS (ps.map (·.1))).filterMap (fun w => some ((Sum.inr w : Key), V.str (getS ps w))) = kwK (strB (srtR ps)) := by
    unfold kwK strB srtR
    rw [List.map_map, List.map_map]
    induction srtS (ps.map (·.1)) with
    | nil => rfl
    | cons n l ih => rw [List.filterMap_cons, List.map_cons]; dsimp only; rw [ih]; rfl
  rw [e]
  exact merge_kwV0 (by rw [keys_strB, srtR_keys]; exact (srt_srtS _).nodup)
theorem val_getS {ps : RowS} {n : Str} (h : n ∈ ps.map (·.1)) : valV (kwK (strB ps)) (.inr n) = some (.str (getS ps n)) := by
  rw [val_strB]
  unfold getS
  cases c : ps.lookup n with
  | some i => rfl
  | none =>
    obtain ⟨p, hp, rfl⟩ := List.mem_map.mp h
    have : ∀ {ps : RowS}, p ∈ ps → ps.lookup p.1 ≠ none := by
      intro ps
      induction ps with
      | nil => intro h; cases h
      | cons q ps ih =>
        intro h
        rw [List.lookup_cons]
        by_cases c : p.1 = q.1
        · rw [show (p.1 == q.1) = true from beq_iff_eq.mpr c]; intro z; cases z
        · rw [show (p.1 == q.1) = false from beq_eq_false_iff_ne.mpr c]
          exact ih ((List.mem_cons.mp h).resolve_left fun e => c (by rw [e]))
    exact absurd c (this hp)
theorem none_back {d x : Addr} {H H' : Hp} {o : HO} (b : But d H H') (h : H' d = some o) (n : H' x = none) : H x = none := by
  cases c : H x with
  | none => rfl
  | some u =>
    by_cases e : x = d
    · rw [e, h] at n; cases n
    · rw [b _ _ e c] at n; cases n
theorem notin_take {α : Type} {l : List α} (nd : l.Nodup) {i : Nat} {x : α} (h : l[i]? = some x) : x ∉ l.take i := fun m => by
  obtain ⟨hi, e⟩ := List.getElem?_eq_some_iff.mp h
  have s : l = l.take i ++ l.drop i := (List.take_append_drop i l).symm
  rw [s] at nd
  have d : x ∈ l.drop i := by rw [List.drop_eq_getElem_cons hi, e]; exact List.mem_cons_self
  exact (List.nodup_append.mp nd).2.2 x m x d rfl
/-- the class Book -/
structure BcK (K : PySem.W.Frag) (mg : Str → Option Value) (C : Addr) : Prop where
  cl : Cls K C
  g : mg "Book" = some (.ref C)
  nH : NoAttr K C "held"
  sf : PySem.W.selfFirst K C = true
  ha : PySem.W.findIn K (.ref C) "__class__" = some (some (.builtin "object.__class__"))
  hn : PySem.W.specialIn K (.builtin "object.__class__") "__get__" = some (some (.builtin "getset_descriptor.__get__"))
  ht : PySem.W.takesIn K (.builtin "object.__class__") = some true
  hm : PySem.W.mroIn K C (.type "object") = some true
  me : PySem.W.kitOne K (.ref C) (.ref C) = some true
theorem BcK.ty {K : PySem.W.Frag} {mg : Str → Option Value} {C : Addr} (V : BcK K mg C) {H : Hp} {a : Addr} (h : ∃ dx fs, H a = some (.ins C dx fs)) : TyX K H (.ref a) (.ref C) := let ⟨_, _, e⟩ := h; .base (.ins e V.cl V.ha V.hn V.ht V.hm)
/-! ### a name put again -/
def setK {α : Type} (ds : List (Str × α)) (n : Str) (a : α) : List (Str × α) := if n ∈ ds.map (·.1) then ds.map fun p => if p.1 = n then (n, a) else p else ds ++ [(n, a)]
theorem put_setK {α : Type} (f : α → V) {ds : List (Str × α)} {n : Str} {a : α} : putK (kwK (ds.map fun p => (p.1, f p.2))) (.inr n) (f a) = kwK ((setK ds n a).map fun p => (p.1, f p.2)) := by
  unfold setK
  by_cases c : n ∈ ds.map (·.1)
  · rw [if_pos c]
    have any : ((kwK (ds.map fun p => (p.1, f p.2))).any fun kv => decide (kv.1 = Sum.inr n)) = true := by
      obtain ⟨r, hr, e⟩ := List.mem_map.mp c
      refine List.any_eq_true.mpr ⟨(.inr r.1, f r.2), ?_, by rw [e]; exact decide_eq_true rfl⟩
      unfold kwK
      rw [List.map_map]
      exact List.mem_map.mpr ⟨r, hr, rfl⟩
    unfold putK
    rw [if_pos any]
    unfold kwK
    rw [List.map_map, List.map_map, List.map_map, List.map_map]
    refine List.map_congr_left fun r _ => ?_
    show (if (Sum.inr r.1 : Key) = Sum.inr n then ((Sum.inr r.1 : Key), f a) else (Sum.inr r.1, f r.2)) = _
    by_cases d : r.1 = n
    · rw [if_pos (by rw [d])]
      show _ = ((Sum.inr (if r.1 = n then (n, a) else r).1 : Key), f (if r.1 = n then (n, a) else r).2)
      rw [if_pos d, d]
    · rw [if_neg fun z => d (Sum.inr.inj z)]
      show _ = ((Sum.inr (if r.1 = n then (n, a) else r).1 : Key), f (if r.1 = n then (n, a) else r).2)
      rw [if_neg d]
  · rw [if_neg c, put_new (by rw [List.map_map]; exact c), List.map_append]
    rfl
theorem setK_mem {α : Type} {ds : List (Str × α)} {n : Str} {a : α} {q : Str × α} (h : q ∈ setK ds n a) : q = (n, a) ∨ q ∈ ds := by
  unfold setK at h
  by_cases c : n ∈ ds.map (·.1)
  · rw [if_pos c] at h
    obtain ⟨p, hp, rfl⟩ := List.mem_map.mp h
    by_cases d : p.1 = n
    · exact .inl (if_pos d)
    · rw [if_neg d]; exact .inr hp
  · rw [if_neg c] at h
    exact (List.mem_append.mp h).elim .inr fun e => .inl (List.mem_singleton.mp e)
theorem setK_nd {α : Type} {ds : List (Str × α)} {n : Str} {a : α} (nd : (ds.map (·.1)).Nodup) : ((setK ds n a).map (·.1)).Nodup := by
  unfold setK
  by_cases c : n ∈ ds.map (·.1)
  · rw [if_pos c]
    have keys : (ds.map fun p => if p.1 = n then (n, a) else p).map (·.1) = ds.map (·.1) := by
      rw [List.map_map]
      refine List.map_congr_left fun p _ => ?_
      show (if p.1 = n then (n, a) else p).1 = p.1
      by_cases d : p.1 = n
      · rw [if_pos d, d]
      · rw [if_neg d]
    rw [keys]; exact nd
  · rw [if_neg c, List.map_append]
    exact List.nodup_append.mpr ⟨nd, by simp, fun x hx b hb e => c (by have e2 : x = n := e.trans (List.mem_singleton.mp hb); rw [e2] at hx; exact hx)⟩
theorem setK_len {α : Type} (ds : List (Str × α)) (n : Str) (a : α) : (setK ds n a).length ≤ ds.length + 1 ∧ 0 < (setK ds n a).length := by
  unfold setK
  by_cases c : n ∈ ds.map (·.1)
  · rw [if_pos c, List.length_map]
    exact ⟨Nat.le_succ _, by obtain ⟨p, hp, _⟩ := List.mem_map.mp c; exact List.length_pos_of_mem hp⟩
  · rw [if_neg c, List.length_append]
    exact ⟨Nat.le_refl _, Nat.succ_pos _⟩
theorem RowOk.set {ps : RowS} {n v : Str} (h : RowOk ps) (hn : nameS n = true) (hv : nameS v = true) (hl : ps.length < 60) : RowOk (setK ps n v) := ⟨fun p hp => (setK_mem hp).elim (fun e => by rw [e]; exact ⟨hn, hv⟩) (h.n p), setK_nd h.d, by have := (setK_len ps n v).1; omega⟩
/-- a drawn box: at most k kinds, rows of at most m wires, none empty -/
structure BxOk (k m : Nat) (es : List RowT) : Prop where
  l : es.length ≤ k
  d : (es.map (·.1)).Nodup
  r : ∀ e ∈ es, nameS e.1 = true ∧ RowOk e.2.1 ∧ e.2.1 ≠ [] ∧ e.2.1.length ≤ m
theorem BxOk.ok {k m : Nat} {es : List RowT} (h : BxOk k m es) (hk : k ≤ 60) : BkOk (es.map bkP) := ⟨fun b hb => by
  obtain ⟨e, he, rfl⟩ := List.mem_map.mp hb
  exact ⟨(h.r e he).1, (h.r e he).2.1⟩, by rw [keys_bkP]; exact h.d, by rw [List.length_map]; exact Nat.le_trans h.l hk⟩
theorem BxOk.set {k m : Nat} {es : List RowT} {n : Str} {ps : RowS} {a : Addr} (h : BxOk k m es) (hn : nameS n = true) (hr : RowOk ps) (ne : ps ≠ []) (hl : ps.length ≤ m) : BxOk (k + 1) m (setK es n (ps, a)) := ⟨by have := (setK_len es n (ps, a)).1; have := h.l; omega, setK_nd h.d, fun e he => (setK_mem he).elim (fun q => by rw [q]; exact ⟨hn, hr, ne, hl⟩) (h.r e)⟩
theorem RowsAt.set {H H' : Hp} {F r : Addr} {es : List RowT} {n : Str} {ps : RowS} (h : RowsAt H F es) (hr : H r = some (.dK (kwK (strB ps)))) (ne : r ≠ F) (b : But F H H') (h' : H' F = some (.dK (putK (kwK (es.map fun e => (e.1, V.ref e.2.2))) (.inr n) (.ref r)))) : RowsAt H' F (setK es n (ps, r)) := by
  refine ⟨by rw [h', put_setK (fun x : RowS × Addr => V.ref x.2) (a := (ps, r))], fun e he => ?_⟩
  rcases setK_mem he with rfl | he
  · exact ⟨ne, b _ _ ne hr⟩
  · exact ⟨(h.r e he).1, b _ _ (h.r e he).1 (h.r e he).2⟩
theorem RowsAt.pen {n : Nat} {H H' : Hp} {p q F : Addr} {es : List RowT} (h : RowsAt H F es) (hp : PenAt n H p q) (b : But p H H') : RowsAt H' F es := by
  obtain ⟨ns, a, r, h1, _⟩ := hp
  have off : ∀ {x : Addr} {kvs : List (Key × V)}, H x = some (.dK kvs) → x ≠ p := fun e z => by rw [z, h1] at e; cases e
  exact ⟨b _ _ (off h.d) h.d, fun e he => ⟨(h.r e he).1, b _ _ (off (h.r e he).2) (h.r e he).2⟩⟩
/-- the words of a book -/
theorem nrmB_map {bs : BkS} (h : ∀ b ∈ bs, b.2 ≠ []) (nd : (bs.map (·.1)).Nodup) : nrmB bs = (srtS (bs.map (·.1))).map fun k => (k, srtR (getR bs k)) := by
  unfold nrmB
  have key : ∀ l : List Str, (∀ k ∈ l, k ∈ bs.map (·.1)) → l.filterMap (fun n => if getR bs n = [] then none else some (n, srtR (getR bs n))) = l.map fun k => (k, srtR (getR bs k)) := fun l => by
    induction l with
    | nil => intro _; rfl
    | cons k l ih =>
      intro hl
      have hk := getR_of (hl k List.mem_cons_self) nd
      rw [List.filterMap_cons, if_neg (h _ hk), List.map_cons, ih fun x hx => hl x (List.mem_cons_of_mem _ hx)]
  exact key _ fun k hk => mem_srtS.mp hk
/-! x != y of an own class, str(x) of one -/
def rNeO (C : Addr) (sp : Sp) (E : XK) : R2 := fun x y H Q => IsI C y H ∧ IsI C x H ∧ sp [x, y] H (fun r H' => ∃ b, r = .bl b ∧ Q (.bl (!b)) H') E
structure NeF (K : PySem.W.Frag) (C : Addr) : Prop where
  n : PySem.W.findIn K (.ref C) "__ne__" = some (some (.builtin "object.__ne__"))
  o : PySem.W.subIn K (.ref C) (.type "object") = some true
theorem or_neO {X : Cx} {k : Nat} {C f : Addr} {sp : Sp} (N : NeF X.K C) (O : OpF X.prog X.w X.K X.mg X.base k C "__eq__" sp f) (hr : Room (k + 1) X.A) {E : XK} (hx : Passes CX0 X E) : OpR X (compareOp .NotEq) (rNeO C sp E) := op_neO O.F hr hx N.n N.o O.s O.n
theorem rd_neO {C : Addr} {sp : Sp} {E : XK} {H : Hp} {Q : VK} {a b : Addr} (h : ∃ dx fs, H a = some (.ins C dx fs)) (h2 : ∃ dx fs, H b = some (.ins C dx fs)) (q : sp [.ref a, .ref b] H (fun r H' => ∃ b, r = .bl b ∧ Q (.bl (!b)) H') E) : rNeO C sp E (.ref a) (.ref b) H Q :=
  ⟨let ⟨dx, fs, e⟩ := h2; ⟨b, dx, fs, rfl, e⟩, let ⟨dx, fs, e⟩ := h; ⟨a, dx, fs, rfl, e⟩, q⟩
def rStrO (C : Addr) (sp : Sp) (E : XK) : LR := fun vs H Q => ∃ x, vs = [x] ∧ IsI C x H ∧ sp [x] H (fun r H' => ∃ z : Str, r = .str z ∧ Q (.str z) H') E
theorem cr_strO {X : Cx} {k : Nat} {C f : Addr} {sp : Sp} (O : OpF X.prog X.w X.K X.mg X.base k C "__str__" sp f) (hr : Room (k + 2) X.A) {E : XK} (hx : Passes CX0 X E) : CallR X (.type "str") (rStrO C sp E) := call_strO O.F hr hx O.s O.n
theorem rd_strO {C : Addr} {sp : Sp} {E : XK} {H : Hp} {Q : VK} {a : Addr} (h : ∃ dx fs, H a = some (.ins C dx fs)) (q : sp [.ref a] H (fun r H' => ∃ z : Str, r = .str z ∧ Q (.str z) H') E) : rStrO C sp E [.ref a] H Q := ⟨_, rfl, let ⟨dx, fs, e⟩ := h; ⟨a, dx, fs, rfl, e⟩, q⟩
/-! Book() -/
theorem kwsB0 {C : Addr} {E : XK} {H : Hp} {Q : VK} (q : ∀ r d H', H r = none → H d = none → Same H H' → BookAt C H' r d [] → Q (.ref r) H') : KwsAt C (spInitB C) E [] Q [] H := by
  have g : BkOk (([] : List RowT).map bkP) := ⟨fun b hb => (by cases hb), List.nodup_nil, Nat.zero_le _⟩
  refine ⟨rfl, g.names (es := []), newB (es := []) rfl (fun e he => by cases he) g fun r d fs H' nr nd nf s v e => ?_⟩
  have : fs = [] := List.map_eq_nil_iff.mp e
  subst this
  exact q r d H' nr nd s v
end EE

/-! Own layer: def f(self, p=d, **rest); a new instance by C(x), C(a = ..), C(x, a = ..), c(x). -/
namespace EE
open PySem PySem.Spec PyProof.Rows L2 PySem.W
theorem bind_kwm {P : Program} {w : World} {A : Around} {E : Value → Shared → Prop} {s : Shared} {fd : FuncData} {u x d : Value} {us : List Value} {kws : List (Str × Value)} {nm : Arg} {p : Str} {T : Addr} {o : Obj} {n : Nat} {Q : List (Str × Value) → Shared → Prop}
    (h1 : fd.params.posonlyargs = []) (h2 : fd.params.args.map (·.arg) = [("self" : Str), p]) (np : (p == ("self" : Str)) = false) (h3 : fd.params.kwonlyargs = []) (h4 : fd.params.vararg = none) (h5 : fd.params.kwarg = some nm) (h6 : fd.defaults = .ref T) (hT : s.heap.get? T = some o) (oT : o.data = .seq #[d] n)
    (hus : (us = [] ∧ x = d) ∨ us = [x]) (hs : ∀ q ∈ kws, q.1 ≠ "self" ∧ q.1 ≠ p) (hn : (kws.map (·.1)).Nodup) (hl : kws.length ≤ sizeLine)
    (h : ∀ D h', D = s.heap.objs.size → s.heap.objs.size ≤ h'.objs.size → h'.get? D = some (dictOf (kwEs w.params s.toks kws) kws.length) → (∀ b o, s.heap.get? b = some o → h'.get? b = some o) → Q [(("self" : Str), u), (p, x), (nm.arg, .ref D)] { s with heap := h', toks := s.toks + kws.length }) :
    wpAny (model P w) A (bindArgs fd ⟨u :: us, kws⟩) Q E s := by
  unfold bindArgs
  simp only [h1, h2, h3, h4, h5, h6, List.map_nil, List.nil_append, List.append_nil]
  have np2 : (("self" : Str) == p) = false := by rw [beq_eq_false_iff_ne] at np ⊢; exact fun e => np e.symm
  obtain ⟨sl, hsl, lk1, lk2⟩ : ∃ sl : List (Str × Value), ([("self" : Str), p].zip (u :: us)) = sl ∧ List.lookup ("self" : Str) sl = some u ∧ ((us = [] ∧ x = d ∧ sl = [(("self" : Str), u)] ∧ List.lookup p sl = none) ∨ (us = [x] ∧ sl = [(("self" : Str), u), (p, x)] ∧ List.lookup p sl = some x)) := by
    rcases hus with ⟨rfl, e⟩ | rfl
    · exact ⟨_, rfl, by simp [List.lookup], .inl ⟨rfl, e, rfl, by simp [List.lookup, np]⟩⟩
    · exact ⟨_, rfl, by simp [List.lookup], .inr ⟨rfl, rfl, by simp [List.lookup, np]⟩⟩
  rw [hsl]
  refine wpAny_bind (wpAny_forIn_list _ (fun rest b s' => s' = s ∧ ∃ done, kws = done ++ rest ∧ b = (sl, done)) _ ?_ ?_ _ _ ⟨rfl, [], rfl, rfl⟩)
  · rintro y rest b s' ⟨rfl, done, hd, rfl⟩
    obtain ⟨n1, n2⟩ := hs y (by rw [hd]; exact List.mem_append_right _ List.mem_cons_self)
    have e1 : (([("self" : Str), p].contains y.1 || ([] : List Str).contains y.1) = true) = False := by
      simp [n1, n2]
    simp only [e1, if_false, Option.isSome_some, if_true]
    exact wpAny_pure ⟨rfl, done ++ [y], by rw [hd, List.append_assoc]; rfl, rfl⟩
  · rintro b s' ⟨rfl, done, hd, rfl⟩
    rw [List.append_nil] at hd
    subst hd
    refine wpAny_bind (wpAny_seqItems hT oT ?_)
    rcases lk2 with ⟨rfl, rfl, rfl, l2⟩ | ⟨rfl, rfl, l2⟩
    · have lk3 : List.lookup p ([(("self" : Str), u)] ++ [(p, x)]) = some x := by simp [List.lookup, np]
      have lk4 : List.lookup ("self" : Str) ([(("self" : Str), u)] ++ [(p, x)]) = some u := by simp [List.lookup]
      simp only [Option.getD_some, Nat.reduceAdd, Nat.reduceSub, Nat.reduceLT, decide_false, Bool.false_and, List.drop_succ_cons, List.zip_cons_cons, List.zip_nil_right, List.zip_nil_left, List.forIn_cons, List.forIn_nil, List.filterMap_cons, List.filterMap_nil, Option.map_some, List.append_nil, List.length_cons, List.length_nil, Nat.zero_add, Nat.sub_zero, List.drop_zero, List.take_succ_cons, List.take_zero, List.filter_cons, List.filter_nil, lk1, l2, lk3, lk4, Option.isNone_some, Option.isNone_none, Bool.false_eq_true, if_false, if_true, List.isEmpty_nil, Bool.not_true, pure_bind, gt_iff_lt]
      rw [if_neg (by omega)]
      refine wpAny_bind (wpAny_alloc ?_)
      have ho : (s'.heap.push { cls := .type "dict", data := .dict #[] }).get? s'.heap.objs.size = some (dictOf [] 0) := Heap.get?_push_size _ rfl
      refine wpAny_bind (kw_fill kws { s' with heap := s'.heap.push { cls := .type "dict", data := .dict #[] } } [] 0 ho (fun e he => nomatch he) (fun e he => nomatch he) hn fun h' ho' sb => wpAny_pure ?_)
      refine h s'.heap.objs.size h' rfl (Nat.le_of_lt (Heap.lt_size ho')) ?_ fun b o e => ?_
      · rw [List.nil_append, Nat.zero_add] at ho'
        exact ho'
      · have hb : b < s'.heap.objs.size := Heap.lt_size e
        rw [sb.2 b (Nat.ne_of_lt hb)]
        exact Heap.get?_push_of_some _ e
    · simp only [Option.getD_some, Nat.reduceAdd, Nat.reduceSub, Nat.reduceLT, decide_false, Bool.false_and, List.drop_succ_cons, List.zip_cons_cons, List.zip_nil_right, List.zip_nil_left, List.forIn_cons, List.forIn_nil, List.filterMap_cons, List.filterMap_nil, Option.map_some, List.append_nil, List.length_cons, List.length_nil, Nat.zero_add, Nat.sub_zero, List.drop_zero, List.take_succ_cons, List.take_zero, List.filter_cons, List.filter_nil, lk1, l2, Option.isNone_some, Option.isNone_none, Bool.false_eq_true, if_false, if_true, List.isEmpty_nil, Bool.not_true, pure_bind, gt_iff_lt]
      rw [if_neg (by omega)]
      refine wpAny_bind (wpAny_alloc ?_)
      have ho : (s'.heap.push { cls := .type "dict", data := .dict #[] }).get? s'.heap.objs.size = some (dictOf [] 0) := Heap.get?_push_size _ rfl
      refine wpAny_bind (kw_fill kws { s' with heap := s'.heap.push { cls := .type "dict", data := .dict #[] } } [] 0 ho (fun e he => nomatch he) (fun e he => nomatch he) hn fun h' ho' sb => wpAny_pure ?_)
      refine h s'.heap.objs.size h' rfl (Nat.le_of_lt (Heap.lt_size ho')) ?_ fun b o e => ?_
      · rw [List.nil_append, Nat.zero_add] at ho'
        exact ho'
      · have hb : b < s'.heap.objs.size := Heap.lt_size e
        rw [sb.2 b (Nat.ne_of_lt hb)]
        exact Heap.get?_push_of_some _ e
end EE
namespace EE
open PySem PySem.Spec PyProof.Rows L2 PySem.W
/-- what a def (self, p=d, **rest) does when it is called with names, p written or not -/
structure FnKm (P : Program) (w : World) (K : PySem.W.Frag) (mg : Str → Option Value) (base : Heap) (CX : CXT) (k : Nat) (f : Addr) (p : Str) (dv : V) (sp : Sp) : Prop where
  run : ∀ (A : Around) (outer : List Env) (s : Shared) (H : Hp) (u : Value) (v xv : V) (us : List Value) (kws : List (Str × Value)) (kvs : List (Str × V)) (Q : VK) (E : XK), Room k A → Env0 P w K mg base A outer s H → RelV v u → ((us = [] ∧ xv = dv) ∨ ∃ ux, us = [ux] ∧ RelV xv ux) → KV kvs kws → (∀ q ∈ kws, q.1 ≠ ("self" : Str) ∧ q.1 ≠ p) → (kws.map (·.1)).Nodup → kws.length ≤ 1000 →
    (∀ D, H D = none → sp [v, xv, .ref D] (upd H D (.dK (kwK kvs))) Q E) → codeAny (model P w) A (.call (.ref f) ⟨u :: us, kws⟩) (CR CX outer P w H s Q E) s
theorem okKm {CX : CXT} {P : Program} {w : World} {K : PySem.W.Frag} {mg : Str → Option Value} {base : Heap} {k : Nat} {f T : Addr} {name qual p : Str} {params : Arguments} {body : List Stmt} {scope : Scope} {kV doc pm cdv ct oc : Value} {an od : Option Addr}
    {osl : Array (Option Value)} {N : List Str} {nm : Arg} {dv : V} {ud : Value} {oT : Obj} {nT : Nat} {sp : Sp} (lk : K.lookup f = some ⟨oc, od, .func (PySem.W.fnOf name qual params body scope (.ref T) kV doc pm an cdv ct), osl⟩) (hcd : PySem.W.codeIn K cdv qual = true) (lT : K.lookup T = some oT) (hT : oT.data = .seq #[ud] nT) (rd : RelV dv ud)
    (S : FnScope N ["self", p, nm.arg] scope) (bk : Back P w CX) (np : (p == ("self" : Str)) = false)
    (h1 : params.posonlyargs = []) (h2 : params.args.map (·.arg) = [("self" : Str), p]) (h3 : params.kwonlyargs = []) (h4 : params.vararg = none) (h5 : params.kwarg = some nm)
    (hbody : ∀ (A : Around) (outer : List Env) (s : Shared) (H : Hp) (vs : List V) (Q : VK) (E : XK), Room k (A.deeper (envOfC qual scope s.heap.objs.size f cdv)) → sp vs H Q E →
      ∃ t, PSs (cxOf CX P w K mg base N qual scope f cdv A outer s H E) body t ∧ t { nx := fun _ H' => Q .non H', rt := Q } (start N vs) H) :
    FnKm P w K mg base CX (k + 1) f p dv sp := by
  refine ⟨fun A outer s H u v xv us kws kvs Q E hr e0 rv hus kv ns nd hl hsp => ?_⟩
  have KX : K.In s.heap := e0.mod.kin.keeps fun b o e => (e0.bs b o e).1
  obtain ⟨ux, hux, rx⟩ : ∃ ux, ((us = [] ∧ ux = ud) ∨ us = [ux]) ∧ RelV xv ux := by
    rcases hus with ⟨e1, e2⟩ | ⟨ux, e1, e2⟩
    · exact ⟨ud, .inl ⟨e1, rfl⟩, by rw [e2]; exact rd⟩
    · exact ⟨ux, .inr e1, e2⟩
  refine codeAny_call_function hr.depth (KX _ _ lk) rfl S.co S.gen rfl (PySem.W.codeRec_of KX hcd) (bind_kwm (nm := nm) (p := p) (x := ux) h1 h2 np h3 h4 h5 rfl (KX _ _ lT) hT hux ns nd (Nat.le_trans hl (by decide)) fun D h' hD hz ho kp => ?_)
  have nD : H D = none := e0.hok.fresh (Nat.le_of_eq hD.symm)
  have new : ObjOk P w (upd H D (.dK (kwK kvs))) h' D (.dK (kwK kvs)) := by
    refine ⟨?_, ?_, _, kv_kw kv, kw_dict ho nd⟩
    · rw [kwK, List.length_map, kv_len kv]
      exact Nat.le_trans hl (by decide)
    · refine beq_eq_false_iff_ne.mpr fun z => ?_
      have := PyProof.Rows.modules_low (e0.mod.nolimit.keeps (h' := s.heap) fun b o e => (e0.bs b o e).1)
      rw [← z, hD] at this
      exact absurd this (Nat.lt_irrefl _)
  have e1 := env0_laid (tk := s.toks + kws.length) e0 hD hz kp new
  have q1 := hsp D nD
  have nol : h'.NoLimit := (e0.mod.nolimit.keeps fun b o e => (e0.bs b o e).1).keeps kp
  have kinds : ∀ y ∈ [(("self" : Str), u), (p, ux), (nm.arg, Value.ref D)], scope.names.lookup y.1 = some .local ∨ (scope.names.lookup y.1 = some .cell ∧ ((cellsFrom (h'.objs.size + 1) scope.names []).lookup y.1).isSome = true) := fun ⟨n, z⟩ hy => by
    have hm : n ∈ [("self" : Str), p, nm.arg] := by
      simp only [List.mem_cons, List.not_mem_nil, or_false, Prod.mk.injEq] at hy ⊢
      exact hy.imp (·.1) (Or.imp (·.1) (·.1))
    rcases S.par n hm with q | q
    · exact .inl q
    · exact .inr ⟨q, PySem.W.cellsFrom_some _ _ _ (.inl q)⟩
  refine wpAny_newFunctionEnv_cells S.kind kinds fun env he s1 x => ?_
  subst he
  refine ⟨nol.keeps x.toInCall.keep, codeAny_func ?_⟩
  obtain ⟨t, ht, hq⟩ := hbody A outer { s with heap := h', toks := s.toks + kws.length } (upd H D (.dK (kwK kvs))) [v, xv, .ref D] Q E (hr.deeper _) q1
  have I := inv_start (CX := CX) (E := E) (ps := ["self", p, nm.arg]) (us := [u, ux, .ref D]) (vs := [v, xv, .ref D]) S hr.hd e1 rfl (.cons rv (.cons rx (.cons (show RelV (.ref D) (.ref D) from rfl) .nil))) x
  refine wpAny_mono (ht.run [] s1 _ _ _ I hq) (fun fl s2 hs => ?_) fun e s2 hs => wpAny_mono hs (fun _ s3 hz => bk outer s H D h' (s.toks + kws.length) (.dK (kwK kvs)) E e s3 e0.hok hD kp hz) fun e3 s3 hz => bk outer s H D h' (s.toks + kws.length) (.dK (kwK kvs)) E e3 s3 e0.hok hD kp hz
  have fin : ∀ {σ' : L2.St} {H' : Hp} {v2 : V} {u2 : Value}, Inv (cxOf CX P w K mg base N qual scope f cdv A outer { s with heap := h', toks := s.toks + kws.length } (upd H D (.dK (kwK kvs))) E) [] σ' H' s2 → RelV v2 u2 → Q v2 H' → CE outer P w H s Q u2 s2 :=
    fun {σ' H' v2 u2} J rv q => ⟨v2, H', J.os, J.bare, (Un.laid kp (Nat.le_of_eq hD.symm) nD).trans J.base, J.hok, rv, q⟩
  cases fl with
  | ret u2 =>
    obtain ⟨v2, σ', H', J, rv2, q⟩ := hs
    exact fin J rv2 q
  | next =>
    obtain ⟨σ', H', J, q⟩ := hs
    exact fin (v2 := V.non) (u2 := Value.none) J rfl q
  | brk =>
    obtain ⟨_, _, _, q⟩ := hs
    exact False.elim q
  | cont =>
    obtain ⟨_, _, _, q⟩ := hs
    exact False.elim q
/-- what a call with names asks: the names are apart, none is a parameter's -/
def NamesM (p : Str) (kvs : List (Str × V)) : Prop := (∀ q ∈ kvs, q.1 ≠ ("self" : Str) ∧ q.1 ≠ p) ∧ (kvs.map (·.1)).Nodup ∧ kvs.length ≤ 1000
theorem namesM_nil {p : Str} : NamesM p [] := ⟨fun _ h => (by cases h), List.Pairwise.nil, Nat.zero_le _⟩
/-- the new instance and its dict, then __init__ with p and the names -/
def MkM (C : Addr) (sp : Sp) (E : XK) (xv : V) (kvs : List (Str × V)) (H : Hp) (Q : VK) : Prop := ∀ x dx, H x = none → H dx = none → dx ≠ x → ∀ D, (upd (upd H dx (.own x)) x (.ins C dx [])) D = none →
  sp [.ref x, xv, .ref D] (upd (upd (upd H dx (.own x)) x (.ins C dx [])) D (.dK (kwK kvs))) (fun v H3 => v = .non ∧ Q (.ref x) H3) E
section
variable {X : Cx} {CX : CXT} {k : Nat} {f C : Addr} {q : Str} {dv : V} {sp : Sp} {E : XK}
theorem run_makeM {pins : List (Addr × Obj)} {σ : L2.St} {H : Hp} {s : Shared} {Q : VK} {xv : V} {us : List Value} {kvs : List (Str × V)} {kws : List (Str × Value)} (M : Mk X.K C f) (F : FnKm X.prog X.w X.K X.mg X.base CX k f q dv sp) (hr : Room (k + 1) X.A) (hx : Passes CX X E) (I : Inv X pins σ H s) (hus : (us = [] ∧ xv = dv) ∨ ∃ ux, us = [ux] ∧ RelV xv ux) (r : KV kvs kws) (ok : NamesM q kvs)
    (h : MkM C sp E xv kvs H Q) : wpAny (model X.prog X.w) X.A (call (.ref C) us kws) (EP X pins σ Q) X.xe s := by
  have hq := h (s.heap.objs.size + 1) s.heap.objs.size (I.hok.fresh (Nat.le_succ _)) (I.hok.fresh (Nat.le_refl _)) (Nat.ne_of_lt (Nat.lt_succ_self _))
  have I2 := Inv.made (C := C) I
  have ks := names_keys r
  refine wpAny_call (make_map (f := f) I.kIn M.makes M.init (beq_iff_eq.mp M.fn) (codeAny_mono (F.run _ X.stack _ _ (.ref (s.heap.objs.size + 1)) (.ref (s.heap.objs.size + 1)) xv us kws kvs _ E (hr.make C us kws) (I2.env0.make C us kws) rfl hus r
    (fun p hp => ?_) (by rw [ks]; exact ok.2.1) (by rw [← kv_len r]; exact ok.2.2) hq) fun r s' hq' => ?_))
  · have : p.1 ∈ kvs.map (·.1) := ks ▸ List.mem_map_of_mem hp
    obtain ⟨z, hq1, hq2⟩ := List.mem_map.mp this
    exact hq2 ▸ ok.1 z hq1
  cases r with
  | error e => exact hx pins σ _ _ e s' I2 hq'
  | ok fl =>
    cases fl with
    | ret u =>
      obtain ⟨v, H', I3, rv, ev, q3⟩ := I2.after hq'
      subst ev
      exact ⟨rv, ⟨V.ref (s.heap.objs.size + 1), H', I3, rfl, q3⟩⟩
    | next => exact False.elim hq'
    | brk => exact False.elim hq'
    | cont => exact False.elim hq'
variable {x : Str} {p pos : Pos} {e : Expr} {tf : TE} {t tk : TA} {kws : List Keyword} {ks : List Str}
/-- C(x), C a global -/
def tMkM1 (C : Addr) (sp : Sp) (E : XK) (t : TA) : TE := fun σ H Q => t σ H fun vs H1 => ∃ xv, vs = [xv] ∧ MkM C sp E xv [] H1 Q
theorem pe_mkM1 (M : Mk X.K C f) (F : FnKm X.prog X.w X.K X.mg X.base CX k f q dv sp) (hr : Room (k + 1) X.A) (hg : Gl X x) (hm : X.mg x = some (.ref C)) (hx : Passes CX X E) (ha : PA X [e] t) (hdb : (x == ("__debug__" : Str)) = false := by decide)
    (he : starEach [e] X.env = (false, eval e X.env) :: starEach [] X.env := by rfl) : PE X (.Call (.Name x p) [e] [] pos) (tMkM1 C sp E t) := by
  refine ⟨fun pins s σ H Q I h => ?_⟩
  refine wpAny_Call_Name_kw (ld_glob I hg hm ?_ hdb)
  refine PySem.W.callWith_K (h₀ := X.base) I.ok.mod.kin M.kp (thn (ha.run pos pins s σ H _ I h) fun us s1 ⟨vs, H1, I1, r, xv, ev, q1⟩ => ⟨I1.kIn, ?_⟩) he rfl
  subst ev
  obtain ⟨u1, rfl, r1⟩ := vals1 r
  exact run_makeM M F hr hx I1 (.inr ⟨u1, rfl, r1⟩) .nil namesM_nil q1
/-- c(x), c a value that is the class -/
def tMkMV (C : Addr) (sp : Sp) (E : XK) (tf : TE) (t : TA) : TE := fun σ H Q => tf σ H fun c H0 => c = .ref C ∧ tMkM1 C sp E t σ H0 Q
theorem pe_mkMV (M : Mk X.K C f) (F : FnKm X.prog X.w X.K X.mg X.base CX k f q dv sp) (hr : Room (k + 1) X.A) (hx : Passes CX X E) (hf : PE X (.Name x p) tf) (ha : PA X [e] t)
    (he : starEach [e] X.env = (false, eval e X.env) :: starEach [] X.env := by rfl) : PE X (.Call (.Name x p) [e] [] pos) (tMkMV C sp E tf t) := by
  refine ⟨fun pins s σ H Q I h => ?_⟩
  refine wpAny_Call_Name_kw (thn (hf.run pins s σ H _ I h) fun uc s0 ⟨c, H0, I0, rc, ec, h0⟩ => ?_)
  subst ec
  obtain rfl : uc = Value.ref C := rc
  refine PySem.W.callWith_K (h₀ := X.base) I.ok.mod.kin M.kp (thn (ha.run pos pins s0 σ H0 _ I0 h0) fun us s1 ⟨vs, H1, I1, r, xv, ev, q1⟩ => ⟨I1.kIn, ?_⟩) he rfl
  subst ev
  obtain ⟨u1, rfl, r1⟩ := vals1 r
  exact run_makeM M F hr hx I1 (.inr ⟨u1, rfl, r1⟩) .nil namesM_nil q1
/-- C() -/
def tMkM0 (C : Addr) (sp : Sp) (E : XK) (dv : V) : TE := fun _ H Q => MkM C sp E dv [] H Q
theorem pe_mkM0 (M : Mk X.K C f) (F : FnKm X.prog X.w X.K X.mg X.base CX k f q dv sp) (hr : Room (k + 1) X.A) (hg : Gl X x) (hm : X.mg x = some (.ref C)) (hx : Passes CX X E) (hdb : (x == ("__debug__" : Str)) = false := by decide) : PE X (.Call (.Name x p) [] [] pos) (tMkM0 C sp E dv) := by
  refine ⟨fun pins s σ H Q I h => ?_⟩
  refine wpAny_Call_Name_kw (ld_glob I hg hm ?_ hdb)
  exact PySem.W.callWith_K0 I.kIn M.kp (run_makeM M F hr hx I (.inl ⟨rfl, rfl⟩) .nil namesM_nil h)
/-- C(a = .., b = ..) -/
def tMkMK (C : Addr) (sp : Sp) (E : XK) (q : Str) (dv : V) (ks : List Str) (tk : TA) : TE := fun σ H Q => tk σ H fun vs H1 => vs.length = ks.length ∧ NamesM q (ks.zip vs) ∧ MkM C sp E dv (ks.zip vs) H1 Q
theorem pe_mkMK (M : Mk X.K C f) (F : FnKm X.prog X.w X.K X.mg X.base CX k f q dv sp) (hr : Room (k + 1) X.A) (hg : Gl X x) (hm : X.mg x = some (.ref C)) (hx : Passes CX X E) (hkw : PK X kws tk)
    (hall : (backToKw pos (keywordEach kws X.env)).all (·.1.isSome) = true := by rfl) (hks : (backToKw pos (keywordEach kws X.env)).filterMap (·.1) = ks := by rfl) (hdb : (x == ("__debug__" : Str)) = false := by decide)
    (hpl : ((backTo pos (starEach [] X.env)).any (·.1) || (backToKw pos (keywordEach kws X.env)).any (·.1.isNone)) = false := by rfl) :
    PE X (.Call (.Name x p) [] kws pos) (tMkMK C sp E q dv ks tk) := by
  refine ⟨fun pins s σ H Q I h => ?_⟩
  refine wpAny_Call_Name_kw (ld_glob I hg hm ?_ hdb)
  refine PySem.W.callWith_KW0 (h₀ := X.base) I.ok.mod.kin M.kp hall (thn (hkw.run pos pins s σ H _ I h) fun ws s2 ⟨zs, H2, I2, rz, l2, ok, q2⟩ => ⟨I2.kIn, ?_⟩) hpl
  rw [hks]
  exact run_makeM M F hr hx I2 (.inl ⟨rfl, rfl⟩) (kv_zip rz) ok q2
/-- C(x, a = .., b = ..) -/
def tMkMP (C : Addr) (sp : Sp) (E : XK) (q : Str) (ks : List Str) (t tk : TA) : TE := fun σ H Q => t σ H fun xs H1 => tk σ H1 fun vs H2 => ∃ xv, xs = [xv] ∧ vs.length = ks.length ∧ NamesM q (ks.zip vs) ∧ MkM C sp E xv (ks.zip vs) H2 Q
theorem pe_mkMP (M : Mk X.K C f) (F : FnKm X.prog X.w X.K X.mg X.base CX k f q dv sp) (hr : Room (k + 1) X.A) (hg : Gl X x) (hm : X.mg x = some (.ref C)) (hx : Passes CX X E) (ha : PA X [e] t) (hkw : PK X kws tk)
    (hall : (backToKw pos (keywordEach kws X.env)).all (·.1.isSome) = true := by rfl) (hks : (backToKw pos (keywordEach kws X.env)).filterMap (·.1) = ks := by rfl) (hdb : (x == ("__debug__" : Str)) = false := by decide)
    (he : starEach [e] X.env = (false, eval e X.env) :: starEach [] X.env := by rfl)
    (hpl : ((backTo pos (starEach [e] X.env)).any (·.1) || (backToKw pos (keywordEach kws X.env)).any (·.1.isNone)) = false := by rfl) :
    PE X (.Call (.Name x p) [e] kws pos) (tMkMP C sp E q ks t tk) := by
  refine ⟨fun pins s σ H Q I h => ?_⟩
  refine wpAny_Call_Name_kw (ld_glob I hg hm ?_ hdb)
  refine PySem.W.callWith_KW (h₀ := X.base) I.ok.mod.kin M.kp hall (thn (ha.run pos pins s σ H _ I h) fun us s1 ⟨vs, H1, I1, r, q1⟩ => ?_) hpl he
  refine thn (hkw.run pos pins s1 σ H1 _ I1 q1) fun ws s2 ⟨zs, H2, I2, rz, xv, ev, l2, ok, q2⟩ => ⟨I2.kIn, ?_⟩
  rw [hks]
  subst ev
  obtain ⟨u1, rfl, r1⟩ := vals1 r
  exact run_makeM M F hr hx I2 (.inr ⟨u1, rfl, r1⟩) (kv_zip rz) ok q2
variable {σ : L2.St} {H : Hp} {Q : VK}
instance go_mkM1 : Go (tMkM1 C sp E t σ H Q) (t σ H fun vs H1 => ∃ xv, vs = [xv] ∧ MkM C sp E xv [] H1 Q) := ⟨fun h => h⟩
instance go_mkMV : Go (tMkMV C sp E tf t σ H Q) (tf σ H fun c H0 => c = .ref C ∧ tMkM1 C sp E t σ H0 Q) := ⟨fun h => h⟩
instance go_mkM0 : Go (tMkM0 C sp E dv σ H Q) (MkM C sp E dv [] H Q) := ⟨fun h => h⟩
instance go_mkMK : Go (tMkMK C sp E q dv ks tk σ H Q) (tk σ H fun vs H1 => vs.length = ks.length ∧ NamesM q (ks.zip vs) ∧ MkM C sp E dv (ks.zip vs) H1 Q) := ⟨fun h => h⟩
instance go_mkMP : Go (tMkMP C sp E q ks t tk σ H Q) (t σ H fun xs H1 => tk σ H1 fun vs H2 => ∃ xv, xs = [xv] ∧ vs.length = ks.length ∧ NamesM q (ks.zip vs) ∧ MkM C sp E xv (ks.zip vs) H2 Q) := ⟨fun h => h⟩
end
end EE

/-! Own layer: != of two lists whose items are equal by an own ==. -/
namespace GQ
open PySem PySem.SeqAt
open AutoSeq1 (wpAny_loadPart')
open MeetsSeq MeetsSeq2 MeetsSeq3 SeqRoads2
section
variable {prog : Program} {w : World} {A : Around} {R : Result → Shared → Prop}
theorem ne_loopG (l b : Addr) (N : Nat) (I : Nat → Shared → Prop) (hl : ListI prog w A (fun e s' => R (.error e) s') l b N I)
    (fin : ∀ s, I N s → R (.ok (.ret (.bool false))) s) (k : Nat) :
    ∀ i : Nat, N - i = k → i ≤ N → ∀ s, I i s →
      wpAny (model prog w) A.in1 (Builtin.«list.__eq__.loop» ⟨[.ref l, .ref b, rawInt i, rawInt 3], []⟩) (FinOf prog w A R) (fun e s' => R (.error e) s') s := by
  induction k with
  | zero =>
    intro i hk hi s h
    obtain ⟨items, items2, n, n2, hl1, hb1, hs1, hs2, _⟩ := hl _ _ h
    have hi' : i = N := by omega
    have hR : R (.ok (.ret (.bool false))) s := fin s (hi' ▸ h)
    obtain ⟨hp, g, d, tk, os⟩ := s
    wp_walk using wpAny_loadPart' hl1, wpAny_loadPart' hb1
    have hi1 : items[((i : Nat) : Int).toNat]? = none := by simp; omega
    have hi2 : items2[((i : Nat) : Int).toNat]? = none := by simp; omega
    rw [hi1, hi2]
    wp_walk using wpAny_loadPart' hl1, wpAny_loadPart' hb1
    show R (.ok (.ret (.bool (items.size != items2.size)))) _
    rw [hs1, hs2]
    simpa using hR
  | succ k ih =>
    intro i hk hi s h
    obtain ⟨items, items2, n, n2, hl1, hb1, hs1, hs2, turn⟩ := hl _ _ h
    have hlt : i < items.size := by omega
    have hlt2 : i < items2.size := by omega
    have ht := turn hlt hlt2
    obtain ⟨hp, g, d, tk, os⟩ := s
    wp_walk using wpAny_loadPart' hl1, wpAny_loadPart' hb1
    have hi1 : items[((i : Nat) : Int).toNat]? = some items[i] := by simp [hlt]
    have hi2 : items2[((i : Nat) : Int).toNat]? = some items2[i] := by simp [hlt2]
    have hc : ((i : Int) + 1) = ((i + 1 : Nat) : Int) := by omega
    rw [hi1, hi2]
    refine wpAny_bind (wpAny_mono ht (fun r s2 h2 => ?_) fun _ _ x => x)
    obtain ⟨hr, h2⟩ := h2
    subst hr
    have hrec := ih (i + 1) (by omega) (by omega) s2 h2
    obtain ⟨hp2, g2, d2, tk2, os2⟩ := s2
    wp_walk
    rw [hc]
    exact ⟨plainId_quiet plain_eq_loop _, codeAny_builtin entry_eq_loop (by
      rw [Around.under_plainId plain_eq_loop _]
      exact hrec)⟩
theorem list_neG (l b : Addr) (N : Nat) (I : Nat → Shared → Prop) (hl : ListI prog w A (fun e s' => R (.error e) s') l b N I)
    (fin : ∀ s, I N s → R (.ok (.ret (.bool false))) s) {s : Shared} (h : I 0 s) :
    wpAny (model prog w) A.in1 (Builtin.«list.__ne__» ⟨[.ref l, .ref b], []⟩) (FinOf prog w A R) (fun e s' => R (.error e) s') s := by
  obtain ⟨items, items2, n, n2, hl1, hb1, hs1, hs2, _⟩ := hl _ _ h
  have hrec := ne_loopG (A := A) (R := R) l b N I hl fin _ 0 rfl (Nat.zero_le _) s h
  obtain ⟨hp, g, d, tk, os⟩ := s
  have f3 := AutoSeq1.sub_list_list
  have hne : ¬ (items.size != items2.size) = true := by simp [hs1, hs2]
  wp_walk using wpAny_loadPart' hl1, wpAny_loadPart' hb1
  exact ⟨plainId_quiet plain_eq_loop _, codeAny_builtin entry_eq_loop (by
    rw [Around.under_plainId plain_eq_loop _]
    exact hrec)⟩
end
section
variable {prog : Program} {w : World} {A : Around} {E : Value → Shared → Prop} {s : Shared}
theorem rcne_listG {l b : Addr} {N : Nat} {Q : Value → Shared → Prop} (hu : A.units < cLine) (I : Nat → Shared → Prop) (hl : ListI prog w A E l b N I)
    (fin : ∀ s, I N s → Q (.bool false) s) (h : I 0 s) : wpAny (model prog w) A (richCompare .NotEq (.ref l) (.ref b)) Q E s := by
  obtain ⟨items, items2, n, n2, hl1, hb1, _, _, _⟩ := hl _ _ h
  refine wpAny_richCompare_same_room (op := .NotEq) ⟨_, hl1, rfl⟩ ⟨_, hb1, rfl⟩ F.slot_list_ne (call_here F.slot_list_ne ⟨_, hl1, rfl⟩ F.entry_list_ne (F.args_list_ne_2 _ _) ?_) hu
  exact list_neG (R := wants (fun v s' => v ≠ .notImplemented ∧ Q v s') E) l b N I hl (fun s' q => ⟨(fun x => nomatch x), fin s' q⟩) h
end
end GQ
namespace L2
open PySem PySem.Spec PyProof.Rows
/-- x != y of lists, item by item equal -/
def rNeG (D : Eqv) : R2 := fun x y H Q => DList D x y H ∧ ∀ H', Ext H H' → Q (.bl false) H'
theorem or_neG {X : Cx} {n : Nat} {D : Eqv} (hD : Mon D) (h : EqG X n D) (hr : Room (n + 1) X.A) : OpR X (compareOp .NotEq) (rNeG D) := by
  intro pins s σ H x y v u Q I rx ry hq
  obtain ⟨⟨a, b, xs, ys, rfl, rfl, ha, hb, p⟩, q⟩ := hq
  cases rx
  cases ry
  show wpAny (model X.prog X.w) X.A (richCompare .NotEq (.ref a) (.ref b)) (EP X pins σ Q) X.xe s
  have sb : Sub X (n + 1) X.A := ⟨hr, rfl⟩
  refine GQ.rcne_listG (N := xs.length) hr.units0 (fun _ s' => LoopI X pins σ H s') (fun i s' q => ?_) (fun s' l => ?_) ⟨H, I, Ext.rfl'⟩
  · obtain ⟨H1, I1, e1⟩ := id q
    obtain ⟨z, its, k, r, e⟩ := I1.hok a _ (e1 _ _ ha)
    obtain ⟨z2, its2, k2, r2, e2⟩ := I1.hok b _ (e1 _ _ hb)
    refine ⟨its.toArray, its2.toArray, k, k2, e, e2, by rw [List.size_toArray, ← r.length], by rw [List.size_toArray, ← r2.length, ← p.1], fun h1 h2 => ?_⟩
    exact turnG hD h sb p r r2 i h1 h2 s' q
  · obtain ⟨H', I', e⟩ := l
    exact ⟨.bl false, H', I', rfl, q H' e⟩
end L2

namespace EE
open PySem PySem.Spec PyProof.Rows PySem.SeqAt L2
/-- max(xs), xs a list of ints, one at least -/
def rMaxI (K : PySem.W.Frag) : List V → Hp → VK → Prop := fun vs H Q => ∃ (p : Addr) (ns : List Int), vs = [.ref p] ∧ SqL K H p (ns.map V.int) ∧ 0 < ns.length ∧ ∀ m, m ∈ ns → (∀ y ∈ ns, y ≤ m) → Q (.int m) H
theorem call_maxI {X : Cx} (hc : X.calm = true) : CallR X (.builtin "max") (rMaxI X.K) := by
  intro pins s σ H vs us Q I r h
  obtain ⟨p, ns, rfl, hs, hne, q⟩ := h
  obtain ⟨its, rv, hl, _⟩ := I.list hs
  rw [Vals.ref1 r]
  have hsz : its.length = ns.length := by rw [← rv.length, List.length_map]
  have hP : ∀ (i : Nat) (v : Value), its.toArray[i]? = some v → ∃ t, v = .int (ns.getD i 0) t := fun i v e => by
    rw [List.getElem?_toArray] at e
    have hi : i < its.length := (List.getElem?_eq_some_iff.mp e).1
    have hi2 : i < ns.length := by omega
    have e2 : (ns.map V.int)[i]? = some (V.int ns[i]) := by rw [List.getElem?_map, List.getElem?_eq_getElem hi2]; rfl
    obtain ⟨u, eu, r2⟩ := Vals.get rv e2
    rw [e] at eu
    cases eu
    have e3 : ns.getD i 0 = ns[i] := by rw [List.getD_eq_getElem?_getD, List.getElem?_eq_getElem hi2] <;> rfl
    rw [e3]
    exact r2
  refine call_max_walk (iter_anyList hl.isList fun s₂ e st hfp hlI => ?_)
  subst e
  refine ⟨_, _, _, _, _, _, _, rfl, Walks.list (A := X.A.in1) (I.ok.hd hc) _ p hlI its.toArray, st, hfp, by simp; omega, CmpOf.ints_gt (fun i => ns.getD i 0) hP, fun v h' tk hv' hk => ?_⟩
  obtain ⟨t, rfl⟩ := hP _ _ hv'
  have hn : its.toArray.size - 1 = ns.length - 1 := by rw [List.size_toArray, hsz]
  obtain ⟨m1', m2'⟩ := argBest_gt (fun i => ns.getD i 0) (its.toArray.size - 1)
  have m1 : argBest (fun i j => decide (ns.getD i 0 > ns.getD j 0)) (its.toArray.size - 1) ≤ its.toArray.size - 1 := m1'
  have m2 : ∀ j, j ≤ its.toArray.size - 1 → ns.getD j 0 ≤ ns.getD (argBest (fun i j => decide (ns.getD i 0 > ns.getD j 0)) (its.toArray.size - 1)) 0 := m2'
  refine ⟨.int _, H, I.kept (t' := tk) (PySem.old_kept hk), ⟨t, rfl⟩, q _ (PySem.getD_mem (by omega)) fun y hy => ?_⟩
  obtain ⟨j, hj, e⟩ := List.mem_iff_getElem.mp hy
  have z := m2 j (by omega)
  have e3 : ns.getD j 0 = y := by rw [List.getD_eq_getElem?_getD, List.getElem?_eq_getElem hj, ← e] <;> rfl
  rw [e3] at z
  exact z
/-- xs == z, xs a list or tuple, z a text -/
def rEqLS (K : PySem.W.Frag) : R2 := fun x y H Q => ∃ (p : Addr) (z : Str) (xs : List V), x = .ref p ∧ y = .str z ∧ (H p = some (.lst xs) ∨ H p = some (.tup xs)) ∧ Q (.bl false) H
theorem op_eqLS {X : Cx} (hu : X.A.units < cLine) : OpR X (compareOp .Eq) (rEqLS X.K) := by
  intro pins s σ H x y v u Q I rx ry h
  obtain ⟨p, z, xs, rfl, rfl, hs, q⟩ := h
  obtain ⟨t, rfl⟩ := ry
  have rx : v = .ref p := rx
  subst rx
  show wpAny (model X.prog X.w) X.A (richCompare .Eq (.ref p) (.str z t)) _ _ s
  rcases hs with hs | hs
  · obtain ⟨its, rv, hl, _⟩ := I.list (sqL_of hs)
    exact RcAt.list_str z t hl.isList hu _ _ _ _ ⟨.bl false, H, I, rfl, q⟩
  · obtain ⟨its, rv, hl, _⟩ := I.tuple (sqT_of hs)
    exact RcAt.tuple_str z t hl hu _ _ _ _ ⟨.bl false, H, I, rfl, q⟩
end EE

/-! Own layer: a def that calls a lambda that it got within a try. -/
namespace EE
open PySem PySem.Spec PyProof.Rows L2 LamX
theorem takes_len {X : Cx} {W : WX} (tk : Takes X W) {n : Nat} (hn : X.N.length = n) : Takes X (fun cls d σ H => σ.length = n → W cls d σ H) := fun u s' ⟨a, B, sI, pins, σ, H, cls, d, e, I, nb, up, sky, na, os, ag, w⟩ =>
  tk u s' ⟨a, B, sI, pins, σ, H, cls, d, e, I, nb, up, sky, na, os, ag, w (by rw [← hn]; exact I.len)⟩
/-- what the lambda at f is asked for in a try, n the number of the slots -/
def tAsk (n : Nat) (W : WX) (f c' : Addr) (q : Str) (tl : XK → Hp → VK → Prop) : TE := fun σ H Q => ∃ Ech : XK, (∀ cls d σ' H', Ech cls d H' → σ'.length = n → W cls d σ' H') ∧ σ[0]? = some (some (.ref f)) ∧ H c' = some (CodeO c' q) ∧ tl Ech H Q
/-- a call of the lambda at f, as GivesTo tells it -/
def ActOf (X : Cx) (Ng : List Str) (x : Str) (sg : Scope) (g : Addr) (cdg : Value) (a q : Str) (f c' : Addr) (s : Shared) (H : Hp) (tl : XK → Hp → VK → Prop) : Prop :=
  ∀ (W : WX) (pn : List (Addr × Obj)) (xe : Value → Shared → Prop) (E : XK) (p1 p2 : Pos), Takes ((cxOf C8.CX0 X.prog X.w X.K X.mg X.base Ng x sg g cdg X.A X.stack s H C8.E0).tr pn xe) W → (∀ cls d σ' H', E cls d H' → W cls d σ' H') →
      PE ((cxOf C8.CX0 X.prog X.w X.K X.mg X.base Ng x sg g cdg X.A X.stack s H C8.E0).tr pn xe) (.Call (.Name a p1) [] [] p2) (fun σZ HZ Q => σZ[0]? = some (some (.ref f)) ∧ HZ c' = some (CodeO c' q) ∧ tl E HZ Q)
theorem pe_ask {X : Cx} {Ng : List Str} {x : Str} {sg : Scope} {g : Addr} {cdg : Value} {a q : Str} {f c' : Addr} {s : Shared} {H : Hp} {tl : XK → Hp → VK → Prop} {W : WX} {pn : List (Addr × Obj)} {xe : Value → Shared → Prop} {p1 p2 : Pos} {n : Nat}
    (act : ActOf X Ng x sg g cdg a q f c' s H tl) (tk : Takes ((cxOf C8.CX0 X.prog X.w X.K X.mg X.base Ng x sg g cdg X.A X.stack s H C8.E0).tr pn xe) W) (hn : Ng.length = n) :
    PE ((cxOf C8.CX0 X.prog X.w X.K X.mg X.base Ng x sg g cdg X.A X.stack s H C8.E0).tr pn xe) (.Call (.Name a p1) [] [] p2) (tAsk n W f c' q tl) :=
  ⟨fun pins s' σ H' Q I h => by
    obtain ⟨Ech, hW, h1, h2, h3⟩ := h
    exact (act _ pn xe Ech p1 p2 (takes_len tk hn) (fun cls d σ' H' e l => hW cls d σ' H' e l)).run pins s' σ H' Q I ⟨h1, h2, h3⟩⟩
/-- g(lambda: body), g a def that asks it -/
theorem pe_asks {X : Cx} {T : List (Addr × Str)} {TT : (XK → Hp → VK → Prop) → Hp → VK → Prop} {x a : Str} {g c P : Addr} {k : Nat} {st : Stmt} {fd : FuncData} {Ng : List Str} {params : Arguments} {body : Expr} {scope : Scope} {t : XK → TE} {p lpos pos : Pos}
    (F : Fun X.K x x st g fd) (hb : L2.Binds X.K fd [a] []) (hm : X.mg x = some (.ref g)) (Sg : FnScope Ng [a] (defScope st)) (hNg : Ng[0]? = some a) (hva : Vis (defScope st) a)
    (hG : ∀ cdv, GivesTo X Ng x (defScope st) g cdv (defBody st) a (X.env.qual ++ "<lambda>") TT) (hg : Gl X x)
    (TB : TabB X.base X.mg c P) (hcode : X.env.code = .ref c) (hmT : (P, X.env.qual ++ "<lambda>") ∈ T) (hu : ∀ p ∈ T, p.1 = P → p.2 = X.env.qual ++ "<lambda>") (hr : Room (k + 2) X.A) (L : LamS X.env.scope scope) (hdef : defaultsOf params X.env = ([], []))
    (hbind : ∀ (q : Str) (cl : List (Str × Addr)) (pm cv ctv : Value), bindArgs (PySem.W.kla_fn "<lambda>" q params body scope cl pm cv ctv) ⟨[], []⟩ = pure [])
    (hbody : ∀ (A : Around) (outer : List Env) (s : Shared) (H : Hp) (E : XK) (f c' : Addr), Room k (A.deeper (lamEnv X scope s.heap.objs.size f c')) → PE (lamCx X A outer s H E scope f c') body (t E))
    (hdb : (x == ("__debug__" : Str)) = false := by decide +kernel) (hd : (a == ("__debug__" : Str)) = false := by decide +kernel) (hcd : (a == ("__classdict__" : Str)) = false := by decide +kernel) :
    PE X (.Call (.Name x p) [.Lambda params body scope lpos] [] pos) (tLam T TT t) := by
  obtain ⟨oc, od, kV, doc, pm, an, cdv, ct, osl, rfl, lk, hcc⟩ := F.ex
  exact pe_lamcall hg hm F.kp lk hcc hb Sg hNg hva (hG cdv) TB hcode hmT hu hr L hdef hbind hbody hdb hd hcd
section
open ClX
variable {X : Cx} {CX : CXT} {k n : Nat} {C p g : Addr} {mc : Value} {sp : Sp} {o e : Expr} {es : List Expr} {m : Str} {pos apos : Pos} {ta : TE} {t : TA}
/-- C.m(x, k = v) -/
def tCMethPN (C : Addr) (n l : Nat) (sp : Sp) (gV : List V → List V → List V) (E : XK) (ta : TE) (t tk : TA) : TE := fun σ H Q => ta σ H fun x H1 => x = .ref C ∧ t σ H1 fun vs H2 => tk σ H2 fun zs H3 => (V.ref C :: vs).length = n ∧ zs.length = l ∧ sp (gV (.ref C :: vs) zs) H3 Q E
theorem pe_cmethPN {E : XK} {fd : FuncData} {ps ks : List Str} {kws : List Keyword} {tk : TA} {gg : List Value → List Value → List Value} {gV : List V → List V → List V} {pl : Sem Bool} (he : PE X o ta) (r : CRead X.K C mc) (c : CMet X.K C mc m p g) (F : FnOk X.prog X.w X.K X.mg X.base CX k g fd ps sp) (hb : KBn X.K fd ps n ks gg gV) (hr : Room k X.A) (hx : Passes CX X E)
    (ha : PA X (e :: es) t) (hkw : PK X kws tk) (hall : (backToKw pos (keywordEach kws X.env)).all (·.1.isSome) = true := by rfl) (hks : (backToKw pos (keywordEach kws X.env)).filterMap (·.1) = ks := by rfl)
    (hst : starEach (e :: es) X.env = (false, eval e X.env) :: starEach es X.env := by rfl)
    (hpl : ((backTo pos (starEach (e :: es) X.env)).any (·.1) || (backToKw pos (keywordEach kws X.env)).any (·.1.isNone)) = false := by rfl)
    (ht : eval (.Call (.Attribute o m apos) (e :: es) kws pos) X.env = (do
      let ov ← eval o X.env
      standAt apos.atName
      let (f, first) ← holding [ov] (getMethod ov m pl)
      callWith pos f first (backTo pos (starEach (e :: es) X.env)) (backToKw pos (keywordEach kws X.env))) := by rfl) :
    PE X (.Call (.Attribute o m apos) (e :: es) kws pos) (tCMethPN C n ks.length sp gV E ta t tk) := by
  refine ⟨fun pins s σ H Q I h => ?_⟩
  refine PySem.W.methodCall_KW (pl := pl) (thn (he.run pins s σ H _ I h) fun u s1 ⟨x, H1, I1, rx, ex, q⟩ => ?_) ht
  subst ex
  obtain rfl : u = Value.ref C := rx
  refine getmethcm_ok I1 r c fun s2 I2 => ?_
  refine PySem.W.callWith_of (P := PySem.W.MethP X.K s1.heap.objs.size g (.ref C)) hpl (PySem.W.keeps_M c.fi) (PyProof.Rows.evalArgs_kw2 hall ?_ hst)
  refine thn (ha.run pos _ s2 σ H1 _ I2 q) fun us s3 ⟨vs, H2, I3, rv, q2⟩ => ?_
  refine thn (hkw.run pos _ s3 σ H2 _ I3 q2) fun ws s4 ⟨zs, H3, I4, rz, ln, l2, q3⟩ => ⟨⟨pin_at I4, I4.kIn⟩, ?_⟩
  rw [hks]
  have z : wpAny (model X.prog X.w) X.A (call (.ref s1.heap.objs.size) ([] ++ us) (ks.zip ws)) (EP X ((s1.heap.objs.size, PySem.W.methodObj (.ref g) (.ref C)) :: pins) σ Q) X.xe s4 := by
    have rv2 : Vals (V.ref C :: vs) (Value.ref C :: us) := .cons rfl rv
    have r2 := hb.rel rv2 rz
    refine wpAny_call (PySem.W.method_call (pin_at I4) (codeAny_mono (F.run X.A X.stack s4 H3 ⟨Value.ref C :: us, ks.zip ws⟩ (gg (Value.ref C :: us) ws) (gV (V.ref C :: vs) zs) Q E hr I4.env0 (hb.to s4 (Value.ref C :: us) ws I4.kIn (rv2.length.symm.trans ln) (rz.length.symm.trans l2)) r2 q3) fun r s' hq => ?_))
    cases r with
    | error e => exact hx _ σ H3 s4 e s' I4 hq
    | ok fl =>
      cases fl with
      | ret u => exact I4.after hq
      | next => exact False.elim hq
      | brk => exact False.elim hq
      | cont => exact False.elim hq
  exact thn z fun _ _ y => unpinE y
instance go_cmethPN {σ : L2.St} {H : Hp} {Q : VK} {E : XK} {l : Nat} {gV : List V → List V → List V} {tk : TA} : Go (tCMethPN C n l sp gV E ta t tk σ H Q) (ta σ H fun x H1 => x = .ref C ∧ t σ H1 fun vs H2 => tk σ H2 fun zs H3 => (V.ref C :: vs).length = n ∧ zs.length = l ∧ sp (gV (.ref C :: vs) zs) H3 Q E) := ⟨fun h => h⟩
end
end EE

/-! Own layer: C(p = x, a = ..) of a def (self, p=d, **rest); a call of an instance by keyword; == and != with values of other kinds. -/
namespace EE
open PySem PySem.Spec PyProof.Rows L2 PySem.W
theorem bind_kwp {P : Program} {w : World} {A : Around} {E : Value → Shared → Prop} {s : Shared} {fd : FuncData} {u x d : Value} {kws : List (Str × Value)} {nm : Arg} {p : Str} {T : Addr} {o : Obj} {n : Nat} {Q : List (Str × Value) → Shared → Prop}
    (h1 : fd.params.posonlyargs = []) (h2 : fd.params.args.map (·.arg) = [("self" : Str), p]) (np : (p == ("self" : Str)) = false) (h3 : fd.params.kwonlyargs = []) (h4 : fd.params.vararg = none) (h5 : fd.params.kwarg = some nm) (h6 : fd.defaults = .ref T) (hT : s.heap.get? T = some o) (oT : o.data = .seq #[d] n)
    (hs : ∀ q ∈ kws, q.1 ≠ "self" ∧ q.1 ≠ p) (hn : (kws.map (·.1)).Nodup) (hl : kws.length ≤ sizeLine)
    (h : ∀ D h', D = s.heap.objs.size → s.heap.objs.size ≤ h'.objs.size → h'.get? D = some (dictOf (kwEs w.params s.toks kws) kws.length) → (∀ b o, s.heap.get? b = some o → h'.get? b = some o) → Q [(("self" : Str), u), (p, x), (nm.arg, .ref D)] { s with heap := h', toks := s.toks + kws.length }) :
    wpAny (model P w) A (bindArgs fd ⟨[u], (p, x) :: kws⟩) Q E s := by
  unfold bindArgs
  simp only [h1, h2, h3, h4, h5, h6, List.map_nil, List.nil_append, List.append_nil]
  have np2 : (("self" : Str) == p) = false := by rw [beq_eq_false_iff_ne] at np ⊢; exact fun e => np e.symm
  have lk1 : List.lookup ("self" : Str) [(("self" : Str), u), (p, x)] = some u := by simp [List.lookup]
  have l2 : List.lookup p [(("self" : Str), u), (p, x)] = some x := by simp [List.lookup, np]
  have l0 : List.lookup p [(("self" : Str), u)] = none := by simp [List.lookup, np]
  refine wpAny_bind (wpAny_forIn_list _ (fun rest b s' => s' = s ∧ ((rest = (p, x) :: kws ∧ b = ([(("self" : Str), u)], [])) ∨ ∃ done, kws = done ++ rest ∧ b = ([(("self" : Str), u), (p, x)], done))) _ ?_ ?_ _ _ ⟨rfl, .inl ⟨rfl, rfl⟩⟩)
  · rintro y rest b s' ⟨rfl, hb⟩
    rcases hb with ⟨e, rfl⟩ | ⟨done, hd, rfl⟩
    · cases e
      have e1 : (([("self" : Str), p].contains p || ([] : List Str).contains p) = true) = True := by
        simp
      simp only [e1, if_true, l0, Option.isSome_none, Bool.false_eq_true, if_false]
      exact wpAny_pure ⟨rfl, .inr ⟨[], rfl, rfl⟩⟩
    · obtain ⟨n1, n2⟩ := hs y (by rw [hd]; exact List.mem_append_right _ List.mem_cons_self)
      have e1 : (([("self" : Str), p].contains y.1 || ([] : List Str).contains y.1) = true) = False := by
        simp [n1, n2]
      simp only [e1, if_false, Option.isSome_some, if_true]
      exact wpAny_pure ⟨rfl, .inr ⟨done ++ [y], by rw [hd, List.append_assoc]; rfl, rfl⟩⟩
  · rintro b s' ⟨rfl, hb⟩
    rcases hb with ⟨e, _⟩ | ⟨done, hd, rfl⟩
    · cases e
    rw [List.append_nil] at hd
    subst hd
    refine wpAny_bind (wpAny_seqItems hT oT ?_)
    simp only [Option.getD_some, Nat.reduceAdd, Nat.reduceSub, Nat.reduceLT, decide_false, Bool.false_and, List.drop_succ_cons, List.zip_cons_cons, List.zip_nil_right, List.zip_nil_left, List.forIn_cons, List.forIn_nil, List.filterMap_cons, List.filterMap_nil, Option.map_some, List.append_nil, List.length_cons, List.length_nil, Nat.zero_add, Nat.sub_zero, List.drop_zero, List.take_succ_cons, List.take_zero, List.filter_cons, List.filter_nil, lk1, l2, Option.isNone_some, Option.isNone_none, Bool.false_eq_true, if_false, if_true, List.isEmpty_nil, Bool.not_true, pure_bind, gt_iff_lt]
    rw [if_neg (by omega)]
    refine wpAny_bind (wpAny_alloc ?_)
    have ho : (s'.heap.push { cls := .type "dict", data := .dict #[] }).get? s'.heap.objs.size = some (dictOf [] 0) := Heap.get?_push_size _ rfl
    refine wpAny_bind (kw_fill kws { s' with heap := s'.heap.push { cls := .type "dict", data := .dict #[] } } [] 0 ho (fun e he => nomatch he) (fun e he => nomatch he) hn fun h' ho' sb => wpAny_pure ?_)
    refine h s'.heap.objs.size h' rfl (Nat.le_of_lt (Heap.lt_size ho')) ?_ fun b o e => ?_
    · rw [List.nil_append, Nat.zero_add] at ho'
      exact ho'
    · have hb : b < s'.heap.objs.size := Heap.lt_size e
      rw [sb.2 b (Nat.ne_of_lt hb)]
      exact Heap.get?_push_of_some _ e

/-- what a def (self, p=d, **rest) does when it is called with p first among the names -/
structure FnKp (P : Program) (w : World) (K : PySem.W.Frag) (mg : Str → Option Value) (base : Heap) (CX : CXT) (k : Nat) (f : Addr) (p : Str) (dv : V) (sp : Sp) : Prop where
  run : ∀ (A : Around) (outer : List Env) (s : Shared) (H : Hp) (u : Value) (v xv : V) (ux : Value) (kws : List (Str × Value)) (kvs : List (Str × V)) (Q : VK) (E : XK), Room k A → Env0 P w K mg base A outer s H → RelV v u → RelV xv ux → KV kvs kws → (∀ q ∈ kws, q.1 ≠ ("self" : Str) ∧ q.1 ≠ p) → (kws.map (·.1)).Nodup → kws.length ≤ 1000 →
    (∀ D, H D = none → sp [v, xv, .ref D] (upd H D (.dK (kwK kvs))) Q E) → codeAny (model P w) A (.call (.ref f) ⟨[u], (p, ux) :: kws⟩) (CR CX outer P w H s Q E) s
theorem okKp {CX : CXT} {P : Program} {w : World} {K : PySem.W.Frag} {mg : Str → Option Value} {base : Heap} {k : Nat} {f T : Addr} {name qual p : Str} {params : Arguments} {body : List Stmt} {scope : Scope} {kV doc pm cdv ct oc : Value} {an od : Option Addr}
    {osl : Array (Option Value)} {N : List Str} {nm : Arg} {dv : V} {ud : Value} {oT : Obj} {nT : Nat} {sp : Sp} (lk : K.lookup f = some ⟨oc, od, .func (PySem.W.fnOf name qual params body scope (.ref T) kV doc pm an cdv ct), osl⟩) (hcd : PySem.W.codeIn K cdv qual = true) (lT : K.lookup T = some oT) (hT : oT.data = .seq #[ud] nT) (rd : RelV dv ud)
    (S : FnScope N ["self", p, nm.arg] scope) (bk : Back P w CX) (np : (p == ("self" : Str)) = false)
    (h1 : params.posonlyargs = []) (h2 : params.args.map (·.arg) = [("self" : Str), p]) (h3 : params.kwonlyargs = []) (h4 : params.vararg = none) (h5 : params.kwarg = some nm)
    (hbody : ∀ (A : Around) (outer : List Env) (s : Shared) (H : Hp) (vs : List V) (Q : VK) (E : XK), Room k (A.deeper (envOfC qual scope s.heap.objs.size f cdv)) → sp vs H Q E →
      ∃ t, PSs (cxOf CX P w K mg base N qual scope f cdv A outer s H E) body t ∧ t { nx := fun _ H' => Q .non H', rt := Q } (start N vs) H) :
    FnKp P w K mg base CX (k + 1) f p dv sp := by
  refine ⟨fun A outer s H u v xv ux kws kvs Q E hr e0 rv rx kv ns nd hl hsp => ?_⟩
  have KX : K.In s.heap := e0.mod.kin.keeps fun b o e => (e0.bs b o e).1
  refine codeAny_call_function hr.depth (KX _ _ lk) rfl S.co S.gen rfl (PySem.W.codeRec_of KX hcd) (bind_kwp (nm := nm) (p := p) (x := ux) h1 h2 np h3 h4 h5 rfl (KX _ _ lT) hT ns nd (Nat.le_trans hl (by decide)) fun D h' hD hz ho kp => ?_)
  have nD : H D = none := e0.hok.fresh (Nat.le_of_eq hD.symm)
  have new : ObjOk P w (upd H D (.dK (kwK kvs))) h' D (.dK (kwK kvs)) := by
    refine ⟨?_, ?_, _, kv_kw kv, kw_dict ho nd⟩
    · rw [kwK, List.length_map, kv_len kv]
      exact Nat.le_trans hl (by decide)
    · refine beq_eq_false_iff_ne.mpr fun z => ?_
      have := PyProof.Rows.modules_low (e0.mod.nolimit.keeps (h' := s.heap) fun b o e => (e0.bs b o e).1)
      rw [← z, hD] at this
      exact absurd this (Nat.lt_irrefl _)
  have e1 := env0_laid (tk := s.toks + kws.length) e0 hD hz kp new
  have q1 := hsp D nD
  have nol : h'.NoLimit := (e0.mod.nolimit.keeps fun b o e => (e0.bs b o e).1).keeps kp
  have kinds : ∀ y ∈ [(("self" : Str), u), (p, ux), (nm.arg, Value.ref D)], scope.names.lookup y.1 = some .local ∨ (scope.names.lookup y.1 = some .cell ∧ ((cellsFrom (h'.objs.size + 1) scope.names []).lookup y.1).isSome = true) := fun ⟨n, z⟩ hy => by
    have hm : n ∈ [("self" : Str), p, nm.arg] := by
      simp only [List.mem_cons, List.not_mem_nil, or_false, Prod.mk.injEq] at hy ⊢
      exact hy.imp (·.1) (Or.imp (·.1) (·.1))
    rcases S.par n hm with q | q
    · exact .inl q
    · exact .inr ⟨q, PySem.W.cellsFrom_some _ _ _ (.inl q)⟩
  refine wpAny_newFunctionEnv_cells S.kind kinds fun env he s1 x => ?_
  subst he
  refine ⟨nol.keeps x.toInCall.keep, codeAny_func ?_⟩
  obtain ⟨t, ht, hq⟩ := hbody A outer { s with heap := h', toks := s.toks + kws.length } (upd H D (.dK (kwK kvs))) [v, xv, .ref D] Q E (hr.deeper _) q1
  have I := inv_start (CX := CX) (E := E) (ps := ["self", p, nm.arg]) (us := [u, ux, .ref D]) (vs := [v, xv, .ref D]) S hr.hd e1 rfl (.cons rv (.cons rx (.cons (show RelV (.ref D) (.ref D) from rfl) .nil))) x
  refine wpAny_mono (ht.run [] s1 _ _ _ I hq) (fun fl s2 hs => ?_) fun e s2 hs => wpAny_mono hs (fun _ s3 hz => bk outer s H D h' (s.toks + kws.length) (.dK (kwK kvs)) E e s3 e0.hok hD kp hz) fun e3 s3 hz => bk outer s H D h' (s.toks + kws.length) (.dK (kwK kvs)) E e3 s3 e0.hok hD kp hz
  have fin : ∀ {σ' : L2.St} {H' : Hp} {v2 : V} {u2 : Value}, Inv (cxOf CX P w K mg base N qual scope f cdv A outer { s with heap := h', toks := s.toks + kws.length } (upd H D (.dK (kwK kvs))) E) [] σ' H' s2 → RelV v2 u2 → Q v2 H' → CE outer P w H s Q u2 s2 :=
    fun {σ' H' v2 u2} J rv q => ⟨v2, H', J.os, J.bare, (Un.laid kp (Nat.le_of_eq hD.symm) nD).trans J.base, J.hok, rv, q⟩
  cases fl with
  | ret u2 =>
    obtain ⟨v2, σ', H', J, rv2, q⟩ := hs
    exact fin J rv2 q
  | next =>
    obtain ⟨σ', H', J, q⟩ := hs
    exact fin (v2 := V.non) (u2 := Value.none) J rfl q
  | brk =>
    obtain ⟨_, _, _, q⟩ := hs
    exact False.elim q
  | cont =>
    obtain ⟨_, _, _, q⟩ := hs
    exact False.elim q

section
variable {X : Cx} {CX : CXT} {k : Nat} {f C : Addr} {q : Str} {dv : V} {sp : Sp} {E : XK}
theorem run_makeP {pins : List (Addr × Obj)} {σ : L2.St} {H : Hp} {s : Shared} {Q : VK} {xv : V} {ux : Value} {kvs : List (Str × V)} {kws : List (Str × Value)} (M : Mk X.K C f) (F : FnKp X.prog X.w X.K X.mg X.base CX k f q dv sp) (hr : Room (k + 1) X.A) (hx : Passes CX X E) (I : Inv X pins σ H s) (rux : RelV xv ux) (r : KV kvs kws) (ok : NamesM q kvs)
    (h : MkM C sp E xv kvs H Q) : wpAny (model X.prog X.w) X.A (call (.ref C) [] ((q, ux) :: kws)) (EP X pins σ Q) X.xe s := by
  have hq := h (s.heap.objs.size + 1) s.heap.objs.size (I.hok.fresh (Nat.le_succ _)) (I.hok.fresh (Nat.le_refl _)) (Nat.ne_of_lt (Nat.lt_succ_self _))
  have I2 := Inv.made (C := C) I
  have ks := names_keys r
  refine wpAny_call (make_map (f := f) I.kIn M.makes M.init (beq_iff_eq.mp M.fn) (codeAny_mono (F.run _ X.stack _ _ (.ref (s.heap.objs.size + 1)) (.ref (s.heap.objs.size + 1)) xv ux kws kvs _ E (hr.make C [] ((q, ux) :: kws)) (I2.env0.make C [] ((q, ux) :: kws)) rfl rux r
    (fun p hp => ?_) (by rw [ks]; exact ok.2.1) (by rw [← kv_len r]; exact ok.2.2) hq) fun r s' hq' => ?_))
  · have : p.1 ∈ kvs.map (·.1) := ks ▸ List.mem_map_of_mem hp
    obtain ⟨z, hq1, hq2⟩ := List.mem_map.mp this
    exact hq2 ▸ ok.1 z hq1
  cases r with
  | error e => exact hx pins σ _ _ e s' I2 hq'
  | ok fl =>
    cases fl with
    | ret u =>
      obtain ⟨v, H', I3, rv, ev, q3⟩ := I2.after hq'
      subst ev
      exact ⟨rv, ⟨V.ref (s.heap.objs.size + 1), H', I3, rfl, q3⟩⟩
    | next => exact False.elim hq'
    | brk => exact False.elim hq'
    | cont => exact False.elim hq'
variable {x : Str} {p pos : Pos} {tk : TA} {kws : List Keyword} {ks : List Str}
/-- C(q = x, a = .., ..), C a global -/
def tMkMKp (C : Addr) (sp : Sp) (E : XK) (q : Str) (ks : List Str) (tk : TA) : TE := fun σ H Q => tk σ H fun vs H1 => ∃ xv ws, vs = xv :: ws ∧ ws.length = ks.length ∧ NamesM q (ks.zip ws) ∧ MkM C sp E xv (ks.zip ws) H1 Q
theorem pe_mkMKp (M : Mk X.K C f) (F : FnKp X.prog X.w X.K X.mg X.base CX k f q dv sp) (hr : Room (k + 1) X.A) (hg : Gl X x) (hm : X.mg x = some (.ref C)) (hx : Passes CX X E) (hkw : PK X kws tk)
    (hall : (backToKw pos (keywordEach kws X.env)).all (·.1.isSome) = true := by rfl) (hks : (backToKw pos (keywordEach kws X.env)).filterMap (·.1) = q :: ks := by rfl) (hdb : (x == ("__debug__" : Str)) = false := by decide)
    (hpl : ((backTo pos (starEach [] X.env)).any (·.1) || (backToKw pos (keywordEach kws X.env)).any (·.1.isNone)) = false := by rfl) :
    PE X (.Call (.Name x p) [] kws pos) (tMkMKp C sp E q ks tk) := by
  refine ⟨fun pins s σ H Q I h => ?_⟩
  refine wpAny_Call_Name_kw (ld_glob I hg hm ?_ hdb)
  refine PySem.W.callWith_KW0 (h₀ := X.base) I.ok.mod.kin M.kp hall (thn (hkw.run pos pins s σ H _ I h) fun ws s2 ⟨zs, H2, I2, rz, xv, zs2, ez, l2, ok, q2⟩ => ⟨I2.kIn, ?_⟩) hpl
  subst ez
  rw [hks]
  cases rz with
  | cons r1 r2 => exact run_makeP M F hr hx I2 r1 (kv_zip r2) ok q2
instance go_mkMKp {σ : L2.St} {H : Hp} {Q : VK} : Go (tMkMKp C sp E q ks tk σ H Q) (tk σ H fun vs H1 => ∃ xv ws, vs = xv :: ws ∧ ws.length = ks.length ∧ NamesM q (ks.zip ws) ∧ MkM C sp E xv (ks.zip ws) H1 Q) := ⟨fun h => h⟩
end
section
open StX
theorem callO_ofK {M : Model} {A : Around} {E : Value → Shared → Prop} {s : Shared} {a : Addr} {pos : Pos} {Q : Value → Shared → Prop} {args : List (Bool × Sem Value)} {kws : List (Option Str × Sem Value)} (hplain : (args.any (·.1) || kws.any (·.1.isNone)) = false)
    (h : wpAny M A (evalArgs (.ref a) true args kws) (fun z s₁ => (∃ C ox od, PySem.W.InstAt s₁.heap a ox C od ∧ ox.data = .plain) ∧ wpAny M A (call (.ref a) ([] ++ z.pos) z.kw) Q E s₁) E s) : wpAny M A (callWith pos (.ref a) [] args kws) Q E s := by
  unfold callWith
  refine wpAny_bind (wpAny_holding (wpAny_mono h (fun z s₁ h₁ => wpAny_bind (wpAny_standAt ?_)) fun _ _ y => y))
  obtain ⟨⟨C, ox, od, J, hd⟩, h₁⟩ := h₁
  have L := PySem.W.kco_keeper (M := M) J hd
  simp only [hplain]
  refine wpAny_bind (L.here ?_)
  have tail : ∀ {t : Sem Value}, wpAny M A t Q E s₁ → wpAny M A (t >>= fun r => holding [r] point >>= fun _ => pure r) Q E s₁ :=
    fun ht => wpAny_bind (wpAny_mono ht (fun r s₂ hr => wpAny_bind (wpAny_holding (wpAny_point (wpAny_pure hr)))) fun _ _ y => y)
  exact tail (wpAny_operateT h₁)
variable {X : Cx} {CX : CXT} {k : Nat} {C g : Addr} {sp : Sp} {E : XK} {fe : Expr} {tf : TE} {tk : TA} {pos : Pos} {kws : List Keyword} {ks ps : List Str} {fd : FuncData} {gg : List Value → List Value → List Value} {gV : List V → List V → List V}
/-- f(k = v), f an expression that gives an instance of C -/
def tCallON (X : Cx) (C : Addr) (n : Nat) (sp : Sp) (gV : List V → List V → List V) (E : XK) (tf : TE) (tk : TA) : TE := fun σ H Q => tf σ H fun y H1 => ∃ a, y = V.ref a ∧ tk σ H1 fun zs H2 => zs.length = n ∧ InsC X H2 a C ∧ sp (gV [V.ref a] zs) H2 Q E
theorem pe_callON (hf : PE X fe tf) (c : CallO X.K C g) (F : FnOk X.prog X.w X.K X.mg X.base CX k g fd ps sp) (hb : KBn X.K fd ps 1 ks gg gV) (hr : Room k X.A) (hx : Passes CX X E) (hkw : PK X kws tk)
    (hall : (backToKw pos (keywordEach kws X.env)).all (·.1.isSome) = true := by rfl) (hks : (backToKw pos (keywordEach kws X.env)).filterMap (·.1) = ks := by rfl)
    (hpl : ((backTo pos (starEach [] X.env)).any (·.1) || (backToKw pos (keywordEach kws X.env)).any (·.1.isNone)) = false := by rfl)
    (ht : eval (.Call fe [] kws pos) X.env = (do callWith pos (← eval fe X.env) [] (backTo pos (starEach [] X.env)) (backToKw pos (keywordEach kws X.env))) := by rfl) : PE X (.Call fe [] kws pos) (tCallON X C ks.length sp gV E tf tk) := by
  refine ⟨fun pins s σ H Q I h => ?_⟩
  rw [ht]
  refine wpAny_bind (thn (hf.run pins s σ H _ I h) fun u s1 ⟨y, H1, I1, ry, a, ey, q⟩ => ?_)
  subst ey
  obtain rfl : u = Value.ref a := ry
  refine callO_ofK hpl (PyProof.Rows.evalArgs_kw2_nil hall ?_)
  refine thn (hkw.run pos pins s1 σ H1 _ I1 q) fun ws s3 ⟨zs, H2, I3, rz, l2, hi, q2⟩ => ?_
  obtain ⟨ox, od, J, hd⟩ := insC_at I3 hi
  refine ⟨⟨C, ox, od, J, hd⟩, ?_⟩
  rw [hks]
  have r2 := hb.rel (vs := [V.ref a]) (us := [Value.ref a]) (.cons rfl .nil) rz
  refine wpAny_call (PySem.W.kco_code I3.kIn J hd c.at_ c.fn c.fi (codeAny_mono (F.run X.A X.stack s3 H2 ⟨[Value.ref a], ks.zip ws⟩ (gg [Value.ref a] ws) (gV [V.ref a] zs) Q E hr I3.env0 (hb.to s3 [Value.ref a] ws I3.kIn rfl (rz.length.symm.trans l2)) r2 q2) fun r s' hq => ?_))
  cases r with
  | error e => exact hx pins σ H2 s3 e s' I3 hq
  | ok fl =>
    cases fl with
    | ret u => exact I3.after hq
    | next => exact False.elim hq
    | brk => exact False.elim hq
    | cont => exact False.elim hq
instance go_callON {σ : L2.St} {H : Hp} {Q : VK} {n : Nat} : Go (tCallON X C n sp gV E tf tk σ H Q) (tf σ H fun y H1 => ∃ a, y = V.ref a ∧ tk σ H1 fun zs H2 => zs.length = n ∧ InsC X H2 a C ∧ sp (gV [V.ref a] zs) H2 Q E) := ⟨fun h => h⟩
end
/-- a value's kind, for == with an own object on the left -/
inductive FoT (H : Hp) : V → Value → Prop where
  | str (z : Str) : FoT H (.str z) (.type "str")
  | int (i : Int) : FoT H (.int i) (.type "int")
  | bl (b : Bool) : FoT H (.bl b) (.type "bool")
  | non : FoT H .non (.type "NoneType")
  | ins {D a : Addr} (h : ∃ dx fs, H a = some (.ins D dx fs)) : FoT H (.ref a) (.ref D)
theorem foT_looks {X : Cx} {pins : List (Addr × Obj)} {σ : L2.St} {H : Hp} {s : Shared} {y : V} {u tb : Value} (I : Inv X pins σ H s) (h : FoT H y tb) (r : RelV y u) (M : Model) : Looks M s.heap (typeOf u) tb := by
  cases h with
  | str z => obtain ⟨t, rfl⟩ := r; exact Looks.of_pure rfl
  | int z => obtain ⟨t, rfl⟩ := r; exact Looks.of_pure rfl
  | bl b => obtain rfl := (show u = Value.bool b from r); exact Looks.of_pure rfl
  | non => obtain rfl := (show u = Value.none from r); exact Looks.of_pure rfl
  | ins h =>
    obtain ⟨a, ox, od, rfl, e, J⟩ := isI_at I r ⟨_, let ⟨dx, fs, e⟩ := h; ⟨dx, fs, rfl, e⟩⟩
    exact J.type
section
variable {X : Cx} {k : Nat} {f C : Addr} {sp : Sp} {E : XK}
def rEqA (K : PySem.W.Frag) (C : Addr) (sp : Sp) (E : XK) : R2 := fun x y H Q => (∃ tb, FoT H y tb ∧ notFirst K C tb = true) ∧ rOp C sp E x y H Q
def rNeA (K : PySem.W.Frag) (C : Addr) (sp : Sp) (E : XK) : R2 := fun x y H Q => (∃ tb, FoT H y tb ∧ notFirst K C tb = true) ∧ IsI C x H ∧ sp [x, y] H (fun r H' => ∃ b, r = .bl b ∧ Q (.bl (!b)) H') E
theorem or_eqA (O : OpF X.prog X.w X.K X.mg X.base k C "__eq__" sp f) (hr : Room k X.A) (hx : Passes CX0 X E) : OpR X (compareOp .Eq) (rEqA X.K C sp E) := by
  intro pins s σ H x y v u Q I rx ry ⟨⟨tb, hy, hn⟩, hi, h⟩
  obtain ⟨a, ox, od, rfl, rfl, J⟩ := isI_at I rx hi
  obtain ⟨m, hF⟩ := I.fr
  refine cmp_K (op := .Eq) (tb := tb) hr.units0 hF I.ok.mod.kin J (foT_looks I hy ry _) hn O.s O.n ?_
  exact wpAny_mono (run2 O.F hr hx I (x := .ref a) (y := y) rfl ry h) (fun z s' ⟨w, H', I', r, q⟩ => cmpBack_rel (Q := EP X pins σ Q) r ⟨w, H', I', r, q⟩) fun _ _ z => z
theorem or_neA (N : NeF X.K C) (O : OpF X.prog X.w X.K X.mg X.base k C "__eq__" sp f) (hr : Room (k + 1) X.A) (hx : Passes CX0 X E) : OpR X (compareOp .NotEq) (rNeA X.K C sp E) := by
  intro pins s σ H x y v u Q I rx ry ⟨⟨tb, hy, hn⟩, hi, h⟩
  obtain ⟨a, ox, od, rfl, rfl, J⟩ := isI_at I rx hi
  refine ne_own hr.units0 hr.in1.units0 I.kIn J (foT_looks I hy ry _) hn N.n N.o O.s O.n ?_
  refine thn (run_in1 O.F hr hx I (vs := [.ref a, y]) (.cons rfl (.cons ry .nil)) h) fun z s' ⟨w, H', I', r, c, e, q⟩ => ?_
  subst e
  obtain rfl : z = Value.bool c := r
  exact ⟨c, rfl, .bl (!c), H', I', rfl, q⟩
end
end EE

/-! Own layer: C.m(), m a static method of C without parameters. -/
namespace EE
open PySem PySem.Spec PyProof.Rows L2 ClX
/-- K's words of a static method m of the class at C: the object at p around the def at g -/
structure SMet (K : PySem.W.Frag) (C : Addr) (mc : Value) (m : Str) (p g : Addr) : Prop where
  at_ : PySem.W.findCls K (.ref C) mc m = some (.get (.builtin "staticmethod.__get__") (.ref p) .none (.ref C))
  rc : ∃ rest, PySem.W.recIn K p "staticmethod" = some (.ref g :: rest)
  kp : PySem.W.keepIn K (.ref g) = true
section
variable {X : Cx} {CX : CXT} {k : Nat} {C p g : Addr} {mc : Value} {sp : Sp} {E : XK} {o : Expr} {m : Str} {pos apos : Pos} {ta : TE}
theorem getmethsm_ok {pins : List (Addr × Obj)} {σ : L2.St} {H : Hp} {s : Shared} {A : Around} {Er : Value → Shared → Prop} {pl : Sem Bool} {Q : Value × List Value → Shared → Prop} (I : Inv X pins σ H s) (r : CRead X.K C mc) (c : SMet X.K C mc m p g)
    (h : ∀ s', Inv X pins σ H s' → Q (.ref g, []) s') : wpAny (model X.prog X.w) A (getMethod (.ref C) m pl) Q Er s := by
  obtain ⟨rest, hp⟩ := c.rc
  exact PySem.W.method_cls I.kIn r.ga (PySem.W.cls_bind I.kIn r.rd c.at_ (wpAny_call (PySem.W.sm_get (s := { s with toks := s.toks + 1 }) I.kIn hp (PySem.W.handed_on rfl (h _ (I.tok _))))))
/-- C.m(), m static -/
def tSMeth0 (C : Addr) (sp : Sp) (E : XK) (ta : TE) : TE := fun σ H Q => ta σ H fun x H1 => x = .ref C ∧ sp [] H1 Q E
theorem pe_smeth0 {pl : Sem Bool} (he : PE X o ta) (r : CRead X.K C mc) (c : SMet X.K C mc m p g) (F : FnR X.prog X.w X.K X.mg X.base CX k g sp) (hr : Room k X.A) (hx : Passes CX X E)
    (ht : eval (.Call (.Attribute o m apos) [] [] pos) X.env = (do
      let ov ← eval o X.env
      standAt apos.atName
      let (f, first) ← holding [ov] (getMethod ov m pl)
      callWith pos f first (backTo pos (starEach [] X.env)) (backToKw pos (keywordEach [] X.env))) := by rfl) :
    PE X (.Call (.Attribute o m apos) [] [] pos) (tSMeth0 C sp E ta) := by
  refine ⟨fun pins s σ H Q I h => ?_⟩
  refine PySem.W.methodCall_KW (pl := pl) (thn (he.run pins s σ H _ I h) fun u s1 ⟨x, H1, I1, rx, ex, q⟩ => ?_) ht
  subst ex
  obtain rfl : u = Value.ref C := rx
  refine getmethsm_ok I1 r c fun s2 I2 => ?_
  exact PySem.W.callWith_K0 I2.kIn c.kp (wpAny_call (run_fnR (us := []) (vs := []) F hr hx I2 .nil q))
instance go_smeth0 {σ : L2.St} {H : Hp} {Q : VK} : Go (tSMeth0 C sp E ta σ H Q) (ta σ H fun x H1 => x = .ref C ∧ sp [] H1 Q E) := ⟨fun h => h⟩
end
section
variable {X : Cx} {k : Nat} {C f : Addr} {sp : Sp}
/-- y not in x, x an own object -/
def rNinO (C : Addr) (sp : Sp) (E : XK) : R2 := fun y x H Q => IsI C x H ∧ sp [x, y] H (fun r H' => ∃ b, r = .bl b ∧ Q (.bl (!b)) H') E
theorem or_notInO (O : OpF X.prog X.w X.K X.mg X.base k C "__contains__" sp f) (hr : Room k X.A) {E : XK} (hx : Passes CX0 X E) : OpR X (compareOp .NotIn) (rNinO C sp E) := op_notInO O.F hr hx O.s O.n
theorem rd_notInO {E : XK} {H : Hp} {Q : VK} {a : Addr} {y : V} (h : ∃ dx fs, H a = some (.ins C dx fs)) (q : sp [.ref a, y] H (fun r H' => ∃ b, r = .bl b ∧ Q (.bl (!b)) H') E) : rNinO C sp E y (.ref a) H Q := ⟨let ⟨dx, fs, e⟩ := h; ⟨a, dx, fs, rfl, e⟩, q⟩
end
end EE

/-! Own layer: a set comprehension with two fors, its elements texts; many dicts locked at once. -/
namespace EE
open PySem PySem.Spec PyProof.Rows L2 PpSet
section
variable {prog : Program} {w : World} {A : Around} {R : Result → Shared → Prop} {s : Shared} {el t0 i0 t1 i1 : Expr} {scope : Scope} {pos : Pos} {it acc : Value} {env : Env}
/-- the first for, no test -/
theorem sc2_out (hs : ∀ x, foldedSetIterable i1 env x = pure x) (I : Nat → Shared → Prop) (turn : ∀ n s, I n s → wpAny (model prog w) A (pyNext it) (fun r s1 => match r with
      | none => R (.ok .next) s1
      | some v => wpAny (model prog w) A (letOwnedTupleGo t0 it v) (fun _ s2 => wpAny (model prog w) A (assign t0 env v) (fun _ s3 =>
          wpAny (model prog w) A (eval i1 env) (fun x s4 => wpAny (model prog w) A (pyIter x) (fun it1 s5 => codeAny (model prog w) A (.compStart (.SetComp el [⟨t0, i0, [], 0⟩, ⟨t1, i1, [], 0⟩] scope pos) 1 it1 acc env) (fun r s' => match r with
                | .ok _ => ∃ m, m < n ∧ I m s'
                | .error _ => False) s5) (notedBy (model prog w) A env fun e s' => R (.error e) s') s4) (notedBy (model prog w) A env fun e s' => R (.error e) s') s3) (notedBy (model prog w) A env fun e s' => R (.error e) s') s2) (notedBy (model prog w) A env fun e s' => R (.error e) s') s1) (notedBy (model prog w) A env fun e s' => R (.error e) s') s)
    (n : Nat) (h : I n s) : codeAny (model prog w) A (.compLoop (.SetComp el [⟨t0, i0, [], 0⟩, ⟨t1, i1, [], 0⟩] scope pos) 0 it acc env) R s := by
  refine codeAny_loop rfl I (fun n s hI => wpAny_noted ?_) n h
  refine wpAny_bind (m := standAt i0.pos) (wpAny_standAt (wpAny_bind (wpAny_mono (turn n s hI) (fun r s1 h1 => ?_) fun _ _ z => z)))
  cases r with
  | none => exact wpAny_pure h1
  | some v =>
    refine wpAny_bind (wpAny_mono h1 (fun _ s2 h2 => ?_) fun _ _ z => z)
    refine wpAny_bind (wpAny_mono h2 (fun _ s3 h3 => ?_) fun _ _ z => z)
    refine wpAny_bind (wpAny_tests_nil ?_)
    refine wpAny_bind (wpAny_mono h3 (fun x s4 h4 => ?_) fun _ _ z => z)
    refine wpAny_bind (wpAny_standAt (wpAny_bind (wpAny_of_eq (hs x) (wpAny_bind (wpAny_holding (wpAny_mono h4 (fun it1 s5 h5 => ?_) fun _ _ z => z))))))
    refine wpAny_bind (wpAny_runOwn ?_)
    rw [Around.mark_none]
    refine codeAny_mono h5 fun r s' hr => ?_
    cases r with
    | ok f =>
      first
        | exact wpAny_pure ⟨rfl, hr⟩
        | exact wpAny_bind (wpAny_pure (wpAny_pure ⟨rfl, hr⟩))
    | error e => exact hr.elim
/-- the second for -/
theorem sc2_in (I : Nat → Shared → Prop) (turn : ∀ n s, I n s → wpAny (model prog w) A (pyNext it) (fun r s1 => match r with
      | none => R (.ok .next) s1
      | some v => wpAny (model prog w) A (letOwnedTupleGo t1 it v) (fun _ s2 => wpAny (model prog w) A (assign t1 env v) (fun _ s3 =>
          wpAny (model prog w) A (eval el env) (fun x s4 => wpAny (model prog w) A (call (.builtin "set.add") [acc, x]) (fun _ s5 => ∃ m, m < n ∧ I m s5) (notedBy (model prog w) A env fun e s' => R (.error e) s') s4) (notedBy (model prog w) A env fun e s' => R (.error e) s') s3)
            (notedBy (model prog w) A env fun e s' => R (.error e) s') s2) (notedBy (model prog w) A env fun e s' => R (.error e) s') s1) (notedBy (model prog w) A env fun e s' => R (.error e) s') s)
    (n : Nat) (h : I n s) : codeAny (model prog w) A (.compLoop (.SetComp el [⟨t0, i0, [], 0⟩, ⟨t1, i1, [], 0⟩] scope pos) 1 it acc env) R s := by
  refine codeAny_loop rfl I (fun n s hI => wpAny_noted ?_) n h
  refine wpAny_bind (m := standAt i1.pos) (wpAny_standAt (wpAny_bind (wpAny_mono (turn n s hI) (fun r s1 h1 => ?_) fun _ _ z => z)))
  cases r with
  | none => exact wpAny_pure h1
  | some v =>
    refine wpAny_bind (wpAny_mono h1 (fun _ s2 h2 => ?_) fun _ _ z => z)
    refine wpAny_bind (wpAny_mono h2 (fun _ s3 h3 => ?_) fun _ _ z => z)
    refine wpAny_bind (wpAny_tests_nil ?_)
    exact wpAny_bind (wpAny_bind (wpAny_mono h3 (fun x s4 h4 => wpAny_bind (wpAny_standAt (wpAny_bind (wpAny_mono h4 (fun _ s5 h5 => wpAny_pure (wpAny_pure ⟨rfl, h5⟩)) fun _ _ z => z)))) fun _ _ z => z))
theorem sc2_start (h0 : codeAny (model prog w) A (.compLoop (.SetComp el [⟨t0, i0, [], 0⟩, ⟨t1, i1, [], 0⟩] scope pos) 1 it acc env) R s)
    (h : wpAny (model prog w) A (pyIter it) (fun j s' => codeAny (model prog w) A (.compLoop (.SetComp el [⟨t0, i0, [], 0⟩, ⟨t1, i1, [], 0⟩] scope pos) 1 j acc env) R s') (notedBy (model prog w) A env fun x s' => R (.error x) s') s) :
    codeAny (model prog w) A (.compStart (.SetComp el [⟨t0, i0, [], 0⟩, ⟨t1, i1, [], 0⟩] scope pos) 1 it acc env) R s := by
  refine codeAny_of_tree (wpAny_notedAt ?_)
  unfold compStart
  show wpAny _ _ (ask >>= _) _ _ s
  refine wpAny_bind (wpAny_askSetting (wpAny_ite ?_))
  split
  · first
      | exact wpAny_bind (wpAny_pure (wpAny_pure (And.intro rfl h0)))
      | exact wpAny_pure (And.intro rfl h0)
  · first
      | exact wpAny_bind (wpAny_rule (wpAny_bind (wpAny_standAt (wpAny_bind (wpAny_mono h (fun _ _ z => wpAny_pure (And.intro rfl z)) fun _ _ x => x)))))
      | (refine wpAny_bind (wpAny_rule ?_); show wpAny _ _ (standAt i1.pos >>= _) _ _ s; exact wpAny_bind (wpAny_standAt (wpAny_bind (wpAny_mono h (fun _ _ z => wpAny_pure (And.intro rfl z)) fun _ _ x => x))))
end
section
variable {X : Cx}
/-- set.add of a text -/
theorem addS_ok {pins : List (Addr × Obj)} {σ : L2.St} {H : Hp} {s : Shared} {E : Value → Shared → Prop} {D : Addr} {l : List Str} {y : Str} {u : Value} {Q : Value → Shared → Prop} (I : Inv X pins σ H s) (hD : H D = some (SetSO X.prog X.w D l)) (room : l.length + 1 < scanBound) (r : RelV (.str y) u)
    (h : ∀ s' l', l'.length ≤ l.length + 1 → (∀ z, z ∈ l' ↔ z = y ∨ z ∈ l) → Inv X pins σ (upd H D (SetSO X.prog X.w D l')) s' → Q .none s') : wpAny (model X.prog X.w) X.A (call (.builtin "set.add") [.ref D, u]) Q E s := by
  have S : SetS X.prog X.w s.heap D l := (I.hok D _ hD).1
  obtain ⟨t, rfl⟩ : ∃ t, u = Value.str y t := r
  have hT : s.TypeIs (.ref D) "set" := let ⟨_, e, _⟩ := S; ⟨_, e, rfl⟩
  refine wpAny_call_entry F.slot_set_add hT F.entry_set_add ?_ (F.args_set_add_2 _ _)
  unfold Builtin.«set.add» Builtin.Frozenset.oneOther
  simp only [List.isEmpty_nil, bind_assoc]
  unfold Builtin.Frozenset.addrOf
  refine wpAny_bind (wpAny_pure ?_)
  try dsimp only
  refine wpAny_bind (wpAny_pure ?_)
  try dsimp only
  refine wpAny_bind (set_put S room fun b h' l' sb S' c m => ?_)
  show wpAny _ _ (ret Value.none) _ _ _
  have he : ∃ o, h'.get? D = some o := let ⟨_, e, _⟩ := S'; ⟨_, e⟩
  exact wpAny_pure ⟨_, rfl, h _ l' c m (I.write (e := D) (t' := s.toks + 1) (by rw [hD]; trivial) (.inl rfl) (fun b u hb hu => (sb.2 b hb).trans hu) he (setSO_new S'))⟩
/-- {el for t0 in i0 for t1 in i1}, el a text: D the new set -/
def tSc2 (P : Program) (w : World) (wi : TI) (g : TG) (wi1 : TI) (g1 : TG) (te : TE) (vs vs1 : List Nat) : TE := fun σ H Q => wi σ H fun J H1 => ∀ D, H1 D = none → ∃ W : Nat → Nat → Hp → Prop, (∃ m, W 0 m (upd H1 D (SetSO P w D []))) ∧ ∀ i m H, W i m H →
  (J.stop i H ∧ Q (.ref D) H) ∨ (J.go i H ∧ ∃ Nx : Hp → Prop, (∀ H', Nx H' → ∃ m', m' < m ∧ W (i + 1) m' H') ∧ ∀ x H', J.yld i H x H' → g x (wipe σ vs) H' fun σ2 H2 => wipe σ2 vs = wipe σ vs ∧
    wi1 σ2 H2 fun J1 H4 => ∃ W1 : Nat → Nat → Hp → Prop, (∃ m, W1 0 m H4) ∧ ∀ j k H, W1 j k H →
      (J1.stop j H ∧ Nx H) ∨ (J1.go j H ∧ ∃ Nx1 : Hp → Prop, (∀ H', Nx1 H' → ∃ k', k' < k ∧ W1 (j + 1) k' H') ∧ ∀ x H', J1.yld j H x H' → g1 x (wipe σ2 vs1) H' fun σ3 H5 => wipe σ3 vs1 = wipe σ2 vs1 ∧
        te σ3 H5 fun y H7 => ∃ (c : Str) (l : List Str), y = .str c ∧ H7 D = some (SetSO P w D l) ∧ l.length + 1 < scanBound ∧ ∀ l', l'.length ≤ l.length + 1 → (∀ z, z ∈ l' ↔ z = c ∨ z ∈ l) → Nx1 (upd H7 D (SetSO P w D l'))))
/-- what a block's turn keeps of the iterator's objects -/
theorem pe_sc2 {el tg iter tg1 iter1 : Expr} {scope : Scope} {own : List (Str × Nat)} {vs1 : List Nat} {pos : Pos} {wi wi1 : TI} {g g1 : TG} {te : TE} (hc : X.calm = true) (hN : X.N.Nodup) (hi : PI X tg iter wi) (ok : BlkOk X.N X.env.scope scope own) (hv : ∀ i ∈ vs1, i ∈ own.map (·.2))
    (hg : ∀ (s : Shared) (H : Hp) (C : Addr) (cl : List (Str × Addr)) (fp : List Addr), PG (X.blk s H scope (compEnvC scope cl C X.env) fp) tg g)
    (hi1 : ∀ (s : Shared) (H : Hp) (C : Addr) (cl : List (Str × Addr)) (fp : List Addr), PI (X.blk s H scope (compEnvC scope cl C X.env) fp) tg1 iter1 wi1)
    (hg1 : ∀ (s : Shared) (H : Hp) (C : Addr) (cl : List (Str × Addr)) (fp : List Addr), PG (X.blk s H scope (compEnvC scope cl C X.env) fp) tg1 g1)
    (he : ∀ (s : Shared) (H : Hp) (C : Addr) (cl : List (Str × Addr)) (fp : List Addr), PE (X.blk s H scope (compEnvC scope cl C X.env) fp) el te) (hs : ∀ x, foldedSetIterable iter X.env x = pure x := by intro _; rfl) (hs1 : ∀ env x, foldedSetIterable iter1 env x = pure x := by intro _ _; rfl) :
    PE X (.SetComp el [⟨tg, iter, [], 0⟩, ⟨tg1, iter1, [], 0⟩] scope pos) (tSc2 X.prog X.w wi g wi1 g1 te (own.map (·.2)) vs1) := by
  refine ⟨fun pins s σ H Q I h => ?_⟩
  rw [eval_SetComp]
  have hfree : ∀ y ∈ scope.names, y.2 = .free → ∃ c, X.env.cells.lookup y.1 = some c := fun y hy e => (ok.free y hy e).elim (fun k => I.ok.has _ (.inl k)) fun k => I.ok.has _ (.inr k)
  refine wpAny_comprehension_free (use := none) rfl hs (closure_ok hfree) ok.kind (fun y hy e => by rw [ok.uniq y hy, e]) (thn (hi.run pins s σ H _ I h) fun xv s1 hx => thn hx fun itv s2 h2 => ?_)
  obtain ⟨it, fp, tn, J, H2, e, I2, T, st2, f2, q⟩ := h2
  subst e
  refine newSet_ok (newEnv_comp ?_)
  generalize hD : s2.heap.objs.size = D
  have hDn : H2 D = none := I2.hok.fresh (Nat.le_of_eq hD)
  obtain ⟨W, ⟨m0, w0⟩, turn⟩ := q D hDn
  generalize hs3 : ({ s2 with heap := s2.heap.push (oSet0 X.w) } : Shared) = s3
  have I3 : Inv X pins σ (upd H2 D (SetSO X.prog X.w D [])) s3 := by
    rw [← hs3]
    refine I2.laid (t' := s2.toks) (fun b o e => Heap.get?_push_of_some _ e) (Nat.le_of_eq hD) ?_
    rw [← hD]
    exact setSO_new ⟨_, Heap.get?_push_size _ rfl, txW_fresh⟩
  have h3 : s3.heap = s2.heap.push (oSet0 X.w) := by rw [← hs3]
  have sz : ∀ b ∈ fp, b < s2.heap.objs.size := fun b hb => let ⟨_, e, _⟩ := T.obj _ _ st2 b hb; Heap.lt_size e
  generalize hH3 : upd H2 D (SetSO X.prog X.w D []) = H3 at I3 w0
  have f3 : ∀ b ∈ fp, FpOk X pins H3 b ∧ b < s3.heap.objs.size := fun b hb =>
    ⟨⟨by rw [← hH3, upd_ne (by rw [← hD]; exact Nat.ne_of_lt (sz b hb))]; exact (f2 b hb).1, (f2 b hb).2⟩, by rw [h3, Heap.size_push]; exact Nat.lt_succ_of_lt (sz b hb)⟩
  have st3 : tn 0 s3.heap := T.keep _ _ _ st2 fun b _ o e => by rw [h3]; exact Heap.get?_push_of_some _ e
  have I4 := block_start I3 ok hN f3
  have pg := hg s3 H3 s3.heap.objs.size (cellsFrom (s3.heap.objs.size + 1) scope.names (cloFrom X.env.cells scope.names [])) fp
  have pe := he s3 H3 s3.heap.objs.size (cellsFrom (s3.heap.objs.size + 1) scope.names (cloFrom X.env.cells scope.names [])) fp
  have pi1 := hi1 s3 H3 s3.heap.objs.size (cellsFrom (s3.heap.objs.size + 1) scope.names (cloFrom X.env.cells scope.names [])) fp
  have pg1 := hg1 s3 H3 s3.heap.objs.size (cellsFrom (s3.heap.objs.size + 1) scope.names (cloFrom X.env.cells scope.names [])) fp
  show codeAny _ _ (.compStart (.SetComp el [⟨tg, iter, [], 0⟩, ⟨tg1, iter1, [], 0⟩] scope pos) 0 (.ref it) (.ref D) (compEnvC scope (cellsFrom (s3.heap.objs.size + 1) scope.names (cloFrom X.env.cells scope.names [])) s3.heap.objs.size X.env)) (compPost (model X.prog X.w) X.A X.xe none (EP X pins σ Q) (.ref D) s3.heap.objs.size) { s3 with heap := pushCells (s3.heap.push { cls := .type "dict", data := .dict #[] }) scope.names }
  generalize hce : compEnvC scope (cellsFrom (s3.heap.objs.size + 1) scope.names (cloFrom X.env.cells scope.names [])) s3.heap.objs.size X.env = ce at I4 pg pe pi1 pg1 ⊢
  have cL : ce.locals = s3.heap.objs.size := by subst hce; rfl
  generalize hs4 : ({ s3 with heap := pushCells (s3.heap.push { cls := .type "dict", data := .dict #[] }) scope.names } : Shared) = s4 at I4 ⊢
  have st4 : tn 0 s4.heap := T.keep _ _ _ st3 fun b _ o e => by rw [← hs4]; exact pushCells_keeps _ _ _ _ (Heap.get?_push_of_some _ e)
  have stat : ∀ {σ' : L2.St} {H' : Hp} {s' : Shared}, Inv (X.blk s3 H3 scope ce fp) [] σ' H' s' → (∀ b ∈ fp, H' b = none) → ∀ b ∈ fp, FpOk (X.blk s3 H3 scope ce fp) [] H' b := fun {σ' H' s'} J' hn b hb =>
    ⟨hn b hb, (J'.ok.exf b hb).1, J'.ok.exfs b hb, .inl hb, fun x c e => (J'.ok.exf b hb).2 x c e, fun p hp => absurd (show p ∈ ([] : List (Addr × Obj)) ++ [] from hp) (by simp)⟩
  have loop : codeAny (model X.prog X.w) X.A (.compLoop (.SetComp el [⟨tg, iter, [], 0⟩, ⟨tg1, iter1, [], 0⟩] scope pos) 0 (.ref it) (.ref D) ce) (compPost (model X.prog X.w) X.A X.xe none (EP X pins σ Q) (.ref D) s3.heap.objs.size) s4 := by
    refine sc2_out (hs1 ce) (fun n s' => ∃ i H', Inv (X.blk s3 H3 scope ce fp) [] (wipe σ (own.map (·.2))) H' s' ∧ tn i s'.heap ∧ (∀ b ∈ fp, H' b = none) ∧ W i n H') ?_ m0 ⟨0, H3, I4, st4, fun b hb => (f3 b hb).1.1, w0⟩
    rintro n s5 ⟨i, H5, I5, st5, n5, w5⟩
    rcases turn i n H5 w5 with ⟨stop, qq⟩ | ⟨go, Nx, hNx, step⟩
    · refine thnF (T.done (X.blk s3 H3 scope ce fp) rfl rfl rfl hc i [] s5 _ H5 (fun _ _ => False) I5 (stat I5 n5) st5 stop) fun r s6 ⟨hr, I6⟩ => ?_
      subst hr
      have I7 : Inv X pins σ H5 s6 := I3.call' (ch := fp) I6.os I6.base I6.hok I6.bare fun b hb => ⟨(f3 b hb).1.2.2.2.1, (f3 b hb).1.2.1, (f3 b hb).1.2.2.2.2.1, (f3 b hb).1.2.2.2.2.2⟩
      have nC : H5 s3.heap.objs.size = none := cL ▸ (show H5 ce.locals = none from I6.free)
      obtain ⟨m, hn, _⟩ := I6.loc
      have hn : s6.heap.Ns ce.locals m := hn
      rw [cL] at hn
      obtain ⟨k0, k1, k2, k3, k4, k5⟩ := I3.fpOk (Nat.le_refl _) nC
      exact ⟨m, hn, fun h' sb => ⟨.ref D, H5, I7.turned (t' := s6.toks) (fun b o hb e => (sb.2 b hb).trans e) k0 k1 k3 k4 k5, rfl, qq⟩⟩
    · refine thnF (T.item (X.blk s3 H3 scope ce fp) rfl rfl rfl hc i [] s5 _ H5 (fun _ _ => False) I5 (stat I5 n5) st5 go) fun r s6 ⟨u, hr, h6⟩ => ?_
      subst hr
      refine thnF h6 fun _ s7 ⟨x, H7, I7, r7, y7, st7, n7⟩ => ?_
      refine thnF (pg.run _ s7 _ H7 x u _ (I7.pinned (stat I7 n7) (T.obj _ _ st7)) r7 (step x H7 y7)) fun _ s8 ⟨σ8, H8, I8, hw8, q8⟩ => ?_
      -- where the outer turn ends
      have fin : ∀ {s' : Shared} {H' : Hp}, Inv (X.blk s3 H3 scope ce fp) ([] ++ pinsAt fp s7.heap) (wipe σ8 vs1) H' s' → Nx H' → ∃ m, m < n ∧ ∃ i H', Inv (X.blk s3 H3 scope ce fp) [] (wipe σ (own.map (·.2))) H' s' ∧ tn i s'.heap ∧ (∀ b ∈ fp, H' b = none) ∧ W i m H' := fun {s' H'} J' nx => by
        obtain ⟨m', hm, w'⟩ := hNx H' nx
        have pin' : ∀ b ∈ fp, ∀ o, s7.heap.get? b = some o → s'.heap.get? b = some o ∧ H' b = none := fun b hb o e =>
          let z := J'.pin (b, o) (List.mem_append_right _ (List.mem_append_right _ (mem_pinsAt hb e)))
          ⟨z.1, z.2.1⟩
        refine ⟨m', hm, i + 1, H', (J'.unpinned (pins := [])).weak (by rw [← hw8, wipe_length, wipe_length]) (fun j v e => ?_), T.keep _ _ _ st7 fun b hb o e => (pin' b hb o e).1, fun b hb => let ⟨o, e, _⟩ := T.obj _ _ st7 b hb; (pin' b hb o e).2, w'⟩
        rw [← hw8] at e
        obtain ⟨e1, e2⟩ := wipe_some e
        rw [wipe_out fun z => e2 (hv j z)]
        exact e1
      refine thnF (pi1.run _ s8 σ8 H8 _ I8 q8) fun xv s10 hx => thnF hx fun itv s11 h11 => ?_
      obtain ⟨it1, fp1, tn1, J1, H11, e1, I11, T1, st11, f11, W1, ⟨m1, w1⟩, turn1⟩ := h11
      subst e1
      have stat1 : ∀ {H' : Hp}, (∀ b ∈ fp1, H' b = none) → ∀ b ∈ fp1, FpOk (X.blk s3 H3 scope ce fp) ([] ++ pinsAt fp s7.heap) H' b := fun hn b hb => ⟨hn b hb, (f11 b hb).2⟩
      have loop1 : codeAny (model X.prog X.w) X.A (.compLoop (.SetComp el [⟨tg, iter, [], 0⟩, ⟨tg1, iter1, [], 0⟩] scope pos) 1 (.ref it1) (.ref D) ce) (fun r s' => match r with
            | .ok _ => ∃ m, m < n ∧ ∃ i H', Inv (X.blk s3 H3 scope ce fp) [] (wipe σ (own.map (·.2))) H' s' ∧ tn i s'.heap ∧ (∀ b ∈ fp, H' b = none) ∧ W i m H'
            | .error _ => False) s11 := by
        refine sc2_in (fun k s' => ∃ j H', Inv (X.blk s3 H3 scope ce fp) ([] ++ pinsAt fp s7.heap) (wipe σ8 vs1) H' s' ∧ tn1 j s'.heap ∧ (∀ b ∈ fp1, H' b = none) ∧ W1 j k H') ?_ m1 ⟨0, H11, I11.weak (wipe_length _ _) (fun j v e => (wipe_some e).1), st11, fun b hb => (f11 b hb).1, w1⟩
        rintro k s12 ⟨j, H12, I12, st12, n12, w12⟩
        rcases turn1 j k H12 w12 with ⟨stop1, nx1⟩ | ⟨go1, Nx1, hNx1, step1⟩
        · refine thnF (T1.done (X.blk s3 H3 scope ce fp) rfl rfl rfl hc j _ s12 (wipe σ8 vs1) H12 (fun _ _ => False) I12 (stat1 n12) st12 stop1) fun r s13 ⟨hr, I13⟩ => ?_
          subst hr
          exact fin I13 nx1
        · refine thnF (T1.item (X.blk s3 H3 scope ce fp) rfl rfl rfl hc j _ s12 (wipe σ8 vs1) H12 (fun _ _ => False) I12 (stat1 n12) st12 go1) fun r s13 ⟨u1, hr, h13⟩ => ?_
          subst hr
          refine thnF h13 fun _ s14 ⟨x1, H14, I14, r14, y14, st14, n14⟩ => ?_
          refine thnF (pg1.run _ s14 (wipe σ8 vs1) H14 x1 u1 _ (I14.pinned (stat1 n14) (T1.obj _ _ st14)) r14 (step1 x1 H14 y14)) fun _ s15 ⟨σ15, H15, I15, hw15, q15⟩ => ?_
          refine thnF (pe.run _ s15 σ15 H15 _ I15 q15) fun z s17 ⟨yv, H17, I17, r17, c, l, ey, hD17, hz17, nx⟩ => ?_
          subst ey
          refine addS_ok (X := X.blk s3 H3 scope ce fp) I17 hD17 hz17 r17 fun s' l' c1 c2 J' => ?_
          obtain ⟨m', hm, w'⟩ := hNx1 _ (nx l' c1 c2)
          have pin' : ∀ b ∈ fp1, ∀ o, s14.heap.get? b = some o → s'.heap.get? b = some o ∧ upd H17 D (SetSO X.prog X.w D l') b = none := fun b hb o e =>
            let z := J'.pin (b, o) (List.mem_append_right _ (List.mem_append_right _ (mem_pinsAt hb e)))
            ⟨z.1, z.2.1⟩
          exact ⟨m', hm, j + 1, _, J'.unpinned.weak (by rw [← hw15, wipe_length]) (fun j v e => by rw [← hw15] at e; exact (wipe_some e).1), T1.keep _ _ _ st14 fun b hb o e => (pin' b hb o e).1, fun b hb => let ⟨o, e, _⟩ := T1.obj _ _ st14 b hb; (pin' b hb o e).2, w'⟩
      exact sc2_start loop1 (T1.self X.A 0 _ _ _ st11 loop1)
  exact codeAny_compStart_set loop (T.self X.A 0 _ _ _ st4 loop)
/-! ### many dicts locked at once -/
def tLockN : Nat → TE → TE
  | 0, t => t
  | n + 1, t => tLockE (tLockN n t)
def tLocks (t : TE) : TE := fun σ H Q => ∃ n, tLockN n t σ H Q
theorem pe_lockN {e : Expr} {t : TE} (h : PE X e t) : ∀ n, PE X e (tLockN n t)
  | 0 => h
  | n + 1 => pe_lock (pe_lockN h n)
theorem pe_locks {e : Expr} {t : TE} (h : PE X e t) : PE X e (tLocks t) := ⟨fun pins s σ H Q I ⟨n, q⟩ => (pe_lockN h n).run pins s σ H Q I q⟩
end
/-- all but what stands at ds is as it was -/
def ButL (ds : List Addr) (H H' : Hp) : Prop := ∀ b o, b ∉ ds → H b = some o → H' b = some o
theorem lockN_at {t : TE} {σ : L2.St} : ∀ (ds : List (Addr × List (Key × V))) (H : Hp) (Q : VK), (ds.map (·.1)).Nodup → (∀ d ∈ ds, H d.1 = some (.dK d.2)) →
    (∀ H1 R, ButL (ds.map (·.1)) H H1 → (∀ b, H b = none → H1 b = none) → (∀ d ∈ ds, ∃ od, H1 d.1 = some (.frz od (.dK d.2))) → (∀ v H', Same H1 H' → (∀ H2, Same H H2 → ButL (ds.map (·.1)) H' H2 → Q v H2) → R v H') → t σ H1 R) → tLockN ds.length t σ H Q
  | [], H, Q, _, _, k => k H Q (fun _ _ _ h => h) (fun _ h => h) (fun d hd => by cases hd) fun v H' s q => q H' s fun _ _ _ h => h
  | d :: ds, H, Q, nd, hd, k => by
    obtain ⟨n1, n2⟩ := List.nodup_cons.mp (show (d.1 :: ds.map (·.1)).Nodup from nd)
    have h0 := hd d List.mem_cons_self
    refine ⟨d.1, .dK d.2, h0, trivial, fun od => lockN_at ds _ _ n2 (fun e he => ?_) fun H1 R b1 f1 z1 r1 => ?_⟩
    · rw [upd_ne fun z => n1 (by rw [← z]; exact List.mem_map.mpr ⟨e, he, rfl⟩)]
      exact hd e (List.mem_cons_of_mem _ he)
    · have hd1 : H1 d.1 = some (.frz od (.dK d.2)) := b1 _ _ n1 upd_same
      refine k H1 R (fun b o nb hb => b1 b o (fun z => nb (List.mem_cons_of_mem _ z)) (by rw [upd_ne fun z => nb (by rw [z]; exact List.mem_cons_self)]; exact hb)) (fun b hb => f1 b (by rw [upd_ne fun z => by rw [z, h0] at hb; cases hb]; exact hb)) (fun e he => ?_) fun v H' s q => r1 v H' s fun H2 s2 b2 => ⟨s2 _ _ upd_same, q _ (fun b o hb => ?_) fun b o nb hb => ?_⟩
      · rcases List.mem_cons.mp he with rfl | he
        · exact ⟨od, hd1⟩
        · exact z1 e he
      · by_cases c : b = d.1
        · rw [c, h0] at hb; rw [c, upd_same]; exact hb
        · rw [upd_ne c]; exact s2 _ _ (by rw [upd_ne c]; exact hb)
      · rw [upd_ne fun z => nb (by rw [z]; exact List.mem_cons_self)]
        exact b2 b o (fun z => nb (List.mem_cons_of_mem _ z)) hb
section
variable {P : Program} {w : World} {σ σ2 : L2.St} {H : Hp} {Q : VK} {g g1 : TG} {te : TE} {vs vs1 : List Nat} {α β : Type} {l : List α} {l1 : List β} {J J1 : It} {Ok Ok1 : Hp → Prop} {Y : α → V → Hp → Hp → Prop} {Y1 : β → V → Hp → Hp → Prop}
/-- the inner for, from which Nx is reached -/
def InAt (P : Program) (w : World) (g1 : TG) (te : TE) (vs1 : List Nat) (σ2 : L2.St) (D : Addr) (Nx : Hp → Prop) (J1 : It) (H4 : Hp) : Prop := ∃ W1 : Nat → Nat → Hp → Prop, (∃ m, W1 0 m H4) ∧ ∀ j k H, W1 j k H →
  (J1.stop j H ∧ Nx H) ∨ (J1.go j H ∧ ∃ Nx1 : Hp → Prop, (∀ H', Nx1 H' → ∃ k', k' < k ∧ W1 (j + 1) k' H') ∧ ∀ x H', J1.yld j H x H' → g1 x (wipe σ2 vs1) H' fun σ3 H5 => wipe σ3 vs1 = wipe σ2 vs1 ∧
    te σ3 H5 fun y H7 => ∃ (c : Str) (l : List Str), y = .str c ∧ H7 D = some (SetSO P w D l) ∧ l.length + 1 < scanBound ∧ ∀ l', l'.length ≤ l.length + 1 → (∀ z, z ∈ l' ↔ z = c ∨ z ∈ l) → Nx1 (upd H7 D (SetSO P w D l')))
def Sc2At (P : Program) (w : World) (g : TG) (wi1 : TI) (g1 : TG) (te : TE) (vs vs1 : List Nat) (σ : L2.St) (Q : VK) (J : It) (H1 : Hp) : Prop := ∀ D, H1 D = none → ∃ W : Nat → Nat → Hp → Prop, (∃ m, W 0 m (upd H1 D (SetSO P w D []))) ∧ ∀ i m H, W i m H →
  (J.stop i H ∧ Q (.ref D) H) ∨ (J.go i H ∧ ∃ Nx : Hp → Prop, (∀ H', Nx H' → ∃ m', m' < m ∧ W (i + 1) m' H') ∧ ∀ x H', J.yld i H x H' → g x (wipe σ vs) H' fun σ2 H2 => wipe σ2 vs = wipe σ vs ∧ wi1 σ2 H2 (InAt P w g1 te vs1 σ2 D Nx))
theorem rd_sc2 {wi wi1 : TI} (h : wi σ H (Sc2At P w g wi1 g1 te vs vs1 σ Q)) : tSc2 P w wi g wi1 g1 te vs vs1 σ H Q := h
instance go_sc2 {wi wi1 : TI} : Go (tSc2 P w wi g wi1 g1 te vs vs1 σ H Q) (wi σ H (Sc2At P w g wi1 g1 te vs vs1 σ Q)) := ⟨rd_sc2⟩
instance wipe1L {s t : List (Option V)} {j : Nat} [k : Sets s j none t] : WipeS s [j] t := ⟨k.e⟩
theorem in_any {D : Addr} {Nx : Hp → Prop} (W : ItW J1 l1 Ok1 Y1) (Pv : Nat → Hp → Prop) (ok : ∀ i H', Pv i H' → Ok1 H') (h0 : Pv 0 H)
    (hs : ∀ j a x H1 H2, l1[j]? = some a → Pv j H1 → Y1 a x H1 H2 → g1 x (wipe σ2 vs1) H2 fun σ3 H5 => wipe σ3 vs1 = wipe σ2 vs1 ∧ te σ3 H5 fun y H7 => ∃ (c : Str) (l : List Str), y = .str c ∧ H7 D = some (SetSO P w D l) ∧ l.length + 1 < scanBound ∧ ∀ l', l'.length ≤ l.length + 1 → (∀ z, z ∈ l' ↔ z = c ∨ z ∈ l) → Pv (j + 1) (upd H7 D (SetSO P w D l')))
    (hd : ∀ H', Pv l1.length H' → Nx H') : InAt P w g1 te vs1 σ2 D Nx J1 H := by
  refine ⟨fun i m H => m = l1.length - i ∧ i ≤ l1.length ∧ Pv i H, ⟨l1.length, by simp, Nat.zero_le _, h0⟩, ?_⟩
  rintro i m H1 ⟨rfl, hi, p⟩
  have o := ok i H1 p
  by_cases c : i < l1.length
  · refine .inr ⟨W.go o c, Pv (i + 1), fun H' p' => ⟨l1.length - (i + 1), by omega, rfl, c, p'⟩, fun x H' y => ?_⟩
    obtain ⟨a, ha, y⟩ := W.yld o c y
    exact hs i a x H1 H' ha p y
  · obtain rfl : i = l1.length := by omega
    exact .inl ⟨W.stop o (Nat.le_refl _), hd H1 p⟩
theorem sc2_any {wi1 : TI} (W : ItW J l Ok Y) (Pv : Addr → Nat → Hp → Prop) (ok : ∀ D i H', H D = none → Pv D i H' → Ok H') (h0 : ∀ D, H D = none → Pv D 0 (upd H D (SetSO P w D [])))
    (hs : ∀ D i a x H1 H2, H D = none → l[i]? = some a → Pv D i H1 → Y a x H1 H2 → g x (wipe σ vs) H2 fun σ2 H2 => wipe σ2 vs = wipe σ vs ∧ wi1 σ2 H2 (InAt P w g1 te vs1 σ2 D (Pv D (i + 1))))
    (hd : ∀ D H', H D = none → Pv D l.length H' → Q (.ref D) H') : Sc2At P w g wi1 g1 te vs vs1 σ Q J H := fun D hD => by
  refine ⟨fun i m H => m = l.length - i ∧ i ≤ l.length ∧ Pv D i H, ⟨l.length, by simp, Nat.zero_le _, h0 D hD⟩, ?_⟩
  rintro i m H1 ⟨rfl, hi, p⟩
  have o := ok D i H1 hD p
  by_cases c : i < l.length
  · refine .inr ⟨W.go o c, Pv D (i + 1), fun H' p' => ⟨l.length - (i + 1), by omega, rfl, c, p'⟩, fun x H' y => ?_⟩
    obtain ⟨a, ha, y⟩ := W.yld o c y
    exact hs D i a x H1 H' hD ha p y
  · obtain rfl : i = l.length := by omega
    exact .inl ⟨W.stop o (Nat.le_refl _), hd D H1 hD p⟩
/-- the dicts of the rows, each once -/
theorem rows_once {H : Hp} {d : Addr} : ∀ {es : List RowT}, (∀ e ∈ es, e.2.2 ≠ d ∧ H e.2.2 = some (.dK (kwK (strB e.2.1)))) → ∃ rs : List (Addr × List (Key × V)), (rs.map (·.1)).Nodup ∧ (∀ r ∈ rs, H r.1 = some (.dK r.2) ∧ r.1 ≠ d) ∧ ∀ e ∈ es, e.2.2 ∈ rs.map (·.1)
  | [], _ => ⟨[], List.nodup_nil, fun r h => (by cases h), fun e h => (by cases h)⟩
  | e :: es, h => by
    obtain ⟨rs, h1, h2, h3⟩ := rows_once fun f hf => h f (List.mem_cons_of_mem _ hf)
    by_cases c : e.2.2 ∈ rs.map (·.1)
    · refine ⟨rs, h1, h2, fun f hf => ?_⟩
      rcases List.mem_cons.mp hf with rfl | hf
      · exact c
      · exact h3 f hf
    · refine ⟨(e.2.2, kwK (strB e.2.1)) :: rs, List.nodup_cons.mpr ⟨c, h1⟩, fun r hr => ?_, fun f hf => ?_⟩
      · rcases List.mem_cons.mp hr with rfl | hr
        · exact ⟨(h e List.mem_cons_self).2, (h e List.mem_cons_self).1⟩
        · exact h2 r hr
      · rcases List.mem_cons.mp hf with rfl | hf
        · exact List.mem_cons_self
        · exact List.mem_cons_of_mem _ (h3 f hf)
/-- a dict of rows while all of it is locked -/
theorem locks_rows {t : TE} {es : List RowT} {d : Addr} (h : RowsAt H d es)
    (k : ∀ H1 R, (∀ b o, (∀ kvs, o ≠ .dK kvs) → H b = some o → H1 b = some o) → (∃ od, H1 d = some (.frz od (.dK (kwK (es.map fun e => (e.1, V.ref e.2.2)))))) → (∀ e ∈ es, ∃ od, H1 e.2.2 = some (.frz od (.dK (kwK (strB e.2.1))))) →
      (∀ v H', Same H1 H' → (∀ H2, Same H H2 → (∀ b o, H1 b = none → H' b = some o → H2 b = some o) → Q v H2) → R v H') → t σ H1 R) : tLocks t σ H Q := by
  obtain ⟨rs, n1, n2, n3⟩ := rows_once h.r
  generalize hkv : kwK (es.map fun e => (e.1, V.ref e.2.2)) = kv at k
  have hd : H d = some (.dK kv) := by rw [← hkv]; exact h.d
  have nd : (((d, kv) :: rs).map (·.1)).Nodup := List.nodup_cons.mpr ⟨fun m => by
    obtain ⟨r, hr, e⟩ := List.mem_map.mp m
    exact (n2 r hr).2 e, n1⟩
  have at_ : ∀ r ∈ (d, kv) :: rs, H r.1 = some (.dK r.2) := fun r hr => by
    rcases List.mem_cons.mp hr with rfl | hr
    · exact hd
    · exact (n2 r hr).1
  refine ⟨((d, kv) :: rs).length, lockN_at ((d, kv) :: rs) H Q nd at_ fun H1 R b1 f1 z1 r1 => ?_⟩
  have nin : ∀ b o, (∀ kvs, o ≠ HO.dK kvs) → H b = some o → b ∉ ((d, kv) :: rs).map (·.1) := fun b o no hb hm => by
    obtain ⟨r, hr, rfl⟩ := List.mem_map.mp hm
    rw [at_ r hr] at hb
    cases hb
    exact no _ rfl
  refine k H1 R (fun b o no hb => b1 b o (nin b o no hb) hb) (z1 _ List.mem_cons_self) (fun e he => ?_) fun v H' s q => r1 v H' s fun H2 s2 b2 => q H2 s2 fun b o nb hb => b2 b o (fun hm => ?_) hb
  · obtain ⟨r, hr, er⟩ := List.mem_map.mp (n3 e he)
    obtain ⟨od, z⟩ := z1 r (List.mem_cons_of_mem _ hr)
    have h5 := (h.r e he).2
    rw [← er, (n2 r hr).1] at h5
    have h6 : r.2 = kwK (strB e.2.1) := HO.dK.inj (Option.some.inj h5)
    exact ⟨od, by rw [← er, z, h6]⟩
  · obtain ⟨r, hr, rfl⟩ := List.mem_map.mp hm
    obtain ⟨od, z⟩ := z1 r hr
    rw [z] at nb; cases nb
end
end EE

/-! Own layer: sum(lists, []). -/
namespace EE
open PySem PySem.Spec PyProof.Rows L2
abbrev lstO (xs : Array Value) (n : Nat) : Obj := { cls := .type "list", dict := none, data := .seq xs n, slots := #[] }
theorem args_sum2 (a b : Value) : argsOk "sum" ⟨[a, b], []⟩ := by unfold argsOk; kernel_rfl
/-- what a walk by I, the sum's state at S, leaves as it was -/
structure Kp (S I : Addr) (s s' : Shared) : Prop where
  heap : ∀ b o, b ≠ S → b ≠ I → s.heap.get? b = some o → s'.heap.get? b = some o
  gens : s'.gens = s.gens
  drawn : s'.drawn = s.drawn
  os : s'.os = s.os
theorem Kp.trans {S I : Addr} {s s' s'' : Shared} (a : Kp S I s s') (b : Kp S I s' s'') : Kp S I s s'' := ⟨fun x o h1 h2 e => b.heap x o h1 h2 (a.heap x o h1 h2 e), b.gens.trans a.gens, b.drawn.trans a.drawn, b.os.trans a.os⟩
/-- the rest from i on -/
def restV (n : Nat) (vals : Nat → List Value) (i : Nat) : List Value := ((List.range n).drop i).flatMap vals
theorem restV_step {n i : Nat} {vals : Nat → List Value} (h : i < n) : restV n vals i = vals i ++ restV n vals (i + 1) := by
  unfold restV
  rw [List.drop_eq_getElem_cons (by rw [List.length_range]; exact h), List.flatMap_cons, List.getElem_range]
theorem restV_end {n : Nat} {vals : Nat → List Value} : restV n vals n = [] := by
  unfold restV
  rw [List.drop_of_length_le (by rw [List.length_range]; exact Nat.le_refl _), List.flatMap_nil]
section
variable {prog : Program} {w : World} {A : Around} {E : Value → Shared → Prop}
theorem sum_loopL {I S q : Addr} {its : Array Value} {vals : Nat → List Value} {R : Result → Shared → Prop} (hh : A.in1.handled = none) (hSI : S ≠ I) (hqI : q ≠ I) (hqS : q ≠ S) :
    ∀ (k i : Nat) (s : Shared) (tr : Addr) (acc : List Value) (n c : Nat), its.size - i = k → i ≤ its.size → s.heap.IsListIter I q i → s.heap.IsList q its → s.heap.get? S = some (lstO #[.ref tr] c) → s.heap.get? tr = some (lstO acc.toArray n) → tr ≠ S → tr ≠ I →
      (∀ j, j < its.size → ∃ a m, its[j]? = some (.ref a) ∧ s.heap.get? a = some (lstO (vals j).toArray m) ∧ a ≠ S ∧ a ≠ I) → acc.length + (restV its.size vals i).length ≤ 1000 →
      (∀ s' r m, Kp S I s s' → s'.heap.get? r = some (lstO (acc ++ restV its.size vals i).toArray m) → (i = its.size → r = tr) → (i < its.size → s.heap.objs.size ≤ r) → R (.ok (.ret (.ref r))) s') →
      codeAny (model prog w) A (.builtin "sum.loop" ⟨[.ref I, .ref S, rawInt 2, rawInt 0], []⟩) R s := by
  intro k
  induction k with
  | zero =>
    intro i s tr acc n c hk hi st1 st2 hS ht n1 n2 hv hl hR
    obtain rfl : i = its.size := by omega
    refine codeAny_builtin F.entry_sum_loop ?_
    rw [Around.under_plainId F.plain_sum_loop _]
    show wpAny _ A.in1 (seqItems? (.ref S) >>= _) _ _ s
    refine wpAny_bind (wpAny_seqItems hS rfl ?_)
    show wpAny _ A.in1 (tryCatch (pyNext (.ref I)) _ >>= _) _ _ s
    refine wpAny_bind (wpAny_tryCatch (wpAny_pyNext_list_end hh st1 st2 (by simp) fun h' he' => ?_))
    refine wpAny_pure (hR _ tr n ⟨fun b o _ h e => he' b o h e, rfl, rfl, rfl⟩ ?_ (fun _ => rfl) fun h => absurd h (Nat.lt_irrefl _))
    rw [restV_end, List.append_nil]
    exact he' tr _ n2 ht
  | succ k ih =>
    intro i s tr acc n c hk hi st1 st2 hS ht n1 n2 hv hl hR
    have hlt : i < its.size := by omega
    obtain ⟨a, m, ha, hav, a1, a2⟩ := hv i hlt
    refine codeAny_builtin F.entry_sum_loop ?_
    rw [Around.under_plainId F.plain_sum_loop _]
    show wpAny _ A.in1 (seqItems? (.ref S) >>= _) _ _ s
    refine wpAny_bind (wpAny_seqItems hS rfl ?_)
    show wpAny _ A.in1 (tryCatch (pyNext (.ref I)) _ >>= _) _ _ s
    refine wpAny_bind (wpAny_tryCatch (wpAny_pyNext_list_item st1 st2 ha fun h1 it1 sb1 => ?_))
    have e1 : ∀ b o, b ≠ I → s.heap.get? b = some o → h1.get? b = some o := fun b o h e => (sb1.2 b h).trans e
    have rs := restV_step (vals := vals) hlt
    rw [rs, List.length_append] at hl
    show wpAny _ A.in1 ((holding [Value.ref a] (binaryOp .Add (.ref tr) (.ref a))).attempt >>= _) _ _ _
    refine wpAny_bind (wpAny_attempt (wpAny_holding (PySem.P.add_list (e1 _ _ n2 ht) (e1 _ _ a2 hav) ?_ (by
      rw [List.size_toArray, List.size_toArray]
      exact small_sz (by omega)))))
    generalize hh2 : h1.push (lstO (acc.toArray ++ (vals i).toArray) 0) = h2
    have e2 : ∀ b o, h1.get? b = some o → h2.get? b = some o := fun b o e => by rw [← hh2]; exact Heap.get?_push_of_some _ e
    have e12 : ∀ b o, b ≠ I → s.heap.get? b = some o → h2.get? b = some o := fun b o h e => e2 b o (e1 b o h e)
    have sz1 : h1.objs.size = s.heap.objs.size := sb1.1
    have sz2 : h2.objs.size = s.heap.objs.size + 1 := by rw [← hh2, Heap.size_push, sz1]
    have hr : h2.get? h1.objs.size = some (lstO (acc ++ vals i).toArray 0) := by
      have ea : acc.toArray ++ (vals i).toArray = (acc ++ vals i).toArray := by simp
      rw [← hh2, ea]
      exact Heap.get?_push_size _ rfl
    have nS : h1.objs.size ≠ S := fun z => by have := Heap.lt_size (e1 S _ hSI hS); rw [z] at this; exact Nat.lt_irrefl _ this
    have nI : h1.objs.size ≠ I := fun z => by obtain ⟨o, e, _⟩ := it1; have := Heap.lt_size e; rw [z] at this; exact Nat.lt_irrefl _ this
    have hS2 : h2.get? S = some (lstO #[.ref tr] c) := e12 S _ hSI hS
    show wpAny _ A.in1 (updateSeq S (fun _ => #[.ref h1.objs.size]) >>= _) _ _ _
    refine wpAny_bind (wpAny_updateSeq hS2 rfl ?_)
    refine wpAny_bind (wpAny_letGo ?_)
    have hS3 := Heap.get?_update_self (Obj.mapSeq fun _ => #[Value.ref h1.objs.size]) hS2 rfl
    show wpAny _ A.in1 (updateSeq S (fun _ => #[.ref h1.objs.size]) >>= _) _ _ _
    refine wpAny_bind (wpAny_updateSeq hS3 rfl ?_)
    have hS4 := Heap.get?_update_self (Obj.mapSeq fun _ => #[Value.ref h1.objs.size]) hS3 rfl
    have e4 : ∀ b o, b ≠ S → h2.get? b = some o → ((h2.update S (Obj.mapSeq fun _ => #[Value.ref h1.objs.size])).update S (Obj.mapSeq fun _ => #[Value.ref h1.objs.size])).get? b = some o := fun b o h e =>
      (Heap.get?_update_other _ _ (Ne.symm h)).trans ((Heap.get?_update_other _ _ (Ne.symm h)).trans e)
    refine wpAny_pure ⟨plainId_quiet F.plain_sum_loop _, ih (i + 1) _ h1.objs.size (acc ++ vals i) 0 _ (by omega) hlt ?_ ?_ hS4 (e4 _ _ nS hr) nS nI (fun j hj => ?_) (by rw [List.length_append]; omega) fun s' r m' kp h' f1 f2 => ?_⟩
    · obtain ⟨o, e, r⟩ := it1
      exact ⟨o, e4 I _ (Ne.symm hSI) (e2 _ _ e), r⟩
    · obtain ⟨o, e, r⟩ := st2
      exact ⟨o, e4 q _ hqS (e12 q _ hqI e), r⟩
    · obtain ⟨b, mb, hb, hbv, b1, b2⟩ := hv j hj
      exact ⟨b, mb, hb, e4 _ _ b1 (e12 _ _ b2 hbv), b1, b2⟩
    · refine hR s' r m' ⟨fun b o h1 h2 e => kp.heap b o h1 h2 (e4 b o h1 (e12 b o h2 e)), kp.gens, kp.drawn, kp.os⟩ (by rw [rs, ← List.append_assoc]; exact h') (fun z => absurd z (Nat.ne_of_lt hlt)) fun _ => ?_
      by_cases z : i + 1 = its.size
      · rw [f1 z, sz1]; exact Nat.le_refl _
      · have := f2 (by omega)
        have sz4 : ((h2.update S (Obj.mapSeq fun _ => #[Value.ref h1.objs.size])).update S (Obj.mapSeq fun _ => #[Value.ref h1.objs.size])).objs.size = h2.objs.size := (Heap.SameBut.update _ S _).1.trans (Heap.SameBut.update _ S _).1
        dsimp only at this
        rw [sz4, sz2] at this
        omega
theorem call_sumL {q b0 : Addr} {its : Array Value} {vals : Nat → List Value} {n0 : Nat} {s : Shared} {Q : Value → Shared → Prop} (hh : A.handled = none) (hl : s.heap.IsList q its) (hb : s.heap.get? b0 = some (lstO #[] n0))
    (hv : ∀ j, j < its.size → ∃ a m, its[j]? = some (.ref a) ∧ s.heap.get? a = some (lstO (vals j).toArray m)) (hz : (restV its.size vals 0).length ≤ 1000)
    (h : ∀ s' r m, (∀ b o, s.heap.get? b = some o → s'.heap.get? b = some o) → s'.gens = s.gens → s'.drawn = s.drawn → s'.os = s.os → s'.heap.get? r = some (lstO (restV its.size vals 0).toArray m) → (its.size = 0 → r = b0) → (0 < its.size → s.heap.objs.size ≤ r) → Q (.ref r) s') :
    wpAny (model prog w) A (call (.builtin "sum") [.ref q, .ref b0]) Q E s := by
  refine call_function_tree F.kind_sum F.plain_sum F.entry_sum (args_sum2 _ _) ?_
  unfold Builtin.«sum»
  simp only [List.length_cons, List.length_nil]
  rw [if_neg (by decide)]
  refine wpAny_bind (wpAny_of_eq (show Builtin.Builtins.bindParams "sum" ["start"] 0 { pos := [.ref b0] } = pure [some (.ref b0)] from rfl) ?_)
  refine wpAny_bind (wpAny_pyIter_list hl ?_)
  have lq : q < s.heap.objs.size := by obtain ⟨_, e, _⟩ := hl; exact Heap.lt_size e
  generalize hI : (s.heap.push { cls := .type "list_iterator", data := .fields #[.ref q, .int 0 0] }) = h1
  have e1 : ∀ b o, s.heap.get? b = some o → h1.get? b = some o := fun b o e => by rw [← hI]; exact Heap.get?_push_of_some _ e
  have z1 : h1.objs.size = s.heap.objs.size + 1 := by rw [← hI, Heap.size_push]
  have hT : Shared.TypeIs { s with heap := h1 } (.ref b0) "list" := ⟨_, e1 _ _ hb, rfl⟩
  refine wpAny_bind (wpAny_pure ?_)
  simp only [List.forIn_cons, List.forIn_nil]
  refine wpAny_bind (wpAny_bind (wpAny_bind (wpAny_isInstance (T := "list") (b := false) hT F.sub_list_str ?_)))
  simp only [Bool.false_eq_true, if_false]
  refine wpAny_pure (wpAny_bind (wpAny_bind (wpAny_isInstance (T := "list") (b := false) hT F.sub_list_bytes ?_)))
  simp only [Bool.false_eq_true, if_false]
  refine wpAny_pure (wpAny_bind (wpAny_bind (wpAny_isInstance (T := "list") (b := false) hT F.sub_list_bytearray ?_)))
  simp only [Bool.false_eq_true, if_false]
  refine wpAny_pure (wpAny_pure ?_)
  refine wpAny_bind (wpAny_newObj_type ?_ (by show 1 ≤ sizeLine; decide))
  have lt : ∀ {b : Addr} {o : Obj}, s.heap.get? b = some o → b ≠ s.heap.objs.size ∧ b ≠ h1.objs.size := fun e => by
    have := Heap.lt_size e
    rw [z1]
    exact ⟨Nat.ne_of_lt this, Nat.ne_of_lt (Nat.lt_succ_of_lt this)⟩
  refine wpAny_pure ⟨plainId_quiet F.plain_sum_loop _, sum_loopL (I := s.heap.objs.size) (S := h1.objs.size) (q := q) (its := its) (vals := vals) (by simp [hh]) (by rw [z1]; exact Nat.succ_ne_self _) (Nat.ne_of_lt lq) (by rw [z1]; exact Nat.ne_of_lt (Nat.lt_succ_of_lt lq)) its.size 0 _ b0 [] n0 0 (by omega) (Nat.zero_le _)
    ⟨_, Heap.get?_push_of_some _ (by rw [← hI]; exact Heap.get?_push_size _ rfl), rfl, rfl⟩ (hl.at fun o e => Heap.get?_push_of_some _ (e1 _ _ e)) (Heap.get?_push_size _ rfl) (Heap.get?_push_of_some _ (e1 _ _ hb)) (lt hb).2 (lt hb).1
    (fun j hj => by obtain ⟨a, m, x, y⟩ := hv j hj; exact ⟨a, m, x, Heap.get?_push_of_some _ (e1 _ _ y), (lt y).2, (lt y).1⟩) (by simpa using hz) fun s' r m kp h' f1 f2 => ?_⟩
  refine h s' r m (fun b o e => kp.heap b o (lt e).2 (lt e).1 (Heap.get?_push_of_some _ (e1 _ _ e))) kp.gens kp.drawn kp.os (by simpa using h') (fun z => f1 z.symm) fun z => ?_
  have := f2 z
  dsimp only at this
  rw [Heap.size_push, z1] at this
  omega
end
theorem vals_refs : ∀ {as : List Addr} {us : List Value}, Vals (as.map V.ref) us → us = as.map Value.ref
  | [], _, .nil => rfl
  | a :: as, _, .cons r t => by
    rw [vals_refs t]
    exact congrArg (· :: _) r
theorem vals_flat : ∀ {ls : List (Addr × List Str)} {vals : Nat → List Value}, (∀ j l, ls[j]? = some l → Vals (l.2.map V.str) (vals j)) → Vals ((ls.flatMap (·.2)).map V.str) ((List.range ls.length).flatMap vals)
  | [], _, _ => .nil
  | l :: ls, vals, h => by
    rw [List.flatMap_cons, List.map_append, List.length_cons, List.range_succ_eq_map, List.flatMap_cons, List.flatMap_map]
    exact (h 0 l rfl).append (vals_flat (vals := fun j => vals (j + 1)) fun j m e => h (j + 1) m e)
/-- sum(lists of texts, []) -/
def rSumL : LR := fun xs H Q => ∃ (a b : Addr) (ls : List (Addr × List Str)), xs = [.ref a, .ref b] ∧ H a = some (.lst ((ls.map (·.1)).map V.ref)) ∧ H b = some (.lst []) ∧ (∀ l ∈ ls, H l.1 = some (.lst (l.2.map V.str))) ∧ (ls.flatMap (·.2)).length ≤ 1000 ∧
  ∀ r H', Same H H' → H' r = some (.lst ((ls.flatMap (·.2)).map V.str)) → Q (.ref r) H'
theorem cr_sumL {X : Cx} (hc : X.calm = true) : CallR X (.builtin "sum") rSumL := by
  intro pins s σ H xs us Q I r h
  obtain ⟨a, b, ls, rfl, ha, hb, hls, hz, q⟩ := h
  obtain ⟨u1, u2, rfl, r1, r2⟩ : ∃ u1 u2, us = [u1, u2] ∧ RelV (.ref a) u1 ∧ RelV (.ref b) u2 := by
    match us, r with
    | [u1, u2], .cons r1 (.cons r2 .nil) => exact ⟨u1, u2, rfl, r1, r2⟩
  obtain rfl : u1 = Value.ref a := r1
  obtain rfl : u2 = Value.ref b := r2
  obtain ⟨za, ita, na, ra, ea⟩ := I.hok a _ ha
  obtain ⟨zb, itb, nb, rb, eb⟩ := I.hok b _ hb
  obtain rfl : itb = [] := by cases rb; rfl
  obtain rfl := vals_refs ra
  have ch : ∀ j : Nat, ∃ v : List Value, ∀ l : Addr × List Str, ls[j]? = some l → Vals (l.2.map V.str) v ∧ ∃ m, s.heap.get? l.1 = some (lstO v.toArray m) := fun j => by
    cases c : ls[j]? with
    | none => exact ⟨[], fun l e => by cases e⟩
    | some l =>
      obtain ⟨_, it, n, rl, el⟩ := I.hok l.1 _ (hls l (List.mem_of_getElem? c))
      exact ⟨it, fun l' e => by cases e; exact ⟨rl, n, el⟩⟩
  obtain ⟨vals, hv⟩ := Classical.axiomOfChoice ch
  have sz : ((ls.map (·.1)).map Value.ref).toArray.size = ls.length := by simp
  have fl := vals_flat (ls := ls) (vals := vals) fun j l e => (hv j l e).1
  have er : restV ls.length vals 0 = (List.range ls.length).flatMap vals := by unfold restV; rw [List.drop_zero]
  have lr : (restV ls.length vals 0).length = (ls.flatMap (·.2)).length := by rw [er, ← fl.length, List.length_map]
  refine call_sumL (vals := vals) (I.ok.hd hc) ⟨_, ea, rfl, na, rfl⟩ eb (fun j hj => ?_) (by rw [sz, lr]; exact hz) fun s' o m kk kg kd ko hr f1 f2 => ?_
  · rw [sz] at hj
    obtain ⟨e1, n, e2⟩ := hv j ls[j] (List.getElem?_eq_getElem hj)
    exact ⟨ls[j].1, n, by simp [hj], e2⟩
  · rw [sz] at f1 f2 hr
    rw [er] at hr
    by_cases c : ls = []
    · subst c
      have e : o = b := f1 rfl
      have I' : Inv X pins σ H s' := I.call' (ch := []) ko (Un.kept kk) (I.hok.kept kk) (by rw [kg]; exact I.bare) (fun _ z => nomatch z)
      rw [e]
      exact ⟨.ref b, H, I', rfl, q b H (Same.refl _) hb⟩
    · have hp := f2 (List.length_pos_iff.mpr c)
      have fr : H o = none := I.hok.fresh hp
      have ln : ((ls.flatMap (·.2)).map V.str).length ≤ sizeLine := by rw [List.length_map]; exact small_sz hz
      have J : Inv X pins σ (upd H o (.lst ((ls.flatMap (·.2)).map V.str))) { s with heap := s'.heap, gens := s'.gens, drawn := s'.drawn, toks := s'.toks } :=
        I.call (ch := []) (Un.laid kk hp fr) (I.hok.laid kk hp ⟨ln, _, m, fl, hr⟩) (by rw [kg]; exact I.bare) (fun _ z => nomatch z)
      have e : s' = { s with heap := s'.heap, gens := s'.gens, drawn := s'.drawn, toks := s'.toks } := by
        obtain ⟨h1, g1, d1, t1, o1⟩ := s'
        obtain rfl : o1 = s.os := ko
        rfl
      rw [e]
      exact ⟨.ref o, _, J, rfl, q o _ (same_new fr) upd_same⟩
end EE

/-! Own layer: dicts with odd keys (None, truth values, tuples among texts), made of pairs with unlike keys. -/
namespace EE
open PySem PySem.Spec PyProof.Rows L2 PySem.SeqAt
section
variable {P : Program} {w : World} {A : Around} {E : Value → Shared → Prop} {s : Shared}
/-- keys of a table -/
abbrev OEnt := NestedKey × Value × Value
def oEntry (w : World) (x : OEnt) : DictEntry := ⟨x.1.hash w, x.2.1, x.2.2⟩
theorem tells_not {key : Value} {stored : List Value} {k : NestedKey} {Q : Bool → Shared → Prop} (hk : NestedIs s.heap k key) (hd : k.depth ≤ 8) (hst : ∀ v ∈ stored, ∃ x : NestedKey, NestedIs s.heap x v ∧ x.depth ≤ 8) (h : Q false s) : wpAny (model P w) A (tableMayTell key stored) Q E s := by
  unfold tableMayTell
  split
  · exact wpAny_pure h
  · refine wpAny_bind (quiet_key k key 8 s hk hd _ _ _ ?_)
    simp only [Bool.not_true, Bool.false_eq_true, if_false]
    refine wpAny_bind ?_
    refine wpAny_forIn_list _ (fun rest r s' => s' = s ∧ r = (none, ()) ∧ ∀ v ∈ rest, ∃ x : NestedKey, NestedIs s.heap x v ∧ x.depth ≤ 8) _ ?_ ?_ _ _ ⟨rfl, rfl, hst⟩
    · rintro x rest r s' ⟨rfl, rfl, hr⟩
      obtain ⟨y, hy, yd⟩ := hr x List.mem_cons_self
      refine wpAny_bind (quiet_key y x 8 _ hy yd _ _ _ ?_)
      simp only [Bool.not_true, Bool.false_eq_true, if_false]
      exact wpAny_pure ⟨rfl, rfl, fun v hv => hr v (List.mem_cons_of_mem _ hv)⟩
    · rintro r s' ⟨rfl, rfl, _⟩
      exact wpAny_pure h
theorem nis_str {h : Heap} {k : NestedKey} {z : Str} {u : Tok} (x : NestedIs h k (.str z u)) : k = .text z := by cases x; rfl
theorem wp_ite {α : Type} {M : Model} {b : Prop} [Decidable b] {x y : Sem α} {Q : α → Shared → Prop} (h1 : b → wpAny M A x Q E s) (h2 : ¬ b → wpAny M A y Q E s) : wpAny M A (if b then x else y) Q E s := by
  by_cases c : b
  · rw [if_pos c]; exact h1 c
  · rw [if_neg c]; exact h2 c
/-- a key that is not there is not found -/
theorem find_new {d : Addr} {o : Obj} {es : Array DictEntry} {ep : Nat} {xs : List OEnt} {k : NestedKey} {key : Value} {Q : Option Nat → Shared → Prop} (hu : A.units + 8 < cLine) (hk : NestedIs s.heap k key) (hd8 : k.depth ≤ 8)
    (ho : s.heap.get? d = some o) (hd : o.data = .dict es ep) (he : es.toList = xs.map (oEntry w)) (his : ∀ x ∈ xs, NestedIs s.heap x.1 x.2.1 ∧ x.1.depth ≤ 8) (hn : k ∉ xs.map (·.1)) (h : Q none s) :
    wpAny (model P w) A (dictFind d key (k.hash w)) Q E s := by
  have hmem : ∀ e ∈ es, ∃ x ∈ xs, e = oEntry w x := fun e hin => by
    have : e ∈ xs.map (oEntry w) := he ▸ Array.mem_toList_iff.mpr hin
    obtain ⟨x, hx, rfl⟩ := List.mem_map.mp this
    exact ⟨x, hx, rfl⟩
  have ne : ∀ x ∈ xs, NestedKey.beq x.1 k = false := fun x hx => by
    cases c : NestedKey.beq x.1 k with
    | false => rfl
    | true => exact absurd (List.mem_map.mpr ⟨x, hx, NestedKey.eq_of_beq _ _ c⟩) hn
  have eqf : ∀ x ∈ xs, EqAt A s x.2.1 key false := fun x hx => (eqAt_key x.1 k A s x.2.1 key (his x hx).1 hk (by have := Nat.min_le_right x.1.depth k.depth; omega)).cast (ne x hx)
  have hst : ∀ v ∈ (placesWithHash es.size (fun i => es[i]?.map (·.hash)) (k.hash w)).filterMap (fun i => es[i]?.map (·.key)), ∃ x : NestedKey, NestedIs s.heap x v ∧ x.depth ≤ 8 := fun v hv => by
    obtain ⟨i, _, hi⟩ := List.mem_filterMap.mp hv
    cases hei : es[i]? with
    | none => rw [hei] at hi; cases hi
    | some e =>
      rw [hei] at hi
      obtain rfl : e.key = v := by simpa using hi
      obtain ⟨x, hx, rfl⟩ := hmem e (Array.mem_of_getElem? hei)
      exact ⟨x.1, his x hx⟩
  have hany : ¬ (es.any fun e => e.key == key && e.hash != k.hash w) = true := by
    rw [← Array.any_toList, List.any_eq_true]
    rintro ⟨e, hin, hc⟩
    obtain ⟨x, hx, rfl⟩ := hmem e (Array.mem_toList_iff.mp hin)
    simp only [oEntry, Bool.and_eq_true, beq_iff_eq, bne_iff_ne, ne_eq] at hc
    have hi := (his x hx).1
    rw [hc.1] at hi
    exact hn (List.mem_map.mpr ⟨x, hx, NestedIs.inj _ _ _ hi hk⟩)
  have nostr : ∀ z t, key = .str z t → es.findIdx? (fun e => e.key.isStr z) = none := fun z t e => by
    rw [Array.findIdx?_eq_none_iff]
    intro e2 h2
    obtain ⟨x, hx, rfl⟩ := hmem e2 h2
    cases c : (oEntry w x).key.isStr z with
    | false => rfl
    | true =>
      have hi := (his x hx).1
      have c : x.2.1.isStr z = true := c
      obtain ⟨u, hu2⟩ : ∃ u, x.2.1 = Value.str z u := by
        cases q : x.2.1 with
        | str y u => rw [q] at c; exact ⟨u, by rw [eq_of_beq (show (y == z) = true from c)]⟩
        | _ => rw [q] at c; exact absurd c Bool.false_ne_true
      rw [hu2] at hi
      rw [e] at hk
      have e1 : x.1 = .text z := nis_str hi
      have e3 : k = .text z := nis_str hk
      exact absurd (List.mem_map.mpr ⟨x, hx, e1.trans e3.symm⟩) hn
  unfold dictFind
  try with_reducible refine wpAny_holding ?_
  refine wpAny_bind (wpAny_dictEntries ho hd ?_)
  dsimp only
  cases key
  case str z t =>
    dsimp only
    refine wp_ite (fun c => ?_) (fun c => ?_)
    · unfold foundByValue
      rw [nostr _ _ rfl]
      exact wpAny_pure h
    · refine wp_ite (fun c => ?_) (fun c => ?_)
      · unfold dictWalkPlain
        refine wpAny_bind (wpAny_forIn_list _ (fun rest r s' => s' = s ∧ r = (none, ())) _ ?_ ?_ _ _ ⟨rfl, rfl⟩)
        · rintro i rest r s' ⟨rfl, rfl⟩
          cases c : es[i]? with
          | none => exact wpAny_pure ⟨rfl, rfl⟩
          | some e =>
            obtain ⟨x, hx, rfl⟩ := hmem e (Array.mem_of_getElem? c)
            refine wp_ite (fun hh => ?_) (fun hh => wpAny_pure ⟨rfl, rfl⟩)
            refine wpAny_bind (wpAny_dictEpoch ho hd (wpAny_bind (eqf x hx P w _ _ (wpAny_bind (wpAny_dictEpoch ho hd ?_)))))
            refine wp_ite (fun z => by simp at z) (fun _ => ?_)
            exact wpAny_bind (wpAny_rule (wpAny_pure ⟨rfl, rfl⟩))
        · rintro r s' ⟨rfl, rfl⟩
          exact wpAny_pure h
      · refine wp_ite (fun c => wpAny_bind (wpAny_pure ?_)) (fun c => wpAny_bind (tells_not hk hd8 hst ?_))
        all_goals (
          refine wp_ite (fun z => by simp at z) (fun _ => ?_)
          refine wpAny_bind (wpAny_forIn_list _ (fun rest r s' => s' = s ∧ r = (none, none)) _ ?_ ?_ _ _ ⟨rfl, rfl⟩)
          · rintro i rest r s' ⟨rfl, rfl⟩
            cases c : es[i]? with
            | none => exact wpAny_pure ⟨rfl, rfl⟩
            | some e =>
              obtain ⟨x, hx, rfl⟩ := hmem e (Array.mem_of_getElem? c)
              refine wp_ite (fun hh => ?_) (fun hh => wpAny_pure ⟨rfl, rfl⟩)
              refine wpAny_bind (wpAny_dictEpoch ho hd (wpAny_bind (eqf x hx P w _ _ (wpAny_bind (wpAny_dictEpoch ho hd ?_)))))
              refine wp_ite (fun z => by simp at z) (fun _ => ?_)
              refine wpAny_bind (wpAny_rule ?_)
              exact wp_ite (fun z => by simp at z) (fun _ => wpAny_pure ⟨rfl, rfl⟩)
          · rintro r s' ⟨rfl, rfl⟩
            exact wpAny_pure h)
  case ref a =>
    dsimp only
    refine wp_ite (fun c => by simp [carriedByValue] at c) (fun c => ?_)
    refine wp_ite (fun c => absurd c hany) (fun c => ?_)
    refine wp_ite (fun c => wpAny_bind (wpAny_pure ?_)) (fun c => wpAny_bind (tells_not hk hd8 hst ?_))
    all_goals (
      refine wp_ite (fun z => by simp at z) (fun _ => ?_)
      refine wpAny_bind (wpAny_forIn_list _ (fun rest r s' => s' = s ∧ r = (none, none)) _ ?_ ?_ _ _ ⟨rfl, rfl⟩)
      · rintro i rest r s' ⟨rfl, rfl⟩
        cases c : es[i]? with
        | none => exact wpAny_pure ⟨rfl, rfl⟩
        | some e =>
          obtain ⟨x, hx, rfl⟩ := hmem e (Array.mem_of_getElem? c)
          refine wp_ite (fun hh => ?_) (fun hh => wpAny_pure ⟨rfl, rfl⟩)
          refine wpAny_bind (wpAny_dictEpoch ho hd (wpAny_bind (eqf x hx P w _ _ (wpAny_bind (wpAny_dictEpoch ho hd ?_)))))
          refine wp_ite (fun z => by simp at z) (fun _ => ?_)
          refine wpAny_bind (wpAny_rule ?_)
          exact wp_ite (fun z => by simp at z) (fun _ => wpAny_pure ⟨rfl, rfl⟩)
      · rintro r s' ⟨rfl, rfl⟩
        exact wpAny_pure h)
  case none =>
    dsimp only
    refine wp_ite (fun c => ?_) (fun c => ?_)
    all_goals skip
    · unfold dictWalkPlain
      refine wpAny_bind (wpAny_forIn_list _ (fun rest r s' => s' = s ∧ r = (none, ())) _ ?_ ?_ _ _ ⟨rfl, rfl⟩)
      · rintro i rest r s' ⟨rfl, rfl⟩
        cases c : es[i]? with
        | none => exact wpAny_pure ⟨rfl, rfl⟩
        | some e =>
          obtain ⟨x, hx, rfl⟩ := hmem e (Array.mem_of_getElem? c)
          refine wp_ite (fun hh => ?_) (fun hh => wpAny_pure ⟨rfl, rfl⟩)
          refine wpAny_bind (wpAny_dictEpoch ho hd (wpAny_bind (eqf x hx P w _ _ (wpAny_bind (wpAny_dictEpoch ho hd ?_)))))
          refine wp_ite (fun z => by simp at z) (fun _ => ?_)
          exact wpAny_bind (wpAny_rule (wpAny_pure ⟨rfl, rfl⟩))
      · rintro r s' ⟨rfl, rfl⟩
        exact wpAny_pure h
    · refine wp_ite (fun c => wpAny_bind (wpAny_pure ?_)) (fun c => wpAny_bind (tells_not hk hd8 hst ?_))
      all_goals (
        refine wp_ite (fun z => by simp at z) (fun _ => ?_)
        refine wpAny_bind (wpAny_forIn_list _ (fun rest r s' => s' = s ∧ r = (none, none)) _ ?_ ?_ _ _ ⟨rfl, rfl⟩)
        · rintro i rest r s' ⟨rfl, rfl⟩
          cases c : es[i]? with
          | none => exact wpAny_pure ⟨rfl, rfl⟩
          | some e =>
            obtain ⟨x, hx, rfl⟩ := hmem e (Array.mem_of_getElem? c)
            refine wp_ite (fun hh => ?_) (fun hh => wpAny_pure ⟨rfl, rfl⟩)
            refine wpAny_bind (wpAny_dictEpoch ho hd (wpAny_bind (eqf x hx P w _ _ (wpAny_bind (wpAny_dictEpoch ho hd ?_)))))
            refine wp_ite (fun z => by simp at z) (fun _ => ?_)
            refine wpAny_bind (wpAny_rule ?_)
            exact wp_ite (fun z => by simp at z) (fun _ => wpAny_pure ⟨rfl, rfl⟩)
        · rintro r s' ⟨rfl, rfl⟩
          exact wpAny_pure h)
  case ellipsis => cases hk
  case notImplemented => cases hk
  case bool =>
    dsimp only
    refine wp_ite (fun c => ?_) (fun c => ?_)
    all_goals skip
    · unfold dictWalkPlain
      refine wpAny_bind (wpAny_forIn_list _ (fun rest r s' => s' = s ∧ r = (none, ())) _ ?_ ?_ _ _ ⟨rfl, rfl⟩)
      · rintro i rest r s' ⟨rfl, rfl⟩
        cases c : es[i]? with
        | none => exact wpAny_pure ⟨rfl, rfl⟩
        | some e =>
          obtain ⟨x, hx, rfl⟩ := hmem e (Array.mem_of_getElem? c)
          refine wp_ite (fun hh => ?_) (fun hh => wpAny_pure ⟨rfl, rfl⟩)
          refine wpAny_bind (wpAny_dictEpoch ho hd (wpAny_bind (eqf x hx P w _ _ (wpAny_bind (wpAny_dictEpoch ho hd ?_)))))
          refine wp_ite (fun z => by simp at z) (fun _ => ?_)
          exact wpAny_bind (wpAny_rule (wpAny_pure ⟨rfl, rfl⟩))
      · rintro r s' ⟨rfl, rfl⟩
        exact wpAny_pure h
    · refine wp_ite (fun c => wpAny_bind (wpAny_pure ?_)) (fun c => wpAny_bind (tells_not hk hd8 hst ?_))
      all_goals (
        refine wp_ite (fun z => by simp at z) (fun _ => ?_)
        refine wpAny_bind (wpAny_forIn_list _ (fun rest r s' => s' = s ∧ r = (none, none)) _ ?_ ?_ _ _ ⟨rfl, rfl⟩)
        · rintro i rest r s' ⟨rfl, rfl⟩
          cases c : es[i]? with
          | none => exact wpAny_pure ⟨rfl, rfl⟩
          | some e =>
            obtain ⟨x, hx, rfl⟩ := hmem e (Array.mem_of_getElem? c)
            refine wp_ite (fun hh => ?_) (fun hh => wpAny_pure ⟨rfl, rfl⟩)
            refine wpAny_bind (wpAny_dictEpoch ho hd (wpAny_bind (eqf x hx P w _ _ (wpAny_bind (wpAny_dictEpoch ho hd ?_)))))
            refine wp_ite (fun z => by simp at z) (fun _ => ?_)
            refine wpAny_bind (wpAny_rule ?_)
            exact wp_ite (fun z => by simp at z) (fun _ => wpAny_pure ⟨rfl, rfl⟩)
        · rintro r s' ⟨rfl, rfl⟩
          exact wpAny_pure h)
  case int =>
    dsimp only
    refine wp_ite (fun c => ?_) (fun c => ?_)
    all_goals skip
    · unfold dictWalkPlain
      refine wpAny_bind (wpAny_forIn_list _ (fun rest r s' => s' = s ∧ r = (none, ())) _ ?_ ?_ _ _ ⟨rfl, rfl⟩)
      · rintro i rest r s' ⟨rfl, rfl⟩
        cases c : es[i]? with
        | none => exact wpAny_pure ⟨rfl, rfl⟩
        | some e =>
          obtain ⟨x, hx, rfl⟩ := hmem e (Array.mem_of_getElem? c)
          refine wp_ite (fun hh => ?_) (fun hh => wpAny_pure ⟨rfl, rfl⟩)
          refine wpAny_bind (wpAny_dictEpoch ho hd (wpAny_bind (eqf x hx P w _ _ (wpAny_bind (wpAny_dictEpoch ho hd ?_)))))
          refine wp_ite (fun z => by simp at z) (fun _ => ?_)
          exact wpAny_bind (wpAny_rule (wpAny_pure ⟨rfl, rfl⟩))
      · rintro r s' ⟨rfl, rfl⟩
        exact wpAny_pure h
    · refine wp_ite (fun c => wpAny_bind (wpAny_pure ?_)) (fun c => wpAny_bind (tells_not hk hd8 hst ?_))
      all_goals (
        refine wp_ite (fun z => by simp at z) (fun _ => ?_)
        refine wpAny_bind (wpAny_forIn_list _ (fun rest r s' => s' = s ∧ r = (none, none)) _ ?_ ?_ _ _ ⟨rfl, rfl⟩)
        · rintro i rest r s' ⟨rfl, rfl⟩
          cases c : es[i]? with
          | none => exact wpAny_pure ⟨rfl, rfl⟩
          | some e =>
            obtain ⟨x, hx, rfl⟩ := hmem e (Array.mem_of_getElem? c)
            refine wp_ite (fun hh => ?_) (fun hh => wpAny_pure ⟨rfl, rfl⟩)
            refine wpAny_bind (wpAny_dictEpoch ho hd (wpAny_bind (eqf x hx P w _ _ (wpAny_bind (wpAny_dictEpoch ho hd ?_)))))
            refine wp_ite (fun z => by simp at z) (fun _ => ?_)
            refine wpAny_bind (wpAny_rule ?_)
            exact wp_ite (fun z => by simp at z) (fun _ => wpAny_pure ⟨rfl, rfl⟩)
        · rintro r s' ⟨rfl, rfl⟩
          exact wpAny_pure h)
  case float => cases hk
  case bytes => cases hk
  case type => cases hk
  case builtin => cases hk
/-- a dict whose table is xs -/
def OddH (w : World) (h : Heap) (d : Addr) (xs : List OEnt) : Prop := ∃ o es ep, h.get? d = some o ∧ o.ExactDict ∧ o.data = .dict es ep ∧ es.toList = xs.map (oEntry w)
theorem OddH.at {h h' : Heap} {d : Addr} {xs : List OEnt} (x : OddH w h d xs) (e : ∀ o, h.get? d = some o → h'.get? d = some o) : OddH w h' d xs := let ⟨o, es, ep, ho, r⟩ := x; ⟨o, es, ep, e o ho, r⟩
theorem NestedIs.kept {h h' : Heap} {d : Addr} {o : Obj} {es : Array DictEntry} {ep : Nat} {k : NestedKey} {v : Value} (x : NestedIs h k v) (ho : h.get? d = some o) (hd : o.data = .dict es ep) (e : ∀ b u, b ≠ d → h.get? b = some u → h'.get? b = some u) : NestedIs h' k v :=
  NestedIs.at (fun a u vs n hu hq => e a u (fun z => by rw [z, ho] at hu; cases hu; rw [hd] at hq; cases hq) hu) k v x
theorem set_new {d : Addr} {xs : List OEnt} {k : NestedKey} {key v : Value} {Q : Unit → Shared → Prop} (hu : A.units + 8 < cLine) (hm : OddH w s.heap d xs) (hk : NestedIs s.heap k key) (hd8 : k.depth ≤ 8) (his : ∀ x ∈ xs, NestedIs s.heap x.1 x.2.1 ∧ x.1.depth ≤ 8) (hn : k ∉ xs.map (·.1)) (hz : xs.length ≤ 1000)
    (hQ : ∀ h' tk, OddH w h' d (xs ++ [(k, key, v)]) → Heap.SameBut d s.heap h' → Q () { s with heap := h', toks := tk }) : wpAny (model P w) A (dictSet d key v) Q E s := by
  obtain ⟨o, es, ep, ho, hc, hd, he⟩ := hm
  have hsz : es.size = xs.length := by rw [← Array.length_toList, he, List.length_map]
  unfold dictSet
  try with_reducible refine wpAny_holding ?_
  refine wpAny_bind (pyHash_key k key A s _ hk (by omega) ?_)
  unfold dictSetHashed
  try with_reducible refine wpAny_holding ?_
  refine wpAny_bind (find_new (s := { s with toks := s.toks + k.draws }) hu hk hd8 ho hd he his hn ?_)
  refine wpAny_bind (wpAny_rule (wpAny_updateDictKeys (hz := by rw [hsz]; exact small_sz hz) (s := { s with toks := s.toks + k.draws }) ho hd (hQ _ _ ⟨_, _, ep + 1, Heap.get?_update_self _ ho (Obj.isFreed_of_dict (Obj.data_mapDictKeys hd _)), hc.mapDictKeys _, Obj.data_mapDictKeys hd _, ?_⟩ (Heap.SameBut.update ..))))
  simp [he, oEntry]
theorem call_dict_odd {a : Addr} {items : Array Value} {Ts : Nat → Addr} {xs : List OEnt} {Q : Value → Shared → Prop} (hu : A.in1.in1.units + 8 < cLine) (hh : A.in1.handled = none) (ok : PlainSeq "list" s.heap a items ∧ PairItems s.heap items Ts (xs.map (·.2)))
    (hk : ∀ x ∈ xs, NestedIs s.heap x.1 x.2.1 ∧ x.1.depth ≤ 8) (nd : (xs.map (·.1)).Nodup) (hl : xs.length ≤ 1000)
    (h : ∀ h' tk, OddH w h' s.heap.objs.size xs → (∀ b o, s.heap.get? b = some o → h'.get? b = some o) → Q (.ref s.heap.objs.size) { s with heap := h', toks := tk }) : wpAny (model P w) A (call (.type "dict") [.ref a]) Q E s := by
  refine call_dict_arg (PairArg.list a items Ts (xs.map (·.2))) ok fun s1 hs1 hdf ok1 => ?_
  subst hs1
  refine updateFrom_arg (Tab := fun i h => OddH w h s.heap.objs.size (xs.take i) ∧ ∀ b o, b ≠ s.heap.objs.size → s.heap.get? b = some o → h.get? b = some o) (PairArg.list a items Ts (xs.map (·.2))) .none hh ok1 hdf ⟨?_, fun b o _ e => Heap.get?_push_of_some _ e⟩ (fun i h tb => ?_) (fun i h h' wr' hd hw tb hk' => ?_) ?_ ?_
  · exact ⟨_, #[], _, Heap.get?_push_size _ rfl, ⟨rfl, rfl, rfl⟩, rfl, rfl⟩
  · obtain ⟨⟨o, es, ep, ho, _⟩, _⟩ := tb
    exact Heap.lt_size ho
  · refine ⟨tb.1.at fun o e => hk' _ o hd e, fun b o n e => hk' b o (fun hm => ?_) (tb.2 b o n e)⟩
    rcases hw b hm with q | q
    · cases q
    · rw [Heap.get?_push_of_some _ e] at q; cases q
  · intro i k v s' Q' E' hi hrel tb _ hQ
    have hi2 : xs[i]? = some (xs[i]'(by rw [List.length_map] at hi; exact hi)) := List.getElem?_eq_getElem _
    have ex : (xs.map (·.2))[i]? = some (k, v) := hrel
    rw [List.getElem?_map, hi2] at ex
    generalize xs[i]'(by rw [List.length_map] at hi; exact hi) = x at hi2 ex
    have ex : x.2 = (k, v) := Option.some.inj ex
    obtain ⟨nk, k0, v0⟩ := x
    cases ex
    have xm : (nk, k, v) ∈ xs := List.mem_of_getElem? hi2
    obtain ⟨o, es, ep, ho, hc, hd, he⟩ := id tb.1
    have up : ∀ x ∈ xs, NestedIs s'.heap x.1 x.2.1 ∧ x.1.depth ≤ 8 := fun x hx => ⟨NestedIs.at (fun b u vs n e hq => tb.2 b u (Nat.ne_of_lt (Heap.lt_size e)) e) _ _ (hk x hx).1, (hk x hx).2⟩
    refine set_new hu tb.1 (up _ xm).1 (up _ xm).2 (fun x hx => up x (List.mem_of_mem_take hx)) (fun hm => ?_) (by rw [List.length_take]; omega) fun h' tk hm sb => ?_
    · have e := notin_take (l := xs.map (·.1)) nd (i := i) (x := nk) (by rw [List.getElem?_map, hi2]; rfl)
      rw [← List.map_take] at e
      exact e hm
    · refine hQ h' tk ⟨?_, fun b o n e => sb.extBut b o n (tb.2 b o n e)⟩ sb
      rw [List.take_add_one, hi2]
      exact hm
  · intro h' tk tb hk'
    have e : xs.take (xs.map (·.2)).length = xs := by rw [List.length_map, List.take_length]
    rw [e] at tb
    exact ⟨rfl, h h' tk tb.1 fun b o z => tb.2 b o (Nat.ne_of_lt (Heap.lt_size z)) z⟩
end
end EE

/-! Own layer: raise X() of an own class without own __init__; isinstance of such when caught; dicts with odd keys in the heap. -/
namespace EE
open PySem PySem.Spec PyProof.Rows L2
section
variable {X : Cx}
/-- X(), X an own exception class without own __init__ -/
theorem pmk_own0 {x : Str} {C : Addr} {bmB : List Value} {B newId initId : String} {p pos : Pos} (F : ExcBaseFacts B newId initId bmB) (q : PySem.W.excIn X.K C bmB newId = true) (gC : X.mg x = some (.ref C)) (kC : PySem.W.keepIn X.K (.ref C) = true) (r : Raises X (.ref C)) (hg : Gl X x) (hdb : (x == ("__debug__" : Str)) = false := by decide) :
    PMk X (.Call (.Name x p) [] [] pos) (fun σ H Q => Q (.ref C) none H) := by
  intro pins s σ H Q I h
  refine wpAny_Call_Name_kw (ld_glob I hg gC (PySem.W.callWith_K0 I.kIn kC ?_) hdb)
  obtain ⟨bm, N, nm, qn, bs, hdct, sn, sub, ab, col, dd, k0, k1, k2, k3, k5, mN, hC, hN, hni, T⟩ := exc_obj I.kIn q
  refine wpAny_call_exc_subT F T hC hN hni (fun h' e hm => ?_) (Nat.zero_le _)
  exact mk_of I hm r h (I.hok.gone hm.new)
/-- a caught exception without fields -/
def ExW0 (H : Hp) (C : Addr) (v : V) : Prop := ∃ a : Addr, v = .ref a ∧ H a = some (exw a (.ref C) none)
theorem ExW0.keep {H H' : Hp} {C : Addr} {v : V} (h : ExW0 H C v) (s : Same H H') : ExW0 H' C v := let ⟨a, e, e1⟩ := h; ⟨a, e, s _ _ e1⟩
def rIsW0 (K : PySem.W.Frag) : List V → Hp → VK → Prop := fun xs H Q => ∃ (x c : V) (C : Addr) (cv : Value) (b : Bool), xs = [x, c] ∧ ExW0 H C x ∧ ClsV c cv ∧ ExK K C ∧ PySem.W.kitOne K (.ref C) cv = some b ∧ Q (.bl b) H
theorem call_isW0 : CallR X (.builtin "isinstance") (rIsW0 X.K) := by
  intro pins s σ H xs us Q I r h
  obtain ⟨x, c, C, cv, b, rfl, ⟨a, rfl, e1⟩, k, T, e, q⟩ := h
  obtain ⟨u1, u2, rfl, r1, r2⟩ := vals2 r
  obtain rfl : u1 = Value.ref a := r1
  have e2 := k.eq r2
  subst e2
  obtain ⟨o, vs, ho, hc, hd, hv⟩ := exw_at I.hok e1
  obtain ⟨cd, hcd, _⟩ := PySem.W.any_some T.xf.hdC
  have J : PySem.W.InstAt s.heap a o C none := ⟨ho, hc, by unfold PySem.W.notCls; rw [hv], by rw [hd]; trivial⟩
  exact PySem.W.kia_one (PySem.W.kitx_exc (by rw [hcd]; rfl) T.xf.ga T.xf.gg T.xf.exC T.ha T.hn T.ht T.hm) I.kIn J e (fun z => nomatch z) fun tk => ⟨.bl b, H, I.tok tk, rfl, q⟩
end
theorem isw0_at {K : PySem.W.Frag} {H : Hp} {Q : VK} {C D : Addr} {x : V} {b : Bool} (h : ExW0 H C x) (T : ExK K C) (e : PySem.W.kitOne K (.ref C) (.ref D) = some b) (q : Q (.bl b) H) : rIsW0 K [x, .ref D] H Q := ⟨x, .ref D, C, .ref D, b, rfl, h, .own D, T, e, q⟩
theorem isw0_ty {K : PySem.W.Frag} {H : Hp} {Q : VK} {C : Addr} {n : String} {x : V} {b : Bool} (h : ExW0 H C x) (T : ExK K C) (e : PySem.W.kitOne K (.ref C) (.type n) = some b) (q : Q (.bl b) H) : rIsW0 K [x, .ty n] H Q := ⟨x, .ty n, C, .type n, b, rfl, h, .ty n, T, e, q⟩
/-! ### a dict with odd keys: its keys told -/
def OddK (H : Hp) (a : Addr) (vs : List V) : Prop := ∃ (o : Obj) (es : Array DictEntry) (ep : Nat), H a = some (.frz o (.own a)) ∧ o.ExactDict ∧ o.data = .dict es ep ∧ vs.length ≤ 1000 ∧ (a == sysModules) = false ∧ Vals vs (es.toList.map (·.key))
theorem OddK.keep {H H' : Hp} {a : Addr} {vs : List V} (h : OddK H a vs) (s : Same H H') : OddK H' a vs := let ⟨o, es, ep, e, r⟩ := h; ⟨o, es, ep, s _ _ e, r⟩
theorem OddK.ext {H H' : Hp} {a : Addr} {vs : List V} (h : OddK H a vs) (s : LamX.ExtN H H') : OddK H' a vs := let ⟨o, es, ep, e, r⟩ := h; ⟨o, es, ep, s _ _ e (fun _ z => by cases z), r⟩
theorem OddK.but {H H' : Hp} {a p : Addr} {vs : List V} (h : OddK H a vs) (s : But p H H') (n : a ≠ p) : OddK H' a vs := let ⟨o, es, ep, e, r⟩ := h; ⟨o, es, ep, s _ _ n e, r⟩
/-- isinstance(x, dict), x such a dict -/
def rIsiO (K : PySem.W.Frag) : List V → Hp → VK → Prop := fun xs H Q => rIsi K xs H Q ∨ ∃ (a : Addr) (vs : List V), xs = [.ref a, .ty "dict"] ∧ OddK H a vs ∧ Q (.bl true) H
theorem call_isiO {X : Cx} : CallR X (.builtin "isinstance") (rIsiO X.K) := by
  intro pins s σ H xs us Q I r h
  rcases h with h | ⟨a, vs, rfl, ⟨o, es, ep, e, ex, ed, _⟩, q⟩
  · exact call_isi pins s σ H xs us Q I r h
  · obtain ⟨u1, u2, rfl, r1, r2⟩ := vals2 r
    obtain rfl : u1 = Value.ref a := r1
    obtain rfl : u2 = Value.type "dict" := r2
    obtain ⟨ho, _⟩ := (show ObjOk X.prog X.w H s.heap a (.frz o (.own a)) from I.hok a _ e)
    exact PySem.W.kia_one PySem.W.kitx_dict I.kIn ⟨o, ho, ex.1⟩ (kit_ty (by decide +kernel)) (fun z => nomatch z) fun tk => ⟨.bl true, H, I.tok tk, rfl, q⟩
/-- list(x) -/
def rListDO : List V → Hp → VK → Prop := fun xs H Q => rListD xs H Q ∨ ∃ (a : Addr) (vs : List V), xs = [.ref a] ∧ OddK H a vs ∧ ∀ p, H p = none → Q (.ref p) (upd H p (.lst vs))
theorem cr_listDO {X : Cx} (hc : X.calm = true) : CallR X (.type "list") rListDO := by
  intro pins s σ H xs us Q I r h
  rcases h with h | ⟨a, vs, rfl, ⟨o, es, ep, e, ex, ed, hl, lo, rv⟩, q⟩
  · exact cr_listD hc pins s σ H xs us Q I r h
  · obtain ⟨u, rfl, hu⟩ := vals1 r
    obtain rfl : u = Value.ref a := hu
    obtain ⟨ho, _⟩ := (show ObjOk X.prog X.w H s.heap a (.frz o (.own a)) from I.hok a _ e)
    have ln : es.size = vs.length := by rw [rv.length, List.length_map, Array.length_toList]
    have big : (1000 : Nat) ≤ sizeLine := by decide
    refine PySem.W.kdl_call (KdlSrc.rawDict (es := es) (ep := ep) lo) (I.ok.hd hc) ⟨o, ho, ex, ed⟩ (by omega) fun h' tk acc c' hk hD hacc => ?_
    have ea : acc.toList = es.toList.map (·.key) := by
      refine List.ext_getElem? fun j => ?_
      rw [List.getElem?_map, Array.getElem?_toList, Array.getElem?_toList]
      by_cases c : j < acc.size
      · obtain ⟨hi, e1⟩ := hacc.2 j acc[j] (Array.getElem?_eq_getElem c)
        rw [Array.getElem?_eq_getElem c, Array.getElem?_eq_getElem hi, e1]; rfl
      · rw [Array.getElem?_eq_none (by omega), Array.getElem?_eq_none (by rw [← hacc.1]; omega)]; rfl
    refine ⟨.ref s.heap.objs.size, upd H s.heap.objs.size (.lst vs), I.laid (t' := tk) hk (Nat.le_refl _) (show ObjOk X.prog X.w _ _ _ (.lst vs) from ⟨by omega, acc.toList, c', by rw [ea]; exact rv, by rw [Array.toArray_toList]; exact hD⟩), rfl, q _ (I.hok.fresh (Nat.le_refl _))⟩
/-- a value as a key, deep one tuple at most -/
def nk0 : V → Option NestedKey | .non => some .none | .bl b => some (.num (if b = true then 1 else 0)) | .int i => some (.num i) | .str z => some (.text z) | _ => none
def NkV (H : Hp) (k : NestedKey) (v : V) : Prop := nk0 v = some k ∨ ∃ (a : Addr) (vs : List V) (ks : List NestedKey), v = .ref a ∧ H a = some (.tup vs) ∧ k = .tup ks ∧ vs.map nk0 = ks.map some
theorem nk0_is {h : Heap} {v : V} {u : Value} {k : NestedKey} (e : nk0 v = some k) (r : RelV v u) : NestedIs h k u ∧ k.depth = 0 := by
  cases v with
  | non => cases e; cases (show u = Value.none from r); exact ⟨.none, rfl⟩
  | bl b => cases e; cases (show u = Value.bool b from r); exact ⟨.bool rfl, rfl⟩
  | int i => cases e; obtain ⟨t, rfl⟩ := (show ∃ t, u = Value.int i t from r); exact ⟨.int i t, rfl⟩
  | str z => cases e; obtain ⟨t, rfl⟩ := (show ∃ t, u = Value.str z t from r); exact ⟨.text z t, rfl⟩
  | _ => cases e
theorem nk0_all {h : Heap} : ∀ {vs : List V} {us : List Value} {ks : List NestedKey}, vs.map nk0 = ks.map some → Vals vs us → NestedAll h ks us ∧ NestedKey.depthAll ks = 0
  | [], _, [], _, .nil => ⟨.nil, rfl⟩
  | [], _, _ :: _, e, _ => by cases e
  | _ :: _, _, [], e, _ => by cases e
  | v :: vs, _, k :: ks, e, .cons r t => by
    rw [List.map_cons, List.map_cons] at e
    injection e with e1 e2
    obtain ⟨a1, a2⟩ := nk0_is (h := h) e1 r
    obtain ⟨b1, b2⟩ := nk0_all (h := h) e2 t
    exact ⟨.cons a1 b1, by show max k.depth _ = 0; rw [a2, b2]; rfl⟩
section
variable {X : Cx} {pins : List (Addr × Obj)} {σ : L2.St} {H : Hp} {s : Shared}
theorem NkV.is {k : NestedKey} {v : V} {u : Value} (I : Inv X pins σ H s) (h : NkV H k v) (r : RelV v u) : NestedIs s.heap k u ∧ k.depth ≤ 8 := by
  rcases h with e | ⟨a, vs, ks, rfl, ha, rfl, e⟩
  · obtain ⟨a1, a2⟩ := nk0_is (h := s.heap) e r
    exact ⟨a1, by omega⟩
  · obtain rfl : u = Value.ref a := r
    obtain ⟨_, its, rv, o, h1, h2, n, h3⟩ := (show ObjOk X.prog X.w H s.heap a (.tup vs) from I.hok a _ ha)
    obtain ⟨b1, b2⟩ := nk0_all (h := s.heap) e rv
    exact ⟨.tup h1 h2 h3 (by simpa using b1), by show NestedKey.depthAll ks + 1 ≤ 8; omega⟩
/-- dict(pairs): of texts and ints as keys, or with unlike odd keys -/
def rDictPO (K : PySem.W.Frag) : LR := fun xs H Q => rDictP K xs H Q ∨ ∃ (a : Addr) (ps : List Addr) (kvs : List (NestedKey × V × V)), xs = [.ref a] ∧ SqL K H a (ps.map V.ref) ∧ Paired (fun p kv => SqT K H p [kv.2.1, kv.2.2]) ps kvs ∧ (∀ kv ∈ kvs, NkV H kv.1 kv.2.1) ∧ (kvs.map (·.1)).Nodup ∧ kvs.length ≤ 1000 ∧
  ∀ p H', H p = none → Same H H' → OddK H' p (kvs.map (·.2.1)) → Q (.ref p) H'
theorem pairs_odd (I : Inv X pins σ H s) : ∀ {ps : List Addr} {kvs : List (NestedKey × V × V)}, Paired (fun p kv => SqT X.K H p [kv.2.1, kv.2.2]) ps kvs → (∀ kv ∈ kvs, NkV H kv.1 kv.2.1) →
    ∃ xs : List OEnt, xs.map (·.1) = kvs.map (·.1) ∧ Vals (kvs.map (·.2.1)) (xs.map (·.2.1)) ∧ (∀ x ∈ xs, NestedIs s.heap x.1 x.2.1 ∧ x.1.depth ≤ 8) ∧ xs.length = ps.length ∧ ∀ (j : Nat) (k v : Value), (xs.map (·.2))[j]? = some (k, v) → ∃ b : Addr, ps[j]? = some b ∧ IsTup s.heap b #[k, v]
  | _, _, .nil, _ => ⟨[], rfl, .nil, (fun _ z => nomatch z), rfl, fun j k v e => by simp at e⟩
  | _, _, .cons (a := p) (b := kv) h t, hk => by
    obtain ⟨xs, r1, r2, r3, r4, r5⟩ := pairs_odd I t fun x hx => hk x (List.mem_cons_of_mem _ hx)
    obtain ⟨its, rv, ht, _⟩ := I.tuple h
    obtain ⟨u, y, ei, ru, ry⟩ := vals2 rv
    subst ei
    refine ⟨(kv.1, u, y) :: xs, by rw [List.map_cons, List.map_cons, r1], .cons ru r2, fun x hx => ?_, by rw [List.length_cons, List.length_cons, r4], fun j k v e => ?_⟩
    · rcases List.mem_cons.mp hx with rfl | hx
      · exact (hk kv List.mem_cons_self).is I ru
      · exact r3 x hx
    · cases j with
      | zero =>
        have e' : (u, y) = (k, v) := Option.some.inj e
        cases e'
        exact ⟨p, rfl, ht⟩
      | succ j =>
        obtain ⟨b, e1, e2⟩ := r5 j k v (by simpa using e)
        exact ⟨b, by simpa using e1, e2⟩
end
theorem cr_dictPO {X : Cx} (hc : X.calm = true) (hu : X.A.units + 64 < cLine) : CallR X (.type "dict") (rDictPO X.K) := by
  intro pins s σ H xs us Q I r h
  rcases h with h | ⟨a, ps, kvs, rfl, ha, hp, hk, nd, hl, q⟩
  · exact cr_dictP hc pins s σ H xs us Q I r h
  · obtain ⟨u, rfl, hu'⟩ := vals1 r
    obtain rfl : u = Value.ref a := hu'
    obtain ⟨its, rv, pl, hz⟩ := I.list ha
    have ei := refs_at rv
    subst ei
    obtain ⟨xs, r1, r2, r3, r4, r5⟩ := pairs_odd I hp hk
    obtain ⟨o, n, ho, hcl, hd, hdat⟩ := pl
    have lk : xs.length = kvs.length := by have := congrArg List.length r1; rwa [List.length_map, List.length_map] at this
    refine call_dict_odd (a := a) (items := (ps.map Value.ref).toArray) (Ts := fun j => ps.getD j 0) (xs := xs) (show X.A.units + 1 + 1 + 8 < cLine by omega) (I.ok.hd hc) ⟨⟨o, n, ho, hcl, hd, hdat⟩, by simp [r4], fun j k v e => ?_⟩ r3 (by rw [r1]; exact nd) (by omega) fun h' tk hm hk' => ?_
    · obtain ⟨b, e1, o2, h1, h2, n2, h3⟩ := r5 j k v e
      refine ⟨by simp [e1, List.getD], ?_⟩
      simp only [List.getD, e1, Option.getD_some]
      exact .inl ⟨o2, h1, h2, n2, h3⟩
    · obtain ⟨od, es, ep, eo, ex, ed, ee⟩ := hm
      have fr := I.hok.fresh (Nat.le_refl s.heap.objs.size)
      have lo : (s.heap.objs.size == sysModules) = false := beq_eq_false_iff_ne.mpr (Nat.ne_of_gt I.big)
      refine ⟨.ref s.heap.objs.size, upd H s.heap.objs.size (.frz od (.own s.heap.objs.size)), I.laid (t' := tk) hk' (Nat.le_refl _) (show ObjOk X.prog X.w _ _ _ (.frz od (.own _)) from ⟨eo, _, eo⟩), rfl, q _ _ fr (same_new fr) ⟨od, es, ep, upd_same, ex, ed, by rw [List.length_map]; exact hl, lo, ?_⟩⟩
      rw [ee, List.map_map]
      exact r2
end EE

/-! Own layer: list(d.items()); own == and != with any value; repr of own objects; != of data in a comprehension. -/
namespace EE
open PySem PySem.Spec PyProof.Rows L2
section
variable {K : PySem.W.Frag} {σ : L2.St} {H : Hp} {Q : VK} {te : TE}
instance go_listItems : Go (LiI.tListItems te σ H Q) (te σ H fun x H1 => LiI.rItemsL x H1 Q) := ⟨fun h => h⟩
theorem rd_itemsL {d : Addr} {kvs : List (Key × V)} (h : H d = some (.dK kvs)) (q : ∀ (H' : Hp) (p : Addr) (ts : List Addr), Same H H' → H p = none → (∀ t ∈ ts, H t = none) → p ∉ ts → H' p = some (.lst (ts.map V.ref)) → Paired (fun (t : Addr) (q : Key × V) => H' t = some (.tup [kV q.1, q.2])) ts kvs → Q (.ref p) H') : LiI.rItemsL (.ref d) H Q := ⟨d, kvs, rfl, h, q⟩
end
theorem Paired.rev {α β : Type} {F : α → β → Prop} {xs : List α} {ys : List β} (h : Paired F xs ys) : Paired F xs.reverse ys.reverse := by
  have app : ∀ {xs1 : List α} {ys1 : List β} {xs2 : List α} {ys2 : List β}, Paired F xs1 ys1 → Paired F xs2 ys2 → Paired F (xs1 ++ xs2) (ys1 ++ ys2) := fun {xs1 ys1 xs2 ys2} h1 h2 => by
    induction h1 with
    | nil => exact h2
    | cons r _ ih => exact .cons r ih
  induction h with
  | nil => exact .nil
  | cons r _ ih => rw [List.reverse_cons, List.reverse_cons]; exact app ih (.cons r .nil)
theorem Paired.app {α β : Type} {F : α → β → Prop} {xs1 : List α} {ys1 : List β} {xs2 : List α} {ys2 : List β} (h1 : Paired F xs1 ys1) (h2 : Paired F xs2 ys2) : Paired F (xs1 ++ xs2) (ys1 ++ ys2) := by
  induction h1 with
  | nil => exact h2
  | cons r _ ih => exact .cons r ih
theorem Paired.imp2 {α β : Type} {F G : α → β → Prop} {xs : List α} {ys : List β} (h : Paired F xs ys) (f : ∀ a b, F a b → G a b) : Paired G xs ys := L2.Paired.mapP h f
/-- a value's kind -/
inductive FoX (H : Hp) : V → Value → Prop where
  | t {v : V} {t : Value} (h : FoT H v t) : FoX H v t
  | lst {a : Addr} {xs : List V} (h : H a = some (.lst xs)) : FoX H (.ref a) (.type "list")
  | tup {a : Addr} {xs : List V} (h : H a = some (.tup xs)) : FoX H (.ref a) (.type "tuple")
  | dK {a : Addr} {kvs : List (Key × V)} (h : H a = some (.dK kvs)) : FoX H (.ref a) (.type "dict")
open PySem.W in
theorem foX_looks {X : Cx} {pins : List (Addr × Obj)} {σ : L2.St} {H : Hp} {s : Shared} {y : V} {u tb : Value} (I : Inv X pins σ H s) (h : FoX H y tb) (r : RelV y u) (M : Model) : Looks M s.heap (typeOf u) tb := by
  cases h with
  | t h => exact foT_looks I h r M
  | @lst a xs h =>
    obtain rfl : u = Value.ref a := r
    obtain ⟨_, its, n, _, e⟩ := (show ObjOk X.prog X.w H s.heap a (.lst xs) from I.hok a _ h)
    exact fun A Q E s k q => wpAny_typeOf_ref (k _ _ e) q
  | @tup a xs h =>
    obtain rfl : u = Value.ref a := r
    obtain ⟨_, its, _, o, e, c, _⟩ := (show ObjOk X.prog X.w H s.heap a (.tup xs) from I.hok a _ h)
    exact fun A Q E s k q => wpAny_typeOf_ref (k _ _ e) (by rw [c]; exact q)
  | @dK a kvs h =>
    obtain rfl : u = Value.ref a := r
    obtain ⟨_, _, vs, _, o, es, ep, e, ex, _⟩ := (show ObjOk X.prog X.w H s.heap a (.dK kvs) from I.hok a _ h)
    exact fun A Q E s k q => wpAny_typeOf_ref (k _ _ e) (by rw [ex.1]; exact q)
section
open PySem.W
variable {X : Cx} {k : Nat} {C f : Addr} {sp : Sp}
def rEqX (K : PySem.W.Frag) (C : Addr) (sp : Sp) (E : XK) : R2 := fun x y H Q => (∃ tb, FoX H y tb ∧ notFirst K C tb = true) ∧ rOp C sp E x y H Q
def rNeX (K : PySem.W.Frag) (C : Addr) (sp : Sp) (E : XK) : R2 := fun x y H Q => (∃ tb, FoX H y tb ∧ notFirst K C tb = true) ∧ IsI C x H ∧ sp [x, y] H (fun r H' => ∃ b, r = .bl b ∧ Q (.bl (!b)) H') E
theorem or_eqX {K : PySem.W.Frag} (hK : X.K = K) (O : OpF X.prog X.w X.K X.mg X.base k C "__eq__" sp f) (hr : Room k X.A) {E : XK} (hx : Passes CX0 X E) : OpR X (compareOp .Eq) (rEqX K C sp E) := by
  subst hK
  intro pins s σ H x y v u Q I rx ry ⟨⟨tb, hy, hn⟩, hi, h⟩
  obtain ⟨a, ox, od, rfl, rfl, J⟩ := isI_at I rx hi
  obtain ⟨m, hF⟩ := I.fr
  refine cmp_K (op := .Eq) (tb := tb) hr.units0 hF I.ok.mod.kin J (foX_looks I hy ry _) hn O.s O.n ?_
  exact wpAny_mono (run2 O.F hr hx I (x := .ref a) (y := y) rfl ry h) (fun z s' ⟨w, H', I', r, q⟩ => cmpBack_rel (Q := EP X pins σ Q) r ⟨w, H', I', r, q⟩) fun _ _ z => z
theorem or_neX {K : PySem.W.Frag} (hK : X.K = K) (N : NeF X.K C) (O : OpF X.prog X.w X.K X.mg X.base k C "__eq__" sp f) (hr : Room (k + 1) X.A) {E : XK} (hx : Passes CX0 X E) : OpR X (compareOp .NotEq) (rNeX K C sp E) := by
  subst hK
  intro pins s σ H x y v u Q I rx ry ⟨⟨tb, hy, hn⟩, hi, h⟩
  obtain ⟨a, ox, od, rfl, rfl, J⟩ := isI_at I rx hi
  refine ne_own hr.units0 hr.in1.units0 I.kIn J (foX_looks I hy ry _) hn N.n N.o O.s O.n ?_
  refine thn (run_in1 O.F hr hx I (vs := [.ref a, y]) (.cons rfl (.cons ry .nil)) h) fun z s' ⟨w, H', I', r, c, e, q⟩ => ?_
  subst e
  obtain rfl : z = Value.bool c := r
  exact ⟨c, rfl, .bl (!c), H', I', rfl, q⟩
def rReprO (C : Addr) (sp : Sp) (E : XK) : LR := fun vs H Q => ∃ x, vs = [x] ∧ IsI C x H ∧ sp [x] H (fun r H' => ∃ z : Str, r = .str z ∧ Q (.str z) H') E
theorem cr_reprO (O : OpF X.prog X.w X.K X.mg X.base k C "__repr__" sp f) (hr : Room (k + 1) X.A) {E : XK} (hx : Passes CX0 X E) : CallR X (.builtin "repr") (rReprO C sp E) := call_reprO O.F hr hx O.s O.n
theorem rd_reprO {E : XK} {H : Hp} {Q : VK} {a : Addr} (h : ∃ dx fs, H a = some (.ins C dx fs)) (q : sp [.ref a] H (fun r H' => ∃ z : Str, r = .str z ∧ Q (.str z) H') E) : rReprO C sp E [.ref a] H Q := ⟨_, rfl, let ⟨dx, fs, e⟩ := h; ⟨a, dx, fs, rfl, e⟩, q⟩
theorem or_neDK {K : PySem.W.Frag} (hK : X.K = K) (hu : X.A.units + 64 < cLine) : OpR X (compareOp .NotEq) (rNeD K) := hK ▸ op_neD hu
theorem or_eqDK {K : PySem.W.Frag} (hK : X.K = K) (hu : X.A.units + 64 < cLine) : OpR X (compareOp .Eq) (rEqD K) := hK ▸ op_eqD hu
end
theorem ix_tupK {X : Cx} {K : PySem.W.Frag} (hK : X.K = K) : IxR X (rIxT K) := hK ▸ ix_tup
theorem rd_neBl {a b : Bool} {H : Hp} {Q : VK} (q : Q (.bl (!decide (a = b))) H) : rNe (.bl a) (.bl b) H Q := ⟨rfl, by
  have e : decide (V.bl a = V.bl b) = decide (a = b) := by simp
  rw [e]; exact q⟩
end EE

/-! Own layer: a promise at places where nothing is being shown, of a def whose code's address is known (its lambdas have a table). -/
namespace EE
open PySem PySem.Spec PyProof.Rows L2
section
variable {P : Program} {w : World} {K : PySem.W.Frag} {mg : Str → Option Value} {base : Heap}
theorem fn_ofG {k : Nat} {f : Addr} {name qual : Str} {params : Arguments} {body : List Stmt} {scope : Scope} {dV kV doc pm cdv ct oc : Value} {an od : Option Addr}
    {osl : Array (Option Value)} {N ps : List Str} {sp : Sp} (lk : K.lookup f = some ⟨oc, od, .func (PySem.W.fnOf name qual params body scope dV kV doc pm an cdv ct), osl⟩) (hcd : PySem.W.codeIn K cdv qual = true) (S : FnScope N ps scope)
    (many : ∀ vs H Q E, sp vs H Q E → vs.length = ps.length)
    (hb : ∀ (A : Around) (out : List Env) (sh : Shared) (H : Hp) (vs : List V) (Q : VK) (E : XK), RoomG k (A.deeper (envOfC qual scope sh.heap.objs.size f cdv)) → sp vs H Q E →
      ∃ t, PSs (cxOf CX0 P w K mg base N qual scope f cdv A out sh H E).nox body t ∧ t { nx := fun _ H' => Q .non H', rt := Q } (start N vs) H) : FnG P w K mg base CX0 (k + 1) f (PySem.W.fnOf name qual params body scope dV kV doc pm an cdv ct) ps sp := by
  refine ⟨many, fun A room out sh H ar ws vs Q E e0 bd rel hp => ?_⟩
  have kin : K.In sh.heap := e0.mod.kin.keeps fun b o z => (e0.bs b o z).1
  have nol := e0.mod.nolimit.keeps (h' := sh.heap) fun b o z => (e0.bs b o z).1
  refine codeAny_call_function room.r.depth (kin _ _ lk) rfl S.co S.gen rfl (PySem.W.codeRec_of kin hcd) (bd _ _ _ _ ?_)
  have kinds : ∀ y ∈ ps.zip ws, scope.names.lookup y.1 = some .local ∨ (scope.names.lookup y.1 = some .cell ∧ ((cellsFrom (sh.heap.objs.size + 1) scope.names []).lookup y.1).isSome = true) := by
    rintro ⟨n, v⟩ hy
    exact (S.par n (List.of_mem_zip hy).1).imp id fun q => ⟨q, PySem.W.cellsFrom_some _ _ _ (Or.inl q)⟩
  refine wpAny_newFunctionEnv_cells S.kind kinds fun env henv t1 x1 => ?_
  cases henv
  refine ⟨nol.keeps x1.toInCall.keep, codeAny_func ?_⟩
  obtain ⟨rd, der, hq⟩ := hb A out sh H vs Q E (room.deeper _) hp
  refine wpAny_mono (der.nox.run [] t1 (start N vs) H _ (inv_start S room.r.hd e0 (many _ _ _ _ hp) rel x1) hq) (fun fl t h => ?_) fun _ _ z => z
  cases fl with
  | ret u => exact body_end h
  | next => exact body_end h
  | brk => exact body_end h
  | cont => exact body_end h
end
end EE

namespace My
open PySem PySem.Spec PyProof.Rows L2 EE
def topS (i : Nat) : Stmt := PySem.Challenge.pw_evenends_k03_vectors_made.main.body.getD i (.Pass ⟨0, 0, 0, 0⟩)
abbrev s__wall : Stmt := (topS 0)
abbrev s_InvalidText___init__ : Stmt := (inClass (topS 4) 0)
abbrev s_is_name : Stmt := (topS 10)
abbrev s_is_integer : Stmt := (topS 11)
abbrev s_are_names : Stmt := (topS 12)
abbrev s_vector_text : Stmt := (topS 15)
abbrev s_number_in : Stmt := (topS 19)
abbrev s_amount_in : Stmt := (topS 20)
abbrev s_Line___init__ : Stmt := (inClass (topS 21) 0)
abbrev s_Line_is_over : Stmt := (inClass (topS 21) 1)
abbrev s_Line_next_word : Stmt := (inClass (topS 21) 2)
abbrev s_Line_refuse : Stmt := (inClass (topS 21) 3)
abbrev s_Line_take : Stmt := (inClass (topS 21) 4)
abbrev s_Line_skips : Stmt := (inClass (topS 21) 5)
abbrev s_Line_close : Stmt := (inClass (topS 21) 6)
abbrev s_take_all : Stmt := (topS 22)
abbrev s_line_of : Stmt := (topS 23)
abbrev s_numbers_in : Stmt := (topS 25)
abbrev s_need_numbers : Stmt := (topS 27)
abbrev s_Vector___init__ : Stmt := (inClass (topS 28) 0)
abbrev s_Vector_of : Stmt := (inClass (topS 28) 1)
abbrev s_Vector_read : Stmt := (inClass (topS 28) 2)
abbrev s_Vector_zero : Stmt := (inClass (topS 28) 3)
abbrev s_Vector_names : Stmt := (inClass (topS 28) 4)
abbrev s_Vector_dot : Stmt := (inClass (topS 28) 5)
abbrev s_Vector___getitem__ : Stmt := (inClass (topS 28) 6)
abbrev s_Vector___iter__ : Stmt := (inClass (topS 28) 7)
abbrev s_Vector___contains__ : Stmt := (inClass (topS 28) 8)
abbrev s_Vector___len__ : Stmt := (inClass (topS 28) 9)
abbrev s_Vector___bool__ : Stmt := (inClass (topS 28) 10)
abbrev s_Vector___add__ : Stmt := (inClass (topS 28) 11)
abbrev s_Vector___sub__ : Stmt := (inClass (topS 28) 12)
abbrev s_Vector___neg__ : Stmt := (inClass (topS 28) 13)
abbrev s_Vector___mul__ : Stmt := (inClass (topS 28) 14)
abbrev s_Vector___eq__ : Stmt := (inClass (topS 28) 15)
abbrev s_Vector___str__ : Stmt := (inClass (topS 28) 16)
abbrev s_Vector___repr__ : Stmt := (inClass (topS 28) 17)
abbrev s__law_pen : Stmt := (topS 30)
abbrev s__law_draw : Stmt := (topS 31)
abbrev s__law_pick : Stmt := (topS 32)
abbrev s__law_word : Stmt := (topS 33)
abbrev s__law_great : Stmt := (topS 34)
abbrev s__law_whole : Stmt := (topS 35)
abbrev s__law_box : Stmt := (topS 36)
abbrev s__law_turned : Stmt := (topS 37)
abbrev s__law_refused : Stmt := (topS 38)
abbrev s__law_spoilt : Stmt := (topS 39)
abbrev s__law_told_right : Stmt := (topS 40)
abbrev s__law_right : Stmt := (topS 41)
abbrev s_law : Stmt := (topS 42)
theorem sc__wall : FnScope ["k"] ["k"] (defScope s__wall) := ⟨rfl, rfl, rfl, by decide +kernel, rfl, by decide +kernel, by decide +kernel⟩
theorem sc_InvalidText___init__ : FnScope ["self", "line", "word"] ["self", "line", "word"] (defScope s_InvalidText___init__) := ⟨rfl, rfl, rfl, by decide +kernel, rfl, by decide +kernel, by decide +kernel⟩
theorem sc_is_name : FnScope ["value", "sign"] ["value"] (defScope s_is_name) := ⟨rfl, rfl, rfl, by decide +kernel, rfl, by decide +kernel, by decide +kernel⟩
theorem sc_is_integer : FnScope ["value"] ["value"] (defScope s_is_integer) := ⟨rfl, rfl, rfl, by decide +kernel, rfl, by decide +kernel, by decide +kernel⟩
theorem sc_are_names : FnScope ["values", "value"] ["values"] (defScope s_are_names) := ⟨rfl, rfl, rfl, by decide +kernel, rfl, by decide +kernel, by decide +kernel⟩
theorem sc_vector_text : FnScope ["numbers", "words", "name"] ["numbers"] (defScope s_vector_text) := ⟨rfl, rfl, rfl, by decide +kernel, rfl, by decide +kernel, by decide +kernel⟩
theorem sc_number_in : FnScope ["word", "most", "digits", "sign"] ["word", "most"] (defScope s_number_in) := ⟨rfl, rfl, rfl, by decide +kernel, rfl, by decide +kernel, by decide +kernel⟩
theorem sc_amount_in : FnScope ["word", "most", "name", "sign", "digits", "number"] ["word", "most"] (defScope s_amount_in) := ⟨rfl, rfl, rfl, by decide +kernel, rfl, by decide +kernel, by decide +kernel⟩
theorem sc_Line___init__ : FnScope ["self", "text", "index"] ["self", "text", "index"] (defScope s_Line___init__) := ⟨rfl, rfl, rfl, by decide +kernel, rfl, by decide +kernel, by decide +kernel⟩
theorem sc_Line_is_over : FnScope ["self"] ["self"] (defScope s_Line_is_over) := ⟨rfl, rfl, rfl, by decide +kernel, rfl, by decide +kernel, by decide +kernel⟩
theorem sc_Line_next_word : FnScope ["self"] ["self"] (defScope s_Line_next_word) := ⟨rfl, rfl, rfl, by decide +kernel, rfl, by decide +kernel, by decide +kernel⟩
theorem sc_Line_refuse : FnScope ["self", "back"] ["self", "back"] (defScope s_Line_refuse) := ⟨rfl, rfl, rfl, by decide +kernel, rfl, by decide +kernel, by decide +kernel⟩
theorem sc_Line_take : FnScope ["self", "meaning", "found"] ["self", "meaning"] (defScope s_Line_take) := ⟨rfl, rfl, rfl, by decide +kernel, rfl, by decide +kernel, by decide +kernel⟩
theorem sc_Line_skips : FnScope ["self", "words", "is_one"] ["self", "words"] (defScope s_Line_skips) := ⟨rfl, rfl, rfl, by decide +kernel, rfl, by decide +kernel, by decide +kernel⟩
theorem sc_Line_close : FnScope ["self"] ["self"] (defScope s_Line_close) := ⟨rfl, rfl, rfl, by decide +kernel, rfl, by decide +kernel, by decide +kernel⟩
theorem sc_take_all : FnScope ["line", "meaning", "least", "found", "last", "name", "value"] ["line", "meaning", "least"] (defScope s_take_all) := ⟨rfl, rfl, rfl, by decide +kernel, rfl, by decide +kernel, by decide +kernel⟩
theorem sc_line_of : FnScope ["text"] ["text"] (defScope s_line_of) := ⟨rfl, rfl, rfl, by decide +kernel, rfl, by decide +kernel, by decide +kernel⟩
theorem sc_numbers_in : FnScope ["text", "line"] ["text"] (defScope s_numbers_in) := ⟨rfl, rfl, rfl, by decide +kernel, rfl, by decide +kernel, by decide +kernel⟩
theorem sc_need_numbers : FnScope ["numbers", "number"] ["numbers"] (defScope s_need_numbers) := ⟨rfl, rfl, rfl, by decide +kernel, rfl, by decide +kernel, by decide +kernel⟩
theorem sc_Vector___init__ : FnScope ["self", "numbers", "name"] ["self", "numbers"] (defScope s_Vector___init__) := ⟨rfl, rfl, rfl, by decide +kernel, rfl, by decide +kernel, by decide +kernel⟩
theorem sc_Vector_of : FnScope ["cls", "numbers"] ["cls", "numbers"] (defScope s_Vector_of) := ⟨rfl, rfl, rfl, by decide +kernel, rfl, by decide +kernel, by decide +kernel⟩
theorem sc_Vector_read : FnScope ["cls", "text", "numbers"] ["cls", "text"] (defScope s_Vector_read) := ⟨rfl, rfl, rfl, by decide +kernel, rfl, by decide +kernel, by decide +kernel⟩
theorem sc_Vector_zero : FnScope [] [] (defScope s_Vector_zero) := ⟨rfl, rfl, rfl, by decide +kernel, rfl, by decide +kernel, by decide +kernel⟩
theorem sc_Vector_names : FnScope ["self"] ["self"] (defScope s_Vector_names) := ⟨rfl, rfl, rfl, by decide +kernel, rfl, by decide +kernel, by decide +kernel⟩
theorem sc_Vector_dot : FnScope ["self", "other"] ["self", "other"] (defScope s_Vector_dot) := ⟨rfl, rfl, rfl, by decide +kernel, rfl, by decide +kernel, by decide +kernel⟩
theorem sc_Vector___getitem__ : FnScope ["self", "name"] ["self", "name"] (defScope s_Vector___getitem__) := ⟨rfl, rfl, rfl, by decide +kernel, rfl, by decide +kernel, by decide +kernel⟩
theorem sc_Vector___iter__ : FnScope ["self"] ["self"] (defScope s_Vector___iter__) := ⟨rfl, rfl, rfl, by decide +kernel, rfl, by decide +kernel, by decide +kernel⟩
theorem sc_Vector___contains__ : FnScope ["self", "name"] ["self", "name"] (defScope s_Vector___contains__) := ⟨rfl, rfl, rfl, by decide +kernel, rfl, by decide +kernel, by decide +kernel⟩
theorem sc_Vector___len__ : FnScope ["self"] ["self"] (defScope s_Vector___len__) := ⟨rfl, rfl, rfl, by decide +kernel, rfl, by decide +kernel, by decide +kernel⟩
theorem sc_Vector___bool__ : FnScope ["self"] ["self"] (defScope s_Vector___bool__) := ⟨rfl, rfl, rfl, by decide +kernel, rfl, by decide +kernel, by decide +kernel⟩
theorem sc_Vector___add__ : FnScope ["self", "other", "numbers", "name"] ["self", "other"] (defScope s_Vector___add__) := ⟨rfl, rfl, rfl, by decide +kernel, rfl, by decide +kernel, by decide +kernel⟩
theorem sc_Vector___sub__ : FnScope ["self", "other"] ["self", "other"] (defScope s_Vector___sub__) := ⟨rfl, rfl, rfl, by decide +kernel, rfl, by decide +kernel, by decide +kernel⟩
theorem sc_Vector___neg__ : FnScope ["self"] ["self"] (defScope s_Vector___neg__) := ⟨rfl, rfl, rfl, by decide +kernel, rfl, by decide +kernel, by decide +kernel⟩
theorem sc_Vector___mul__ : FnScope ["self", "other", "numbers", "name", "number"] ["self", "other"] (defScope s_Vector___mul__) := ⟨rfl, rfl, rfl, by decide +kernel, rfl, by decide +kernel, by decide +kernel⟩
theorem sc_Vector___eq__ : FnScope ["self", "other"] ["self", "other"] (defScope s_Vector___eq__) := ⟨rfl, rfl, rfl, by decide +kernel, rfl, by decide +kernel, by decide +kernel⟩
theorem sc_Vector___str__ : FnScope ["self"] ["self"] (defScope s_Vector___str__) := ⟨rfl, rfl, rfl, by decide +kernel, rfl, by decide +kernel, by decide +kernel⟩
theorem sc_Vector___repr__ : FnScope ["self"] ["self"] (defScope s_Vector___repr__) := ⟨rfl, rfl, rfl, by decide +kernel, rfl, by decide +kernel, by decide +kernel⟩
theorem sc__law_pen : FnScope ["_law_script"] ["_law_script"] (defScope s__law_pen) := ⟨rfl, rfl, rfl, by decide +kernel, rfl, by decide +kernel, by decide +kernel⟩
theorem sc__law_draw : FnScope ["_law_pen_here", "_law_many", "_law_digit", "_law_at", "_law_cell", "_law_great_here", "_law_mixed"] ["_law_pen_here", "_law_many"] (defScope s__law_draw) := ⟨rfl, rfl, rfl, by decide +kernel, rfl, by decide +kernel, by decide +kernel⟩
theorem sc__law_pick : FnScope ["_law_pen_here", "_law_some"] ["_law_pen_here", "_law_some"] (defScope s__law_pick) := ⟨rfl, rfl, rfl, by decide +kernel, rfl, by decide +kernel, by decide +kernel⟩
theorem sc__law_word : FnScope ["_law_pen_here", "_law_letters", "_law_many", "_law_word_here", "_law_k"] ["_law_pen_here"] (defScope s__law_word) := ⟨rfl, rfl, rfl, by decide +kernel, rfl, by decide +kernel, by decide +kernel⟩
theorem sc__law_great : FnScope ["_law_pen_here", "_law_most", "_law_found", "_law_turn"] ["_law_pen_here", "_law_most"] (defScope s__law_great) := ⟨rfl, rfl, rfl, by decide +kernel, rfl, by decide +kernel, by decide +kernel⟩
theorem sc__law_whole : FnScope ["_law_pen_here", "_law_way", "_law_great_here"] ["_law_pen_here"] (defScope s__law_whole) := ⟨rfl, rfl, rfl, by decide +kernel, rfl, by decide +kernel, by decide +kernel⟩
theorem sc__law_box : FnScope ["_law_pen_here", "_law_found", "_law_turn", "_law_label"] ["_law_pen_here"] (defScope s__law_box) := ⟨rfl, rfl, rfl, by decide +kernel, rfl, by decide +kernel, by decide +kernel⟩
theorem sc__law_turned : FnScope ["_law_box_here"] ["_law_box_here"] (defScope s__law_turned) := ⟨rfl, rfl, rfl, by decide +kernel, rfl, by decide +kernel, by decide +kernel⟩
theorem sc__law_refused : FnScope ["_law_ask", "_law_caught", "error"] ["_law_ask"] (defScope s__law_refused) := ⟨rfl, rfl, rfl, by decide +kernel, rfl, by decide +kernel, by decide +kernel⟩
theorem sc__law_spoilt : FnScope ["_law_pen_here", "_law_box_here", "_law_rows", "_law_at", "_law_label", "_law_odd", "_law_row", "_law_rest", "_law_one"] ["_law_pen_here", "_law_box_here"] (defScope s__law_spoilt) := ⟨rfl, rfl, rfl, by decide +kernel, rfl, by decide +kernel, by decide +kernel⟩
theorem sc__law_told_right : FnScope ["_law_made", "_law_box_here", "_law_held", "_law_told", "_law_menu", "_law_label", "_law_due", "_law_shown"] ["_law_made", "_law_box_here"] (defScope s__law_told_right) := ⟨rfl, rfl, rfl, by decide +kernel, rfl, by decide +kernel, by decide +kernel⟩
theorem sc__law_right : FnScope ["_law_pen_here", "_law_box_here", "_law_kept", "_law_made", "_law_lent", "_law_same", "_law_late", "_law_others", "_law_other"] ["_law_pen_here", "_law_box_here"] (defScope s__law_right) := ⟨rfl, rfl, rfl, by decide +kernel, rfl, by decide +kernel, by decide +kernel⟩
theorem sc_law : FnScope ["_law_script", "_law_pen_here", "_law_turn", "_law_one", "_law_two", "_law_odd"] ["_law_script"] (defScope s_law) := ⟨rfl, rfl, rfl, by decide +kernel, rfl, by decide +kernel, by decide +kernel⟩
local macro_rules | `(tactic| walk_at "sq") => `(tactic| first | assumption | exact sqL_of (by assumption) | exact sqT_of (by assumption))
local macro_rules | `(tactic| walk_at "same") => `(tactic| first
  | assumption
  | exact Same.refl _
  | (refine Same.trans ?_ (by assumption); walk_at "same")
  | (refine same_past ?_ (by assumption) ?_; (walk_at "same"); (walk_at "no")))
local macro_rules | `(tactic| walk_at "no") => `(tactic| first
  | assumption
  | (refine none_same ?_ (by assumption); walk_at "same")
  | (refine none_same (by assumption) ?_; walk_at "no")
  | (refine none_but (by assumption) ?_ ?_; (walk_at "n"); (walk_at "no")))
local macro_rules | `(tactic| walk_at "but") => `(tactic| first
  | assumption
  | exact But.refl _ _
  | (refine But.then ?_ (by assumption); walk_at "but")
  | (refine But.trans ?_ (by assumption); walk_at "but")
  | (refine but_past ?_ (by assumption) ?_; (walk_at "but"); (walk_at "no")))
local macro_rules | `(tactic| walk_at "hasp") => `(tactic| (repeat (first | exact ⟨_, _, by assumption⟩ | (refine hasPen_same (by assumption) ?_))))
local macro_rules | `(tactic| walk_at "hasc") => `(tactic| (repeat (first | exact ⟨_, _, by assumption⟩ | (refine hasCells_same (by assumption) ?_))))
local macro_rules | `(tactic| walk_at "pen") => `(tactic| (repeat (first | assumption | (refine PenAt.keep ?_ (by assumption)))))
local macro_rules | `(tactic| walk_at "has") => `(tactic| first
  | exact ⟨_, by assumption⟩
  | (refine has_same (by assumption) ?_; walk_at "has")
  | (refine has_but (by assumption) ?_ ?_; (walk_at "n"); (walk_at "has")))
local macro_rules | `(tactic| walk_at "n") => `(tactic| first
  | assumption
  | exact Ne.symm (by assumption)
  | (refine ne_free (by assumption) ?_; walk_at "has")
  | (refine ne_free' (by assumption) ?_; walk_at "has")
  | (refine pen_off (by assumption) ?_; walk_at "hasp"; done)
  | (refine Ne.symm (pen_off (by assumption) ?_); walk_at "hasp"; done)
  | (refine pen_off' (by assumption) ?_; walk_at "hasc"; done)
  | (refine Ne.symm (pen_off' (by assumption) ?_); walk_at "hasc"; done))
local macro_rules | `(tactic| walk_at "hh") => `(tactic| first
  | assumption
  | (refine get_same (by assumption) ?_; walk_at "hh")
  | (refine get_but (by assumption) (by walk_at "n") ?_; walk_at "hh"))
local macro_rules | `(tactic| walk_at "h") => `(tactic| first
  | ((repeat (first | assumption | (refine get_same (by assumption) ?_) | (refine get_but (by assumption) (by walk_at "n") ?_))); done)
  | walk_at "hh")
local macro_rules | `(tactic| walk_at "r") => `(tactic| repeat (first
  | (refine go ?_)
  | (with_reducible refine rd_mul ?_ ?_)
  | (with_reducible refine rd_mod ?_ ?_)
  | (with_reducible refine rd_fdiv ?_ ?_)
  | (with_reducible refine rd_pow ?_ ?_)
  | (with_reducible refine rd_strI ?_ ?_)
  | (with_reducible refine rd_addS ?_ ?_)
  | (with_reducible refine rd_lenS ?_ ?_)
  | (with_reducible refine rd_slS ?_ ?_)))
local macro_rules | `(tactic| walk_at "R") => `(tactic| repeat (first
  | (refine go ?_)
  | (with_reducible refine new_lstS fun _ _ _ _ _ => ?_)
  | (with_reducible refine new_lst (Nat.le_of_ble_eq_true rfl) fun _ _ _ _ _ => ?_)
  | (with_reducible refine rd_dnewK fun _ _ _ _ _ => ?_)
  | (with_reducible refine new_tup (Nat.le_of_ble_eq_true rfl) fun _ _ _ _ _ => ?_)
  | ((with_reducible refine len_go ?_); first | (refine Or.inl ⟨_, sqL_of (by walk_at "h"), ?_⟩) | (refine Or.inr ⟨_, sqT_of (by walk_at "h"), ?_⟩))
  | ((with_reducible refine slT_go ?_); refine ⟨_, sqL_of (by walk_at "h"), fun _ _ _ _ _ => ?_⟩)
  | ((with_reducible refine slD_go ?_); refine ⟨_, sqL_of (by walk_at "h"), fun _ _ _ _ _ => ?_⟩)
  | ((with_reducible refine slD1_go ?_); refine ⟨_, sqL_of (by walk_at "h"), fun _ _ _ _ _ => ?_⟩)
  | ((with_reducible refine sl_go ?_); refine ⟨_, sqL_of (by walk_at "h"), fun _ _ _ _ _ => ?_⟩)
  | ((with_reducible refine cat_go ?_); refine catS_go (by walk_at "h") (by walk_at "h") ?_ fun _ _ _ _ _ => ?_; rotate_left)
  | ((with_reducible refine cat_go ?_); refine catV_go (by walk_at "h") (by walk_at "h") (Nat.le_of_ble_eq_true rfl) fun _ _ _ _ _ => ?_)
  | ((with_reducible refine cat_go ?_); refine catV_go (by walk_at "h") (by walk_at "h") ?_ fun _ _ _ _ _ => ?_; rotate_left)
  | ((with_reducible refine ixL_go ?_); refine ⟨_, sqL_of (by walk_at "h"), ?_⟩; refine ⟨_, atI_lit, ?_⟩)
  | (with_reducible refine rd_mul ?_ ?_; rotate_left)
  | (with_reducible refine rd_mod ?_ ?_; rotate_left)
  | (with_reducible refine rd_fdiv ?_ ?_; rotate_left)
  | (with_reducible refine rd_pow ?_ ?_; rotate_left)
  | (with_reducible refine rd_strI ?_ ?_; rotate_left)
  | (with_reducible refine rd_addS ?_ ?_; rotate_left)
  | (with_reducible refine rd_lenS ?_ ?_; rotate_left)
  | (with_reducible refine rd_slS ?_ ?_; rotate_left)))

structure Tx (K : PySem.W.Frag) (mg : Str → Option Value) : Prop where
  b_int : mg "int" = none
  b_len : mg "len" = none
  b_abs : mg "abs" = none
  b_str : mg "str" = none
  b_list : mg "list" = none
  b_tuple : mg "tuple" = none
  b_isinstance : mg "isinstance" = none
  b_all : mg "all" = none
  b_range : mg "range" = none
  b_repr : mg "repr" = none
  b_sorted : mg "sorted" = none
  b_dict : mg "dict" = none
  b_bool : mg "bool" = none
  b_ValueError : mg "ValueError" = none
  c_LETTERS : ∃ u, mg "LETTERS" = some u ∧ RelV (.str "abcdefghijklmnopqrstuvwxyz") u
  c_MOST_LETTERS : ∃ u, mg "MOST_LETTERS" = some u ∧ RelV (.int 8) u
  c_OWN : ∃ u, mg "OWN" = some u ∧ RelV (.str "self") u
  c_NOTHING : ∃ u, mg "NOTHING" = some u ∧ RelV (.str "0") u
section
variable {P : Program} {w : World} {K : PySem.W.Frag} {mg : Str → Option Value} {base : Heap}
theorem ok_is_name {f : Addr} {fd : FuncData} (F : Fun K "is_name" "is_name" s_is_name f fd) (T : Tx K mg) : FnOk P w K mg base CX0 1 f fd ["value"] (spS fun z => .bl (nameS z)) := by
  refine F.ok sc_is_name (fun vs H Q E h => ?_) (fun cdv A outer s H vs Q E hr h => ?_)
  · obtain ⟨z, rfl, _⟩ := h
    rfl
  · obtain ⟨z, rfl, hl, ha, k⟩ := h
    refine ⟨_, (pss_cons (ps_if (PW.pt (pw_or (pt_not (pt_val (pe_callB call_isi (by rfl) T.b_isinstance (by decide +kernel) (pa_cons (pv 0) (pa_cons (pe_bltn (v := .ty "str") (by rfl) T.b_str (by decide +kernel) rfl) pa_nil))))) (pw_or (pt_not (pt_chain op_le op_le pe_int (pe_callB cr_lenS (by rfl) T.b_len (by decide +kernel) (pa_cons (pv 0) pa_nil)) (C8.pe_gc (by rfl) T.c_MOST_LETTERS))) (pw_or1 (pt_cmpR op_eq (pv 0) (C8.pe_gc (by rfl) T.c_OWN) (nomark _)))))) (pss_one (ps_ret pe_bl)) pss_nil)
      (pss_one (ps_ret (pe_callB (cr_all rfl) (by rfl) T.b_all (by decide +kernel) (pa_cons (pe_lc (own := [("sign", 1)]) rfl sc_is_name.nd (pi_str (pv 0)) (blkOk_by (own := [("sign", 1)]) (N := ["value", "sign"]) (sc := defScope s_is_name) (by decide +kernel)) (fun _ _ _ _ _ => (pg_name (i := 1) sc_is_name.nd rfl (by first | exact Or.inl rfl | exact Or.inr rfl))) (fun _ _ _ _ _ => pts_nil) (fun _ _ _ _ _ => (pe_cmpR or_inS (pv 1) (C8.pe_gc (by rfl) T.c_LETTERS) rfl))) pa_nil))))), ?_⟩
    obtain ⟨t, ty, e1, _, _⟩ := (Th.str (H := H) z hl ha).ty (K := K)
    walk_at "r"
    refine rd_isi ty e1 ?_
    walk_at "r"
    refine rd_iteF rfl ?_
    walk_at "r"
    · refine rd_dec (fun c1 => ?_) (fun c1 => ?_)
      · walk_at "r"
        refine rd_decN (fun c2 => ?_) (fun c2 => ?_)
        · walk_at "r"
          have e : nameS z = false := by
            unfold nameS
            rw [decide_eq_false (by omega), Bool.false_and]
          rw [← e]
          exact k _ (Same.refl _)
        · walk_at "r"
          refine rd_dec (fun c3 => ?_) (fun c3 => ?_)
          · walk_at "r"
            have e : nameS z = false := by
              unfold nameS
              rw [decide_eq_false (fun q => q.2.2 c3), Bool.false_and]
            rw [← e]
            exact k _ (Same.refl _)
          · walk_at "r"
            refine lcat_str (fun c => some (V.bl (decide (c ∈ lets.cps.toList)))) (by omega) (fun D i c H' hD hc I => ?_) (fun D H' hD sm hl2 => ?_)
            · walk_at "r"
              refine ⟨rfl, ?_⟩
              walk_at "r"
              exact I.some hD hc rfl (Same.refl _) (by rw [Array.length_toList]; exact Nat.le_trans hl (by decide))
            · walk_at "r"
              rw [filterMap_some (fun c => V.bl (decide (c ∈ lets.cps.toList)))] at hl2
              refine rd_all (bs := z.cps.toList.map fun c => decide (c ∈ lets.cps.toList)) (sqL_of (by rw [List.map_map]; exact hl2)) ?_
              have e : nameS z = (z.cps.toList.map fun c => decide (c ∈ lets.cps.toList)).all id := by
                unfold nameS
                rw [decide_eq_true ⟨by omega, by omega, c3⟩, Bool.true_and, List.all_map]
                rfl
              rw [← e]
              exact k _ sm
      · walk_at "r"
        have e : nameS z = false := by
          unfold nameS
          rw [decide_eq_false (by omega), Bool.false_and]
        rw [← e]
        exact k _ (Same.refl _)
    · exact small_sz hl
end


end My

namespace My
open PySem PySem.Spec PyProof.Rows L2 EE

local macro_rules | `(tactic| walk_at "sq") => `(tactic| first | assumption | exact sqL_of (by assumption) | exact sqT_of (by assumption))
local macro_rules | `(tactic| walk_at "same") => `(tactic| first
  | assumption
  | exact Same.refl _
  | (refine Same.trans ?_ (by assumption); walk_at "same")
  | (refine same_past ?_ (by assumption) ?_; (walk_at "same"); (walk_at "no")))
local macro_rules | `(tactic| walk_at "no") => `(tactic| first
  | assumption
  | (refine none_same ?_ (by assumption); walk_at "same")
  | (refine none_same (by assumption) ?_; walk_at "no")
  | (refine none_but (by assumption) ?_ ?_; (walk_at "n"); (walk_at "no")))
local macro_rules | `(tactic| walk_at "but") => `(tactic| first
  | assumption
  | exact But.refl _ _
  | (refine But.then ?_ (by assumption); walk_at "but")
  | (refine But.trans ?_ (by assumption); walk_at "but")
  | (refine but_past ?_ (by assumption) ?_; (walk_at "but"); (walk_at "no")))
local macro_rules | `(tactic| walk_at "hasp") => `(tactic| (repeat (first | exact ⟨_, _, by assumption⟩ | (refine hasPen_same (by assumption) ?_))))
local macro_rules | `(tactic| walk_at "hasc") => `(tactic| (repeat (first | exact ⟨_, _, by assumption⟩ | (refine hasCells_same (by assumption) ?_))))
local macro_rules | `(tactic| walk_at "pen") => `(tactic| (repeat (first | assumption | (refine PenAt.keep ?_ (by assumption)))))
local macro_rules | `(tactic| walk_at "has") => `(tactic| first
  | exact ⟨_, by assumption⟩
  | (refine has_same (by assumption) ?_; walk_at "has")
  | (refine has_but (by assumption) ?_ ?_; (walk_at "n"); (walk_at "has")))
local macro_rules | `(tactic| walk_at "n") => `(tactic| first
  | assumption
  | exact Ne.symm (by assumption)
  | (refine ne_free (by assumption) ?_; walk_at "has")
  | (refine ne_free' (by assumption) ?_; walk_at "has")
  | (refine pen_off (by assumption) ?_; walk_at "hasp"; done)
  | (refine Ne.symm (pen_off (by assumption) ?_); walk_at "hasp"; done)
  | (refine pen_off' (by assumption) ?_; walk_at "hasc"; done)
  | (refine Ne.symm (pen_off' (by assumption) ?_); walk_at "hasc"; done))
local macro_rules | `(tactic| walk_at "hh") => `(tactic| first
  | assumption
  | (refine get_same (by assumption) ?_; walk_at "hh")
  | (refine get_but (by assumption) (by walk_at "n") ?_; walk_at "hh"))
local macro_rules | `(tactic| walk_at "h") => `(tactic| first
  | ((repeat (first | assumption | (refine get_same (by assumption) ?_) | (refine get_but (by assumption) (by walk_at "n") ?_))); done)
  | walk_at "hh")
local macro_rules | `(tactic| walk_at "r") => `(tactic| repeat (first
  | (refine go ?_)
  | (with_reducible refine rd_mul ?_ ?_)
  | (with_reducible refine rd_mod ?_ ?_)
  | (with_reducible refine rd_fdiv ?_ ?_)
  | (with_reducible refine rd_pow ?_ ?_)
  | (with_reducible refine rd_strI ?_ ?_)
  | (with_reducible refine rd_addS ?_ ?_)
  | (with_reducible refine rd_lenS ?_ ?_)
  | (with_reducible refine rd_slS ?_ ?_)))
local macro_rules | `(tactic| walk_at "R") => `(tactic| repeat (first
  | (refine go ?_)
  | (with_reducible refine new_lstS fun _ _ _ _ _ => ?_)
  | (with_reducible refine new_lst (Nat.le_of_ble_eq_true rfl) fun _ _ _ _ _ => ?_)
  | (with_reducible refine rd_dnewK fun _ _ _ _ _ => ?_)
  | (with_reducible refine new_tup (Nat.le_of_ble_eq_true rfl) fun _ _ _ _ _ => ?_)
  | ((with_reducible refine len_go ?_); first | (refine Or.inl ⟨_, sqL_of (by walk_at "h"), ?_⟩) | (refine Or.inr ⟨_, sqT_of (by walk_at "h"), ?_⟩))
  | ((with_reducible refine slT_go ?_); refine ⟨_, sqL_of (by walk_at "h"), fun _ _ _ _ _ => ?_⟩)
  | ((with_reducible refine slD_go ?_); refine ⟨_, sqL_of (by walk_at "h"), fun _ _ _ _ _ => ?_⟩)
  | ((with_reducible refine slD1_go ?_); refine ⟨_, sqL_of (by walk_at "h"), fun _ _ _ _ _ => ?_⟩)
  | ((with_reducible refine sl_go ?_); refine ⟨_, sqL_of (by walk_at "h"), fun _ _ _ _ _ => ?_⟩)
  | ((with_reducible refine cat_go ?_); refine catS_go (by walk_at "h") (by walk_at "h") ?_ fun _ _ _ _ _ => ?_; rotate_left)
  | ((with_reducible refine cat_go ?_); refine catV_go (by walk_at "h") (by walk_at "h") (Nat.le_of_ble_eq_true rfl) fun _ _ _ _ _ => ?_)
  | ((with_reducible refine cat_go ?_); refine catV_go (by walk_at "h") (by walk_at "h") ?_ fun _ _ _ _ _ => ?_; rotate_left)
  | ((with_reducible refine ixL_go ?_); refine ⟨_, sqL_of (by walk_at "h"), ?_⟩; refine ⟨_, atI_lit, ?_⟩)
  | (with_reducible refine rd_mul ?_ ?_; rotate_left)
  | (with_reducible refine rd_mod ?_ ?_; rotate_left)
  | (with_reducible refine rd_fdiv ?_ ?_; rotate_left)
  | (with_reducible refine rd_pow ?_ ?_; rotate_left)
  | (with_reducible refine rd_strI ?_ ?_; rotate_left)
  | (with_reducible refine rd_addS ?_ ?_; rotate_left)
  | (with_reducible refine rd_lenS ?_ ?_; rotate_left)
  | (with_reducible refine rd_slS ?_ ?_; rotate_left)))

section
variable {P : Program} {w : World} {K : PySem.W.Frag} {mg : Str → Option Value} {base : Heap}
/-- an integer is one -/
theorem ok_is_integer {f : Addr} {fd : FuncData} (F : Fun K "is_integer" "is_integer" s_is_integer f fd) (T : Tx K mg) : FnOk P w K mg base CX0 1 f fd ["value"] spInt1 := by
  refine F.ok sc_is_integer (fun vs H Q E h => ?_) (fun cdv A outer s H vs Q E hr h => ?_)
  · obtain ⟨z, rfl, _⟩ := h
    rfl
  · obtain ⟨z, rfl, k⟩ := h
    refine ⟨_, (pss_one (ps_ret (pe_and (pe_callB call_isi (by rfl) T.b_isinstance (by decide +kernel) (pa_cons (pv 0) (pa_cons (pe_bltn (v := .ty "int") (by rfl) T.b_int (by decide +kernel) rfl) pa_nil))) (pe_one (pe_not (pe_callB call_isi (by rfl) T.b_isinstance (by decide +kernel) (pa_cons (pv 0) (pa_cons (pe_bltn (v := .ty "bool") (by rfl) T.b_bool (by decide +kernel) rfl) pa_nil)))))))), ?_⟩
    obtain ⟨t, ty, _, e1, e2⟩ := (Th.int (H := H) z).ty (K := K)
    walk_at "r"
    refine rd_isi ty e1 ?_
    walk_at "r"
    refine rd_iteT rfl ?_
    walk_at "r"
    refine rd_isi ty e2 ?_
    walk_at "r"
    exact k _ (Same.refl _)
theorem ok_are_names {f fN : Addr} {fd fdN : FuncData} (F : Fun K "are_names" "are_names" s_are_names f fd) (T : Tx K mg) (C_is_name : Cal P w K mg base 1 "is_name" s_is_name ["value"] (spS fun z => .bl (nameS z)) fN fdN) :
    FnOk P w K mg base CX0 2 f fd ["values"] spAreNames := by
  refine F.ok sc_are_names (fun vs H Q E h => ?_) (fun cdv A outer s H vs Q E hr h => ?_)
  · obtain ⟨z, zs, rfl, _⟩ := h
    rfl
  · obtain ⟨a, zs, rfl, ha, hl, hn, k⟩ := h
    refine ⟨_, (pss_one (ps_ret (pe_callB (cr_all rfl) (by rfl) T.b_all (by decide +kernel) (pa_cons (pe_lc (own := [("value", 1)]) rfl sc_are_names.nd (pi_list (pv 0)) (blkOk_by (own := [("value", 1)]) (N := ["values", "value"]) (sc := defScope s_are_names) (by decide +kernel)) (fun _ _ _ _ _ => (pg_name (i := 1) sc_are_names.nd rfl (by first | exact Or.inl rfl | exact Or.inr rfl))) (fun _ _ _ _ _ => pts_nil) (fun _ _ _ _ _ => (pe_call C_is_name.G (hr.mono (by decide)) (by rfl) C_is_name.g C_is_name.F.kp C_is_name.b .nil pass0 (pa_cons (pv 1) pa_nil)))) pa_nil)))), ?_⟩
    walk_at "r"
    refine ⟨⟨zs.map V.str, sqL_of ha⟩, ?_⟩
    refine lcat_list (xs := zs.map V.str) (fun _ => some (V.bl true)) (by rw [List.length_map]; omega) ha (fun D i x H' hD hx I => ?_) (fun D H' hD sm hl2 => ?_)
    · rw [List.getElem?_map] at hx
      obtain ⟨z, hz, rfl⟩ := Option.map_eq_some_iff.mp hx
      have nz := hn z (List.mem_of_getElem? hz)
      obtain ⟨b1, b2⟩ := nameS_bound nz
      walk_at "r"
      refine ⟨rfl, ?_⟩
      walk_at "r"
      refine ⟨z, rfl, by omega, b2, fun H2 sm2 => ?_⟩
      dsimp only
      rw [nz]
      exact I.some hD (by rw [List.getElem?_map, hz]; rfl) rfl sm2 (by rw [List.length_map]; exact Nat.le_trans hl (by decide))
    · walk_at "r"
      rw [filterMap_some (fun _ => V.bl true)] at hl2
      refine rd_all (bs := zs.map fun _ => true) (sqL_of (by rw [hl2, List.map_map, List.map_map]; rfl)) ?_
      have e : (zs.map fun _ => true).all id = true := by rw [List.all_map]; exact List.all_eq_true.mpr fun _ _ => rfl
      rw [e]
      exact k _ sm
end

open LamX
def nameT : V → Bool | .str z => nameS z | _ => false
def intT (x : V) : Bool := isIntV x && !isBoolV x
def spB (f : V → Bool) : Sp := fun vs H Q _ => ∃ x, vs = [x] ∧ Th H x ∧ ∀ H', Same H H' → Q (.bl (f x)) H'
def spNoStr : Sp := fun vs H Q _ => ∃ x, vs = [x] ∧ Th H x ∧ isStrV x = false ∧ ∀ H', Same H H' → Q (.bl false) H'
/-- an error without fields is raised -/
def RzN (CI : Addr) (E : XK) (H : Hp) : Prop := ∀ H', Same H H' → E (.ref CI) none H'
theorem RzN.past {CI : Addr} {E : XK} {H H' : Hp} (h : RzN CI E H) (s : Same H H') : RzN CI E H' := fun H2 s2 => h H2 (s.trans s2)
theorem th_ext {H H' : Hp} {x : V} (h : Th H x) (s : ExtN H H') : Th H' x := by
  have nt : ∀ {a : Addr} {o : HO}, H a = some o → (∀ ps, o ≠ .tbl ps) → H' a = some o := fun {a o} e n => s _ _ e n
  cases h with
  | non => exact .non
  | bl b => exact .bl b
  | int i => exact .int i
  | str z hl ha => exact .str z hl ha
  | lst h => exact .lst (nt h fun _ z => by cases z)
  | tup h => exact .tup (nt h fun _ z => by cases z)
  | dK h => exact .dK (nt h fun _ z => by cases z)
theorem th_but {a : Addr} {H H' : Hp} {x : V} (h : Th H x) (n : x ≠ .ref a) (b : But a H H') : Th H' x := by
  cases h with
  | non => exact .non
  | bl b => exact .bl b
  | int i => exact .int i
  | str z hl ha => exact .str z hl ha
  | lst h => exact .lst (b _ _ (fun e => n (by rw [e])) h)
  | tup h => exact .tup (b _ _ (fun e => n (by rw [e])) h)
  | dK h => exact .dK (b _ _ (fun e => n (by rw [e])) h)
/-- a value that is no dict, also later -/
def NoD (K : PySem.W.Frag) (H : Hp) (x : V) : Prop := ∀ H', ExtN H H' → ∀ Q : VK, Q (.bl false) H' → rIsi K [x, .ty "dict"] H' Q
theorem NoD.ext {K : PySem.W.Frag} {H H' : Hp} {x : V} (h : NoD K H x) (s : ExtN H H') : NoD K H' x := fun H2 s2 => h H2 (s.trans s2)
theorem NoD.th {K : PySem.W.Frag} {H : Hp} {x : V} (h : Th H x) (n : ∀ a kvs, x = .ref a → H a ≠ some (.dK kvs)) : NoD K H x := fun H' s Q q => by
  have h2 := th_ext h s
  cases h with
  | non => exact rd_isi (a := "NoneType") (b := false) (.base .non) (by decide +kernel) q
  | bl b => exact rd_isi (a := "bool") (b := false) (.base (.bl b)) (by decide +kernel) q
  | int i => exact rd_isi (a := "int") (b := false) (.base (.int i)) (by decide +kernel) q
  | str z => exact rd_isi (a := "str") (b := false) (.base (.str z)) (by decide +kernel) q
  | lst h => exact rd_isi (a := "list") (b := false) (.base (.lst (s _ _ h fun _ z => by cases z))) (by decide +kernel) q
  | tup h => exact rd_isi (a := "tuple") (b := false) (.base (.tup (s _ _ h fun _ z => by cases z))) (by decide +kernel) q
  | dK h => exact absurd h (n _ _ rfl)
/-- a dict of values that are Th, off itself -/
structure DicT (H : Hp) (D : Addr) (kvs : List (Key × V)) : Prop where
  at_ : H D = some (.dK kvs)
  vals : ∀ p ∈ kvs, Th H p.2 ∧ p.2 ≠ .ref D ∧ ∀ z, p.1 = .inr z → z.length ≤ 1000 ∧ Asc z
  len : kvs.length ≤ 1000
theorem DicT.ext {H H' : Hp} {D : Addr} {kvs : List (Key × V)} (h : DicT H D kvs) (s : ExtN H H') : DicT H' D kvs := ⟨s _ _ h.at_ (fun _ z => by cases z), fun p hp => ⟨th_ext (h.vals p hp).1 s, (h.vals p hp).2⟩, h.len⟩
theorem DicT.keep {H H' : Hp} {D : Addr} {kvs : List (Key × V)} (h : DicT H D kvs) (s : Same H H') : DicT H' D kvs := h.ext s.exN
section
variable {P : Program} {w : World} {K : PySem.W.Frag} {mg : Str → Option Value} {base : Heap}
theorem ok_is_integerB {f : Addr} {fd : FuncData} (F : Fun K "is_integer" "is_integer" s_is_integer f fd) (T : Tx K mg) : FnOk P w K mg base CX0 1 f fd ["value"] (spB intT) := by
  refine F.ok sc_is_integer (fun vs H Q E h => ?_) (fun cdv A outer s H vs Q E hr h => ?_)
  · obtain ⟨x, rfl, _⟩ := h
    rfl
  · obtain ⟨x, rfl, hx, k⟩ := h
    refine ⟨_, (pss_one (ps_ret (pe_and (pe_callB call_isi (by rfl) T.b_isinstance (by decide +kernel) (pa_cons (pv 0) (pa_cons (pe_bltn (v := .ty "int") (by rfl) T.b_int (by decide +kernel) rfl) pa_nil))) (pe_one (pe_not (pe_callB call_isi (by rfl) T.b_isinstance (by decide +kernel) (pa_cons (pv 0) (pa_cons (pe_bltn (v := .ty "bool") (by rfl) T.b_bool (by decide +kernel) rfl) pa_nil)))))))), ?_⟩
    obtain ⟨t, ty, _, e1, e2⟩ := hx.ty (K := K)
    walk_at "r"
    refine rd_isi ty e1 ?_
    walk_at "r"
    refine rd_ite (fun c => ?_) (fun c => ?_)
    · walk_at "r"
      refine rd_isi ty e2 ?_
      walk_at "r"
      have e : intT x = !isBoolV x := by unfold intT; rw [c]; rfl
      rw [← e]
      exact k _ (Same.refl _)
    · have e : intT x = false := by unfold intT; rw [c]; rfl
      rw [← e]
      exact k _ (Same.refl _)
theorem ok_is_nameN {f : Addr} {fd : FuncData} (F : Fun K "is_name" "is_name" s_is_name f fd) (T : Tx K mg) : FnOk P w K mg base CX0 1 f fd ["value"] spNoStr := by
  refine F.ok sc_is_name (fun vs H Q E h => ?_) (fun cdv A outer s H vs Q E hr h => ?_)
  · obtain ⟨z, rfl, _⟩ := h
    rfl
  · obtain ⟨x, rfl, hx, hs, k⟩ := h
    refine ⟨_, (pss_cons (ps_if (PW.pt (pw_or (pt_not (pt_val (pe_callB call_isi (by rfl) T.b_isinstance (by decide +kernel) (pa_cons (pv 0) (pa_cons (pe_bltn (v := .ty "str") (by rfl) T.b_str (by decide +kernel) rfl) pa_nil))))) (pw_or (pt_not (pt_chain op_le op_le pe_int (pe_callB cr_lenS (by rfl) T.b_len (by decide +kernel) (pa_cons (pv 0) pa_nil)) (C8.pe_gc (by rfl) T.c_MOST_LETTERS))) (pw_or1 (pt_cmpR op_eq (pv 0) (C8.pe_gc (by rfl) T.c_OWN) (nomark _)))))) (pss_one (ps_ret pe_bl)) pss_nil)
      (pss_one (ps_ret (pe_callB (cr_all rfl) (by rfl) T.b_all (by decide +kernel) (pa_cons (pe_lc (own := [("sign", 1)]) rfl sc_is_name.nd (pi_str (pv 0)) (blkOk_by (own := [("sign", 1)]) (N := ["value", "sign"]) (sc := defScope s_is_name) (by decide +kernel)) (fun _ _ _ _ _ => (pg_name (i := 1) sc_is_name.nd rfl (by first | exact Or.inl rfl | exact Or.inr rfl))) (fun _ _ _ _ _ => pts_nil) (fun _ _ _ _ _ => (pe_cmpR or_inS (pv 1) (C8.pe_gc (by rfl) T.c_LETTERS) rfl))) pa_nil))))), ?_⟩
    obtain ⟨t, ty, e1, _, _⟩ := hx.ty (K := K)
    rw [hs] at e1
    walk_at "r"
    refine rd_isi ty e1 ?_
    walk_at "r"
    exact k _ (Same.refl _)
theorem ok_is_nameB {f : Addr} {fd : FuncData} (F : Fun K "is_name" "is_name" s_is_name f fd) (T : Tx K mg) : FnOk P w K mg base CX0 1 f fd ["value"] (spB nameT) :=
  ⟨fun vs H Q E h => by obtain ⟨x, rfl, _⟩ := h; rfl, fun A outer s H args us vs Q E hr he hb hv hs => by
    obtain ⟨x, rfl, hx, k⟩ := hs
    cases hx with
    | str z hl ha => exact (ok_is_name F T).run A outer s H args us _ Q E hr he hb hv ⟨z, rfl, hl, ha, k⟩
    | non => exact (ok_is_nameN F T).run A outer s H args us _ Q E hr he hb hv ⟨_, rfl, .non, rfl, k⟩
    | bl b => exact (ok_is_nameN F T).run A outer s H args us _ Q E hr he hb hv ⟨_, rfl, .bl b, rfl, k⟩
    | int i => exact (ok_is_nameN F T).run A outer s H args us _ Q E hr he hb hv ⟨_, rfl, .int i, rfl, k⟩
    | lst h => exact (ok_is_nameN F T).run A outer s H args us _ Q E hr he hb hv ⟨_, rfl, .lst h, rfl, k⟩
    | tup h => exact (ok_is_nameN F T).run A outer s H args us _ Q E hr he hb hv ⟨_, rfl, .tup h, rfl, k⟩
    | dK h => exact (ok_is_nameN F T).run A outer s H args us _ Q E hr he hb hv ⟨_, rfl, .dK h, rfl, k⟩⟩
/-- are_names of any values -/
def spAreB : Sp := fun vs H Q _ => ∃ (a : Addr) (xs : List V), vs = [.ref a] ∧ H a = some (.lst xs) ∧ xs.length ≤ 1000 ∧ (∀ x ∈ xs, Th H x) ∧ ∀ H', Same H H' → Q (.bl (xs.all nameT)) H'
theorem ok_are_namesB {f fN : Addr} {fd fdN : FuncData} (F : Fun K "are_names" "are_names" s_are_names f fd) (T : Tx K mg) (C_is_name : Cal P w K mg base 1 "is_name" s_is_name ["value"] (spB nameT) fN fdN) :
    FnOk P w K mg base CX0 2 f fd ["values"] spAreB := by
  refine F.ok sc_are_names (fun vs H Q E h => ?_) (fun cdv A outer s H vs Q E hr h => ?_)
  · obtain ⟨z, zs, rfl, _⟩ := h
    rfl
  · obtain ⟨a, xs, rfl, ha, hl, ht, k⟩ := h
    refine ⟨_, (pss_one (ps_ret (pe_callB (cr_all rfl) (by rfl) T.b_all (by decide +kernel) (pa_cons (pe_lc (own := [("value", 1)]) rfl sc_are_names.nd (pi_list (pv 0)) (blkOk_by (own := [("value", 1)]) (N := ["values", "value"]) (sc := defScope s_are_names) (by decide +kernel)) (fun _ _ _ _ _ => (pg_name (i := 1) sc_are_names.nd rfl (by first | exact Or.inl rfl | exact Or.inr rfl))) (fun _ _ _ _ _ => pts_nil) (fun _ _ _ _ _ => (pe_call C_is_name.G (hr.mono (by decide)) (by rfl) C_is_name.g C_is_name.F.kp C_is_name.b .nil pass0 (pa_cons (pv 1) pa_nil)))) pa_nil)))), ?_⟩
    walk_at "r"
    refine ⟨⟨xs, sqL_of ha⟩, ?_⟩
    refine lcat_list (xs := xs) (fun x => some (V.bl (nameT x))) (by omega) ha (fun D i x H' hD hx I => ?_) (fun D H' hD sm hl2 => ?_)
    · walk_at "r"
      refine ⟨rfl, ?_⟩
      walk_at "r"
      refine ⟨x, rfl, (ht x (List.mem_of_getElem? hx)).keep I.same, fun H2 sm2 => ?_⟩
      exact I.some hD hx rfl sm2 (Nat.le_trans hl (by decide))
    · walk_at "r"
      rw [filterMap_some (fun x => V.bl (nameT x))] at hl2
      refine rd_all (bs := xs.map nameT) (sqL_of (by rw [hl2, List.map_map]; rfl)) ?_
      have e : (xs.map nameT).all id = xs.all nameT := by rw [List.all_map]; rfl
      rw [e]
      exact k _ sm
end


end My

namespace My
open PySem PySem.Spec PyProof.Rows L2 EE

local macro_rules | `(tactic| walk_at "sq") => `(tactic| first | assumption | exact sqL_of (by assumption) | exact sqT_of (by assumption))
local macro_rules | `(tactic| walk_at "same") => `(tactic| first
  | assumption
  | exact Same.refl _
  | (refine Same.trans ?_ (by assumption); walk_at "same")
  | (refine same_past ?_ (by assumption) ?_; (walk_at "same"); (walk_at "no")))
local macro_rules | `(tactic| walk_at "no") => `(tactic| first
  | assumption
  | (refine none_same ?_ (by assumption); walk_at "same")
  | (refine none_same (by assumption) ?_; walk_at "no")
  | (refine none_but (by assumption) ?_ ?_; (walk_at "n"); (walk_at "no")))
local macro_rules | `(tactic| walk_at "but") => `(tactic| first
  | assumption
  | exact But.refl _ _
  | (refine But.then ?_ (by assumption); walk_at "but")
  | (refine But.trans ?_ (by assumption); walk_at "but")
  | (refine but_past ?_ (by assumption) ?_; (walk_at "but"); (walk_at "no")))
local macro_rules | `(tactic| walk_at "hasp") => `(tactic| (repeat (first | exact ⟨_, _, by assumption⟩ | (refine hasPen_same (by assumption) ?_))))
local macro_rules | `(tactic| walk_at "hasc") => `(tactic| (repeat (first | exact ⟨_, _, by assumption⟩ | (refine hasCells_same (by assumption) ?_))))
local macro_rules | `(tactic| walk_at "pen") => `(tactic| (repeat (first | assumption | (refine PenAt.keep ?_ (by assumption)))))
local macro_rules | `(tactic| walk_at "has") => `(tactic| first
  | exact ⟨_, by assumption⟩
  | (refine has_same (by assumption) ?_; walk_at "has")
  | (refine has_but (by assumption) ?_ ?_; (walk_at "n"); (walk_at "has")))
local macro_rules | `(tactic| walk_at "n") => `(tactic| first
  | assumption
  | exact Ne.symm (by assumption)
  | (refine ne_free (by assumption) ?_; walk_at "has")
  | (refine ne_free' (by assumption) ?_; walk_at "has")
  | (refine pen_off (by assumption) ?_; walk_at "hasp"; done)
  | (refine Ne.symm (pen_off (by assumption) ?_); walk_at "hasp"; done)
  | (refine pen_off' (by assumption) ?_; walk_at "hasc"; done)
  | (refine Ne.symm (pen_off' (by assumption) ?_); walk_at "hasc"; done))
local macro_rules | `(tactic| walk_at "hh") => `(tactic| first
  | assumption
  | (refine get_same (by assumption) ?_; walk_at "hh")
  | (refine get_but (by assumption) (by walk_at "n") ?_; walk_at "hh"))
local macro_rules | `(tactic| walk_at "h") => `(tactic| first
  | ((repeat (first | assumption | (refine get_same (by assumption) ?_) | (refine get_but (by assumption) (by walk_at "n") ?_))); done)
  | walk_at "hh")
local macro_rules | `(tactic| walk_at "r") => `(tactic| repeat (first
  | (refine go ?_)
  | (with_reducible refine rd_mul ?_ ?_)
  | (with_reducible refine rd_mod ?_ ?_)
  | (with_reducible refine rd_fdiv ?_ ?_)
  | (with_reducible refine rd_pow ?_ ?_)
  | (with_reducible refine rd_strI ?_ ?_)
  | (with_reducible refine rd_addS ?_ ?_)
  | (with_reducible refine rd_lenS ?_ ?_)
  | (with_reducible refine rd_slS ?_ ?_)))
local macro_rules | `(tactic| walk_at "R") => `(tactic| repeat (first
  | (refine go ?_)
  | (with_reducible refine new_lstS fun _ _ _ _ _ => ?_)
  | (with_reducible refine new_lst (Nat.le_of_ble_eq_true rfl) fun _ _ _ _ _ => ?_)
  | (with_reducible refine rd_dnewK fun _ _ _ _ _ => ?_)
  | (with_reducible refine new_tup (Nat.le_of_ble_eq_true rfl) fun _ _ _ _ _ => ?_)
  | ((with_reducible refine len_go ?_); first | (refine Or.inl ⟨_, sqL_of (by walk_at "h"), ?_⟩) | (refine Or.inr ⟨_, sqT_of (by walk_at "h"), ?_⟩))
  | ((with_reducible refine slT_go ?_); refine ⟨_, sqL_of (by walk_at "h"), fun _ _ _ _ _ => ?_⟩)
  | ((with_reducible refine slD_go ?_); refine ⟨_, sqL_of (by walk_at "h"), fun _ _ _ _ _ => ?_⟩)
  | ((with_reducible refine slD1_go ?_); refine ⟨_, sqL_of (by walk_at "h"), fun _ _ _ _ _ => ?_⟩)
  | ((with_reducible refine sl_go ?_); refine ⟨_, sqL_of (by walk_at "h"), fun _ _ _ _ _ => ?_⟩)
  | ((with_reducible refine cat_go ?_); refine catS_go (by walk_at "h") (by walk_at "h") ?_ fun _ _ _ _ _ => ?_; rotate_left)
  | ((with_reducible refine cat_go ?_); refine catV_go (by walk_at "h") (by walk_at "h") (Nat.le_of_ble_eq_true rfl) fun _ _ _ _ _ => ?_)
  | ((with_reducible refine cat_go ?_); refine catV_go (by walk_at "h") (by walk_at "h") ?_ fun _ _ _ _ _ => ?_; rotate_left)
  | ((with_reducible refine ixL_go ?_); refine ⟨_, sqL_of (by walk_at "h"), ?_⟩; refine ⟨_, atI_lit, ?_⟩)
  | (with_reducible refine rd_mul ?_ ?_; rotate_left)
  | (with_reducible refine rd_mod ?_ ?_; rotate_left)
  | (with_reducible refine rd_fdiv ?_ ?_; rotate_left)
  | (with_reducible refine rd_pow ?_ ?_; rotate_left)
  | (with_reducible refine rd_strI ?_ ?_; rotate_left)
  | (with_reducible refine rd_addS ?_ ?_; rotate_left)
  | (with_reducible refine rd_lenS ?_ ?_; rotate_left)
  | (with_reducible refine rd_slS ?_ ?_; rotate_left)))

section
variable {P : Program} {w : World} {K : PySem.W.Frag} {mg : Str → Option Value} {base : Heap}
theorem ok_need_numbers {f fI fA : Addr} {fd fdI fdA : FuncData} (F : Fun K "need_numbers" "need_numbers" s_need_numbers f fd) (T : Tx K mg)
    (C_is_integer : Cal P w K mg base 1 "is_integer" s_is_integer ["value"] spInt1 fI fdI) (C_are_names : Cal P w K mg base 2 "are_names" s_are_names ["values"] spAreNames fA fdA) : FnOk P w K mg base CX0 3 f fd ["numbers"] spNeed := by
  refine F.ok sc_need_numbers (fun vs H Q E h => ?_) (fun cdv A outer s H vs Q E hr h => ?_)
  · obtain ⟨z, zs, rfl, _⟩ := h
    rfl
  · obtain ⟨a, ps, rfl, ha, ⟨g1, g2, g3⟩, k⟩ := h
    refine ⟨_, (pss_cons (ps_if (PW.pt (pw_or (pt_not (pt_val (pe_callB call_isi (by rfl) T.b_isinstance (by decide +kernel) (pa_cons (pv 0) (pa_cons (pe_bltn (v := .ty "dict") (by rfl) T.b_dict (by decide +kernel) rfl) pa_nil))))) (pw_or1 (pt_not (pt_val (pe_call C_are_names.G (hr.mono (by decide)) (by rfl) C_are_names.g C_are_names.F.kp C_are_names.b .nil pass0 (pa_cons (pe_callTy (cr_listD rfl) (by rfl) T.b_list (by decide +kernel) (pa_cons (pv 0) pa_nil)) pa_nil))))))) (pss_one ps_never) pss_nil)
      (pss_one (ps_if (pt_not (pt_val (pe_callB (cr_all rfl) (by rfl) T.b_all (by decide +kernel) (pa_cons (pe_lock (pe_lc (own := [("number", 1)]) rfl sc_need_numbers.nd (pi_values (pv 0)) (blkOk_by (own := [("number", 1)]) (N := ["numbers", "number"]) (sc := defScope s_need_numbers) (by decide +kernel)) (fun _ _ _ _ _ => (pg_name (i := 1) sc_need_numbers.nd rfl (by first | exact Or.inl rfl | exact Or.inr rfl))) (fun _ _ _ _ _ => pts_nil) (fun _ _ _ _ _ => (pe_call C_is_integer.G (hr.mono (by decide)) (by rfl) C_is_integer.g C_is_integer.F.kp C_is_integer.b .nil pass0 (pa_cons (pv 1) pa_nil))))) pa_nil)))) (pss_one ps_never) pss_nil))), ?_⟩
    walk_at "r"
    refine rd_isi (a := "dict") (b := true) (.base (.dK ha)) (by decide +kernel) ?_
    walk_at "r"
    refine rd_listD (.of ha) fun L H1 nL s1 hL => ?_
    walk_at "r"
    refine ⟨L, ps.map (·.1), rfl, by rw [hL, keys_intB], by rw [List.length_map]; omega, fun z hz => ?_, fun H2 s2 => ?_⟩
    · obtain ⟨p, hp, rfl⟩ := List.mem_map.mp hz
      exact g1 p hp
    · walk_at "r"
      have h2 := s2 _ _ (s1 _ _ ha)
      refine lock_at h2 fun od H3 b3 h3 => ?_
      walk_at "r"
      refine vals_at h3 (lcF_any itw_vals (fun _ => some (V.bl true)) (fun H' s => s _ _ h3) (fun D i p x H4 H5 nD hi I y => ?_) fun D H4 nD s4 h4 => ?_)
      · obtain ⟨rfl, rfl⟩ := y
        unfold kwK intB at hi
        rw [List.map_map, List.getElem?_map] at hi
        obtain ⟨q, hq, rfl⟩ := Option.map_eq_some_iff.mp hi
        walk_at "r"
        refine ⟨rfl, ?_⟩
        walk_at "r"
        refine ⟨q.2, rfl, fun H6 s6 => ?_⟩
        exact I.some nD (by unfold kwK intB; rw [List.map_map, List.getElem?_map, hq]; rfl) rfl s6 (by unfold kwK intB; rw [List.length_map, List.length_map]; omega)
      · refine unlock h2 b3 h3 s4 fun H5 s5 b5 => ?_
        have nDd : D ≠ a := ne_of_none h3 nD |>.symm
        have h5 := b5 _ _ nDd h4
        walk_at "r"
        rw [filterMap_some (fun _ => V.bl true)] at h5
        refine rd_all (bs := ps.map fun _ => true) (sqL_of (by rw [h5]; unfold kwK intB; rw [List.map_map, List.map_map, List.map_map]; rfl)) ?_
        have e : (ps.map fun _ => true).all id = true := by rw [List.all_map]; exact List.all_eq_true.mpr fun _ _ => rfl
        rw [e]
        walk_at "r"
        exact k _ ((s1.trans s2).trans s5)
end

open LamX
def okE (p : Key × V) : Bool := nameT (kV p.1) && intT p.2
/-- what need_numbers refuses -/
def BadN (K : PySem.W.Frag) (H : Hp) (x : V) : Prop := NoD K H x ∨ (∃ (a : Addr) (kvs : List (Key × V)), x = .ref a ∧ DicT H a kvs ∧ kvs.all okE = false) ∨ ∃ (a : Addr) (vs : List V), x = .ref a ∧ OddK H a vs ∧ (∀ v ∈ vs, Th H v) ∧ vs.all nameT = false
theorem BadN.ext {K : PySem.W.Frag} {H H' : Hp} {x : V} (h : BadN K H x) (s : ExtN H H') : BadN K H' x := by
  rcases h with h | ⟨a, kvs, e, h, b⟩ | ⟨a, vs, e, h, t, b⟩
  · exact .inl (h.ext s)
  · exact .inr (.inl ⟨a, kvs, e, h.ext s, b⟩)
  · exact .inr (.inr ⟨a, vs, e, h.ext s, fun v hv => th_ext (t v hv) s, b⟩)
def spNeedBad (K : PySem.W.Frag) (CI : Addr) : Sp := fun vs H _ E => ∃ x : V, vs = [x] ∧ BadN K H x ∧ RzN CI E H
section
variable {P : Program} {w : World} {K : PySem.W.Frag} {mg : Str → Option Value} {base : Heap} {CI : Addr} {bm : List Value} {nid : String}
theorem ok_need_numbersX {f fI fA : Addr} {fd fdI fdA : FuncData} (F : Fun K "need_numbers" "need_numbers" s_need_numbers f fd) (T : Tx K mg) (E_InvalidVector : Err0 K mg "InvalidVector" CI [.type "ValueError", .type "Exception", .type "BaseException", .type "object"] "ValueError.__new__")
    (C_is_integer : Cal P w K mg base 1 "is_integer" s_is_integer ["value"] (spB intT) fI fdI) (C_are_names : Cal P w K mg base 2 "are_names" s_are_names ["values"] spAreB fA fdA) : FnOk P w K mg base (L2.CX P w) 3 f fd ["numbers"] (spNeedBad K CI) := by
  refine F.okX sc_need_numbers (fun vs H Q E h => ?_) (fun cdv A outer s H vs Q E hr h => ?_)
  · obtain ⟨x, rfl, _⟩ := h
    rfl
  obtain ⟨x, rfl, hx, k⟩ := h
  have hu := hu_of hr
  have tk : Takes (cxOf (L2.CX P w) P w K mg base ["numbers", "number"] "need_numbers" (defScope s_need_numbers) f cdv A outer s H E) (fun cls d _ H => E cls d H) := takes_of rfl rfl rfl rfl
  refine ⟨_, (pss_cons (ps_if (PW.pt (pw_or (pt_not (pt_val (pe_callB call_isiO (by rfl) T.b_isinstance (by decide +kernel) (pa_cons (pv 0) (pa_cons (pe_bltn (v := .ty "dict") (by rfl) T.b_dict (by decide +kernel) rfl) pa_nil))))) (pw_or1 (pt_not (pt_val (pe_call C_are_names.G (hr.mono (by decide)) (by rfl) C_are_names.g C_are_names.F.kp C_are_names.b .nil pass0 (pa_cons (pe_callTy (cr_listDO rfl) (by rfl) T.b_list (by decide +kernel) (pa_cons (pv 0) pa_nil)) pa_nil))))))) (pss_one (ps_raise rfl tk (pmk_own0 PySem.F.excBase_ValueError E_InvalidVector.q E_InvalidVector.g E_InvalidVector.k (raises_own E_InvalidVector.T.exC E_InvalidVector.T.tyC) (by rfl)))) pss_nil)
      (pss_one (ps_if (pt_not (pt_val (pe_callB (cr_all rfl) (by rfl) T.b_all (by decide +kernel) (pa_cons (pe_lock (pe_lc (own := [("number", 1)]) rfl sc_need_numbers.nd (pi_values (pv 0)) (blkOk_by (own := [("number", 1)]) (N := ["numbers", "number"]) (sc := defScope s_need_numbers) (by decide +kernel)) (fun _ _ _ _ _ => (pg_name (i := 1) sc_need_numbers.nd rfl (by first | exact Or.inl rfl | exact Or.inr rfl))) (fun _ _ _ _ _ => pts_nil) (fun _ _ _ _ _ => (pe_call C_is_integer.G (hr.mono (by decide)) (by rfl) C_is_integer.g C_is_integer.F.kp C_is_integer.b .nil pass0 (pa_cons (pv 1) pa_nil))))) pa_nil)))) (pss_one (ps_raise rfl tk (pmk_own0 PySem.F.excBase_ValueError E_InvalidVector.q E_InvalidVector.g E_InvalidVector.k (raises_own E_InvalidVector.T.exC E_InvalidVector.T.tyC) (by rfl)))) pss_nil))), ?_⟩
  walk_at "r"
  rcases hx with nd | ⟨a, kvs, rfl, dt, bad⟩ | ⟨a, vs, rfl, od, ot, bad⟩
  · refine .inl (nd H (Same.refl _).exN _ ?_)
    walk_at "r"
    exact k _ (Same.refl _)
  · refine .inl (rd_isi (a := "dict") (b := true) (.base (.dK dt.at_)) (by decide +kernel) ?_)
    walk_at "r"
    refine .inl ⟨a, kvs, rfl, .of dt.at_, fun p hp => ?_⟩
    walk_at "r"
    have s1 := same_new (o := HO.lst (kvs.map fun kv => kV kv.1)) hp
    refine ⟨p, _, rfl, upd_same, by rw [List.length_map]; exact dt.len, fun x hx => ?_, fun H2 s2 => ?_⟩
    · obtain ⟨kv, hkv, rfl⟩ := List.mem_map.mp hx
      obtain ⟨key, val⟩ := kv
      cases key with
      | inl i => exact .int i
      | inr z => exact .str z ((dt.vals _ hkv).2.2 z rfl).1 ((dt.vals _ hkv).2.2 z rfl).2
    · cases c : (kvs.map fun kv => kV kv.1).all nameT with
      | false =>
        walk_at "r"
        exact k _ (s1.trans s2)
      | true =>
        walk_at "r"
        have dt2 := dt.keep (s1.trans s2)
        refine lock_at dt2.at_ fun od H3 b3 h3 => ?_
        walk_at "r"
        refine vals_at h3 (lcF_any itw_vals (fun p => some (V.bl (intT p.2))) (fun H' s => s _ _ h3) (fun D i p x H4 H5 nD hi I y => ?_) fun D H4 nD s4 h4 => ?_)
        · obtain ⟨rfl, rfl⟩ := y
          obtain ⟨tv, nv, _⟩ := dt2.vals p (List.mem_of_getElem? hi)
          walk_at "r"
          refine ⟨rfl, ?_⟩
          walk_at "r"
          refine ⟨_, rfl, (th_but tv nv b3).keep I.same, fun H6 s6 => ?_⟩
          exact I.some nD hi rfl s6 (Nat.le_trans dt.len (by decide))
        · refine unlock dt2.at_ b3 h3 s4 fun H5 s5 b5 => ?_
          have nDd : D ≠ a := ne_of_none h3 nD |>.symm
          have h5 := b5 _ _ nDd h4
          walk_at "r"
          rw [filterMap_some (fun p : Key × V => V.bl (intT p.2))] at h5
          refine rd_all (bs := kvs.map fun p => intT p.2) (sqL_of (by rw [h5, List.map_map]; rfl)) ?_
          have e : (kvs.map fun p => intT p.2).all id = false := by
            rw [List.all_map]
            refine Bool.eq_false_iff.mpr fun h => ?_
            rw [List.all_map] at c
            refine Bool.eq_false_iff.mp bad (List.all_eq_true.mpr fun p hp => ?_)
            have h1 := List.all_eq_true.mp c p hp
            have h2 := List.all_eq_true.mp h p hp
            exact Bool.and_eq_true_iff.mpr ⟨h1, h2⟩
          rw [e]
          walk_at "r"
          exact k _ ((s1.trans s2).trans s5)
  · refine .inr ⟨a, vs, rfl, od, ?_⟩
    walk_at "r"
    refine .inr ⟨a, vs, rfl, od, fun p hp => ?_⟩
    walk_at "r"
    have s1 := same_new (o := HO.lst vs) hp
    have ol : vs.length ≤ 1000 := by obtain ⟨_, _, _, _, _, _, ol, _⟩ := od; exact ol
    refine ⟨p, _, rfl, upd_same, ol, fun x hx => (ot x hx).keep s1, fun H2 s2 => ?_⟩
    rw [bad]
    walk_at "r"
    exact k _ (s1.trans s2)
end


end My

namespace My
open PySem PySem.Spec PyProof.Rows L2 EE

local macro_rules | `(tactic| walk_at "sq") => `(tactic| first | assumption | exact sqL_of (by assumption) | exact sqT_of (by assumption))
local macro_rules | `(tactic| walk_at "same") => `(tactic| first
  | assumption
  | exact Same.refl _
  | (refine Same.trans ?_ (by assumption); walk_at "same")
  | (refine same_past ?_ (by assumption) ?_; (walk_at "same"); (walk_at "no")))
local macro_rules | `(tactic| walk_at "no") => `(tactic| first
  | assumption
  | (refine none_same ?_ (by assumption); walk_at "same")
  | (refine none_same (by assumption) ?_; walk_at "no")
  | (refine none_but (by assumption) ?_ ?_; (walk_at "n"); (walk_at "no")))
local macro_rules | `(tactic| walk_at "but") => `(tactic| first
  | assumption
  | exact But.refl _ _
  | (refine But.then ?_ (by assumption); walk_at "but")
  | (refine But.trans ?_ (by assumption); walk_at "but")
  | (refine but_past ?_ (by assumption) ?_; (walk_at "but"); (walk_at "no")))
local macro_rules | `(tactic| walk_at "hasp") => `(tactic| (repeat (first | exact ⟨_, _, by assumption⟩ | (refine hasPen_same (by assumption) ?_))))
local macro_rules | `(tactic| walk_at "hasc") => `(tactic| (repeat (first | exact ⟨_, _, by assumption⟩ | (refine hasCells_same (by assumption) ?_))))
local macro_rules | `(tactic| walk_at "pen") => `(tactic| (repeat (first | assumption | (refine PenAt.keep ?_ (by assumption)))))
local macro_rules | `(tactic| walk_at "has") => `(tactic| first
  | exact ⟨_, by assumption⟩
  | (refine has_same (by assumption) ?_; walk_at "has")
  | (refine has_but (by assumption) ?_ ?_; (walk_at "n"); (walk_at "has")))
local macro_rules | `(tactic| walk_at "n") => `(tactic| first
  | assumption
  | exact Ne.symm (by assumption)
  | (refine ne_free (by assumption) ?_; walk_at "has")
  | (refine ne_free' (by assumption) ?_; walk_at "has")
  | (refine pen_off (by assumption) ?_; walk_at "hasp"; done)
  | (refine Ne.symm (pen_off (by assumption) ?_); walk_at "hasp"; done)
  | (refine pen_off' (by assumption) ?_; walk_at "hasc"; done)
  | (refine Ne.symm (pen_off' (by assumption) ?_); walk_at "hasc"; done))
local macro_rules | `(tactic| walk_at "hh") => `(tactic| first
  | assumption
  | (refine get_same (by assumption) ?_; walk_at "hh")
  | (refine get_but (by assumption) (by walk_at "n") ?_; walk_at "hh"))
local macro_rules | `(tactic| walk_at "h") => `(tactic| first
  | ((repeat (first | assumption | (refine get_same (by assumption) ?_) | (refine get_but (by assumption) (by walk_at "n") ?_))); done)
  | walk_at "hh")
local macro_rules | `(tactic| walk_at "r") => `(tactic| repeat (first
  | (refine go ?_)
  | (with_reducible refine rd_mul ?_ ?_)
  | (with_reducible refine rd_mod ?_ ?_)
  | (with_reducible refine rd_fdiv ?_ ?_)
  | (with_reducible refine rd_pow ?_ ?_)
  | (with_reducible refine rd_strI ?_ ?_)
  | (with_reducible refine rd_addS ?_ ?_)
  | (with_reducible refine rd_lenS ?_ ?_)
  | (with_reducible refine rd_slS ?_ ?_)))
local macro_rules | `(tactic| walk_at "R") => `(tactic| repeat (first
  | (refine go ?_)
  | (with_reducible refine new_lstS fun _ _ _ _ _ => ?_)
  | (with_reducible refine new_lst (Nat.le_of_ble_eq_true rfl) fun _ _ _ _ _ => ?_)
  | (with_reducible refine rd_dnewK fun _ _ _ _ _ => ?_)
  | (with_reducible refine new_tup (Nat.le_of_ble_eq_true rfl) fun _ _ _ _ _ => ?_)
  | ((with_reducible refine len_go ?_); first | (refine Or.inl ⟨_, sqL_of (by walk_at "h"), ?_⟩) | (refine Or.inr ⟨_, sqT_of (by walk_at "h"), ?_⟩))
  | ((with_reducible refine slT_go ?_); refine ⟨_, sqL_of (by walk_at "h"), fun _ _ _ _ _ => ?_⟩)
  | ((with_reducible refine slD_go ?_); refine ⟨_, sqL_of (by walk_at "h"), fun _ _ _ _ _ => ?_⟩)
  | ((with_reducible refine slD1_go ?_); refine ⟨_, sqL_of (by walk_at "h"), fun _ _ _ _ _ => ?_⟩)
  | ((with_reducible refine sl_go ?_); refine ⟨_, sqL_of (by walk_at "h"), fun _ _ _ _ _ => ?_⟩)
  | ((with_reducible refine cat_go ?_); refine catS_go (by walk_at "h") (by walk_at "h") ?_ fun _ _ _ _ _ => ?_; rotate_left)
  | ((with_reducible refine cat_go ?_); refine catV_go (by walk_at "h") (by walk_at "h") (Nat.le_of_ble_eq_true rfl) fun _ _ _ _ _ => ?_)
  | ((with_reducible refine cat_go ?_); refine catV_go (by walk_at "h") (by walk_at "h") ?_ fun _ _ _ _ _ => ?_; rotate_left)
  | ((with_reducible refine ixL_go ?_); refine ⟨_, sqL_of (by walk_at "h"), ?_⟩; refine ⟨_, atI_lit, ?_⟩)
  | (with_reducible refine rd_mul ?_ ?_; rotate_left)
  | (with_reducible refine rd_mod ?_ ?_; rotate_left)
  | (with_reducible refine rd_fdiv ?_ ?_; rotate_left)
  | (with_reducible refine rd_pow ?_ ?_; rotate_left)
  | (with_reducible refine rd_strI ?_ ?_; rotate_left)
  | (with_reducible refine rd_addS ?_ ?_; rotate_left)
  | (with_reducible refine rd_lenS ?_ ?_; rotate_left)
  | (with_reducible refine rd_slS ?_ ?_; rotate_left)))

section
variable {P : Program} {w : World} {K : PySem.W.Frag} {mg : Str → Option Value} {base : Heap} {C : Addr}
theorem ok_Vector_init {f fN : Addr} {fdN : FuncData} {kV doc pm cdv ct oc : Value} {an od : Option Addr} {osl : Array (Option Value)} (lk : K.lookup f = some ⟨oc, od, .func (PySem.W.fnOf "__init__" "Vector.__init__" (defArgs s_Vector___init__) (defBody s_Vector___init__) (defScope s_Vector___init__) .none kV doc pm an cdv ct), osl⟩) (hcd : PySem.W.codeIn K cdv "Vector.__init__" = true)
    (T : Tx K mg) (V_Vector : VcK K mg C) (C_need_numbers : Cal P w K mg base 3 "need_numbers" s_need_numbers ["numbers"] spNeed fN fdN) : FnKw P w K mg base CX0 4 f (spInitV C) := by
  obtain ⟨nm, hn, en⟩ : ∃ nm, (defArgs s_Vector___init__).kwarg = some nm ∧ nm.arg = "numbers" := ⟨_, rfl, rfl⟩
  refine okKw lk hcd (nm := nm) (N := ["self", "numbers", "name"]) (by rw [en]; exact sc_Vector___init__) back0 rfl rfl rfl rfl hn fun A outer s H vs Q E hr h => ?_
  obtain ⟨a, dx, D, ps, rfl, ha, hD, g, k⟩ := h
  have hu := hu_of hr
  refine ⟨_, (pss_cons (ps_expr (pe_call C_need_numbers.G (hr.mono (by decide)) (by rfl) C_need_numbers.g C_need_numbers.F.kp C_need_numbers.b .nil pass0 (pa_cons (pv 1) pa_nil)))
      (pss_one (ps_fld (pv 0) (pe_dc (own := [("name", 2)]) rfl sc_Vector___init__.nd (pi_list (pe_callB (cr_sortD rfl) (by rfl) T.b_sorted (by decide +kernel) (pa_cons (pv 1) pa_nil))) (blkOk_by (own := [("name", 2)]) (N := ["self", "numbers", "name"]) (sc := defScope s_Vector___init__) (by decide +kernel)) (fun _ _ _ _ _ => (pg_name (i := 2) sc_Vector___init__.nd rfl (by first | exact Or.inl rfl | exact Or.inr rfl))) (fun _ _ _ _ _ => (pts_one (pt_cmpR op_ne (pe_dget hu (pv 1) (pv 2) (fun _ _ => rfl)) pe_int (nomark _)))) (fun _ _ _ _ _ => (pv 2)) (fun _ _ _ _ _ => (pe_dget hu (pv 1) (pv 2) (fun _ _ => rfl)))) rfl))), ?_⟩
  walk_at "r"
  refine ⟨D, ps, rfl, hD, g, fun H1 s1 => ?_⟩
  walk_at "r"
  refine rd_sortD (.of (s1 _ _ hD)) (by rw [keys_intB]; exact g.2.1) (by rw [intB, List.length_map]; exact Nat.lt_of_le_of_lt g.2.2 (by decide)) fun L H2 nL s2 hL => ?_
  rw [keys_intB] at hL
  walk_at "r"
  refine ⟨⟨_, sqL_of hL⟩, ?_⟩
  have h2 := s2 _ _ (s1 _ _ hD)
  refine dcF_any (l := srtS (ps.map (·.1))) (itw_listM (f := V.str)) (nzF (getV ps)) (fun H' s => sqL_of (s _ _ hL)) (fun D2 i n x H3 H4 nD hi I y => ?_) fun D2 H3 nD s3 h3 => ?_
  · obtain ⟨rfl, rfl⟩ := y
    have hm : n ∈ ps.map (·.1) := mem_srtS.mp (List.mem_of_getElem? hi)
    walk_at "r"
    refine ⟨rfl, ?_⟩
    walk_at "r"
    have h4 := I.same _ _ h2
    refine dget_s h4 (val_mem hm) ?_
    walk_at "r"
    refine rd_decN (fun c => ?_) (fun c => ?_)
    · walk_at "r"
      refine dget_s h4 (val_mem hm) ?_
      walk_at "r"
      refine I.some nD hi (by unfold nzF; rw [if_neg c]) (Same.refl _) ?_ rfl
      have := srtS_len_le (ps.map (·.1))
      rw [List.length_map] at this
      have := g.2.2
      omega
    · exact I.none hi (by unfold nzF; rw [if_pos c]) (Same.refl _)
  · rw [nz_merge] at h3
    walk_at "r"
    have ha3 := s3 _ _ (s2 _ _ (s1 _ _ ha))
    refine sfld_at ha3 V_Vector.cl V_Vector.nH (by decide) fun H4 b4 h4 => ?_
    walk_at "r"
    have ne : D2 ≠ a := fun z => by rw [z, s2 _ _ (s1 _ _ ha)] at nD; cases nD
    exact k H4 D2 (((s1.trans (s2.trans s3)).but a).trans b4) ((s1.trans s2).free nD) ⟨⟨dx, h4⟩, b4 _ _ ne h3⟩
end

/-- an own __init__ that refuses -/
def spInitVBad (CI C : Addr) : Sp := fun vs H _ E => ∃ (a dx D : Addr) (kvs : List (Key × V)), vs = [.ref a, .ref D] ∧ H a = some (.ins C dx []) ∧ DicT H D kvs ∧ kvs.all okE = false ∧ RzN CI E H
section
variable {P : Program} {w : World} {K : PySem.W.Frag} {mg : Str → Option Value} {base : Heap} {C CI : Addr}
theorem ok_Vector_initX {f fN : Addr} {fdN : FuncData} {kV doc pm cdv ct oc : Value} {an od : Option Addr} {osl : Array (Option Value)} (lk : K.lookup f = some ⟨oc, od, .func (PySem.W.fnOf "__init__" "Vector.__init__" (defArgs s_Vector___init__) (defBody s_Vector___init__) (defScope s_Vector___init__) .none kV doc pm an cdv ct), osl⟩) (hcd : PySem.W.codeIn K cdv "Vector.__init__" = true)
    (T : Tx K mg) (V_Vector : VcK K mg C) (C_need_numbers : Cal P w K mg base 3 "need_numbers" s_need_numbers ["numbers"] spNeed fN fdN) (GNX : FnOk P w K mg base (L2.CX P w) 3 fN fdN ["numbers"] (spNeedBad K CI)) : FnKw P w K mg base (L2.CX P w) 4 f (spInitVBad CI C) := by
  obtain ⟨nm, hn, en⟩ : ∃ nm, (defArgs s_Vector___init__).kwarg = some nm ∧ nm.arg = "numbers" := ⟨_, rfl, rfl⟩
  refine okKw lk hcd (nm := nm) (N := ["self", "numbers", "name"]) (by rw [en]; exact sc_Vector___init__) (by exact backX) rfl rfl rfl rfl hn fun A outer s H vs Q E hr h => ?_
  obtain ⟨a, dx, D, kvs, rfl, ha, hD, bad, k⟩ := h
  have hu := hu_of hr
  have tk : Takes (cxOf (L2.CX P w) P w K mg base ["self", "numbers", "name"] "Vector.__init__" (defScope s_Vector___init__) f cdv A outer s H E) (fun cls d _ H => E cls d H) := takes_of rfl rfl rfl rfl
  refine ⟨_, (pss_cons (ps_expr (pe_call GNX (hr.mono (by decide)) (by rfl) C_need_numbers.g C_need_numbers.F.kp C_need_numbers.b .nil (passes_call tk fun _ _ _ _ z => z) (pa_cons (pv 1) pa_nil)))
      (pss_one (ps_fld (pv 0) (pe_dc (own := [("name", 2)]) rfl sc_Vector___init__.nd (pi_list (pe_callB (cr_sortD rfl) (by rfl) T.b_sorted (by decide +kernel) (pa_cons (pv 1) pa_nil))) (blkOk_by (own := [("name", 2)]) (N := ["self", "numbers", "name"]) (sc := defScope s_Vector___init__) (by decide +kernel)) (fun _ _ _ _ _ => (pg_name (i := 2) sc_Vector___init__.nd rfl (by first | exact Or.inl rfl | exact Or.inr rfl))) (fun _ _ _ _ _ => (pts_one (pt_cmpR op_ne (pe_dget hu (pv 1) (pv 2) (fun _ _ => rfl)) pe_int (nomark _)))) (fun _ _ _ _ _ => (pv 2)) (fun _ _ _ _ _ => (pe_dget hu (pv 1) (pv 2) (fun _ _ => rfl)))) rfl))), ?_⟩
  walk_at "r"
  exact ⟨.ref D, rfl, .inr (.inl ⟨D, kvs, rfl, hD, bad⟩), k⟩
end
theorem newBadV {CI C : Addr} {E : XK} {H : Hp} {Q : VK} {kvs : List (Str × V)} (hv : ∀ p ∈ kvs, Th H p.2) (hk : ∀ p ∈ kvs, p.1.length ≤ 1000 ∧ Asc p.1) (hl : kvs.length ≤ 1000) (bad : (kwK kvs).all okE = false) (k : RzN CI E H) : MkK C (spInitVBad CI C) E kvs H Q := by
  intro x dx nx ndx ne D nD
  have xD : x ≠ D := fun z => by rw [← z, upd_same] at nD; cases nD
  have nHD : H D = none := by
    cases q : H D with
    | none => rfl
    | some o =>
      rw [upd_ne (Ne.symm xD)] at nD
      by_cases e : D = dx
      · rw [e, upd_same] at nD; cases nD
      · rw [upd_ne e, q] at nD; cases nD
  have s1 : Same H (upd (upd (upd H dx (.own x)) x (.ins C dx [])) D (.dK (kwK kvs))) := fun b o hb => by
    rw [upd_ne (fun z => by rw [z] at hb; rw [upd_ne (Ne.symm xD), upd_ne (fun y => by rw [y, upd_same] at nD; cases nD)] at nD; rw [nD] at hb; cases hb), upd_ne (ne_of_none hb nx), upd_ne (ne_of_none hb ndx)]
    exact hb
  have off : ∀ {v : V} {b : Addr}, Th H v → H b = none → v ≠ .ref b := fun {v b} tv nb e => by
    subst e
    cases tv with
    | lst h => rw [nb] at h; cases h
    | tup h => rw [nb] at h; cases h
    | dK h => rw [nb] at h; cases h
  refine ⟨x, dx, D, kwK kvs, rfl, by rw [upd_ne xD, upd_same], ⟨upd_same, fun p hp => ?_, by unfold kwK; rw [List.length_map]; exact hl⟩, bad, k.past s1⟩
  obtain ⟨q, hq, rfl⟩ := List.mem_map.mp hp
  exact ⟨(hv q hq).keep s1, off (hv q hq) nHD, fun z e => by cases e; exact hk q hq⟩
def spVofBad (K : PySem.W.Frag) (CI C : Addr) : Sp := fun vs H _ E => ∃ x, vs = [.ref C, x] ∧ BadN K H x ∧ RzN CI E H
section
variable {P : Program} {w : World} {K : PySem.W.Frag} {mg : Str → Option Value} {base : Heap} {C CI fI : Addr}
theorem ok_Vector_ofX {f fD : Addr} {fd fdD : FuncData} (F : Fun K "of" "Vector.of" s_Vector_of f fd) (T : Tx K mg) (V_Vector : VcK K mg C) (MK_Vector : Mk K C fI) (I_Vector : FnKw P w K mg base CX0 4 fI (spInitV C)) (C_need_numbers : Cal P w K mg base 3 "need_numbers" s_need_numbers ["numbers"] spNeed fD fdD) (GNX : FnOk P w K mg base (L2.CX P w) 3 fD fdD ["numbers"] (spNeedBad K CI)) : FnOk P w K mg base (L2.CX P w) 6 f fd ["cls", "numbers"] (spVofBad K CI C) := by
  refine F.okX sc_Vector_of (fun vs H Q E h => ?_) (fun cdv A outer s H vs Q E hr h => ?_)
  · obtain ⟨x, rfl, _⟩ := h
    rfl
  obtain ⟨x, rfl, hx, k⟩ := h
  have hu := hu_of hr
  have tk : Takes (cxOf (L2.CX P w) P w K mg base ["cls", "numbers"] "Vector.of" (defScope s_Vector_of) f cdv A outer s H E) (fun cls d _ H => E cls d H) := takes_of rfl rfl rfl rfl
  refine ⟨_, (pss_cons (ps_expr (pe_call GNX (hr.mono (by decide)) (by rfl) C_need_numbers.g C_need_numbers.F.kp C_need_numbers.b .nil (passes_call tk fun _ _ _ _ z => z) (pa_cons (pv 1) pa_nil)))
      (pss_one (ps_ret (pe_mkMapV MK_Vector I_Vector (hr.mono (by decide)) pass0 (pv 0) (pv 1))))), ?_⟩
  walk_at "r"
  exact ⟨x, rfl, hx, k⟩
end


end My

namespace My
open PySem PySem.Spec PyProof.Rows L2 EE

local macro_rules | `(tactic| walk_at "sq") => `(tactic| first | assumption | exact sqL_of (by assumption) | exact sqT_of (by assumption))
local macro_rules | `(tactic| walk_at "same") => `(tactic| first
  | assumption
  | exact Same.refl _
  | (refine Same.trans ?_ (by assumption); walk_at "same")
  | (refine same_past ?_ (by assumption) ?_; (walk_at "same"); (walk_at "no")))
local macro_rules | `(tactic| walk_at "no") => `(tactic| first
  | assumption
  | (refine none_same ?_ (by assumption); walk_at "same")
  | (refine none_same (by assumption) ?_; walk_at "no")
  | (refine none_but (by assumption) ?_ ?_; (walk_at "n"); (walk_at "no")))
local macro_rules | `(tactic| walk_at "but") => `(tactic| first
  | assumption
  | exact But.refl _ _
  | (refine But.then ?_ (by assumption); walk_at "but")
  | (refine But.trans ?_ (by assumption); walk_at "but")
  | (refine but_past ?_ (by assumption) ?_; (walk_at "but"); (walk_at "no")))
local macro_rules | `(tactic| walk_at "hasp") => `(tactic| (repeat (first | exact ⟨_, _, by assumption⟩ | (refine hasPen_same (by assumption) ?_))))
local macro_rules | `(tactic| walk_at "hasc") => `(tactic| (repeat (first | exact ⟨_, _, by assumption⟩ | (refine hasCells_same (by assumption) ?_))))
local macro_rules | `(tactic| walk_at "pen") => `(tactic| (repeat (first | assumption | (refine PenAt.keep ?_ (by assumption)))))
local macro_rules | `(tactic| walk_at "has") => `(tactic| first
  | exact ⟨_, by assumption⟩
  | (refine has_same (by assumption) ?_; walk_at "has")
  | (refine has_but (by assumption) ?_ ?_; (walk_at "n"); (walk_at "has")))
local macro_rules | `(tactic| walk_at "n") => `(tactic| first
  | assumption
  | exact Ne.symm (by assumption)
  | (refine ne_free (by assumption) ?_; walk_at "has")
  | (refine ne_free' (by assumption) ?_; walk_at "has")
  | (refine pen_off (by assumption) ?_; walk_at "hasp"; done)
  | (refine Ne.symm (pen_off (by assumption) ?_); walk_at "hasp"; done)
  | (refine pen_off' (by assumption) ?_; walk_at "hasc"; done)
  | (refine Ne.symm (pen_off' (by assumption) ?_); walk_at "hasc"; done))
local macro_rules | `(tactic| walk_at "hh") => `(tactic| first
  | assumption
  | (refine get_same (by assumption) ?_; walk_at "hh")
  | (refine get_but (by assumption) (by walk_at "n") ?_; walk_at "hh"))
local macro_rules | `(tactic| walk_at "h") => `(tactic| first
  | ((repeat (first | assumption | (refine get_same (by assumption) ?_) | (refine get_but (by assumption) (by walk_at "n") ?_))); done)
  | walk_at "hh")
local macro_rules | `(tactic| walk_at "r") => `(tactic| repeat (first
  | (refine go ?_)
  | (with_reducible refine rd_mul ?_ ?_)
  | (with_reducible refine rd_mod ?_ ?_)
  | (with_reducible refine rd_fdiv ?_ ?_)
  | (with_reducible refine rd_pow ?_ ?_)
  | (with_reducible refine rd_strI ?_ ?_)
  | (with_reducible refine rd_addS ?_ ?_)
  | (with_reducible refine rd_lenS ?_ ?_)
  | (with_reducible refine rd_slS ?_ ?_)))
local macro_rules | `(tactic| walk_at "R") => `(tactic| repeat (first
  | (refine go ?_)
  | (with_reducible refine new_lstS fun _ _ _ _ _ => ?_)
  | (with_reducible refine new_lst (Nat.le_of_ble_eq_true rfl) fun _ _ _ _ _ => ?_)
  | (with_reducible refine rd_dnewK fun _ _ _ _ _ => ?_)
  | (with_reducible refine new_tup (Nat.le_of_ble_eq_true rfl) fun _ _ _ _ _ => ?_)
  | ((with_reducible refine len_go ?_); first | (refine Or.inl ⟨_, sqL_of (by walk_at "h"), ?_⟩) | (refine Or.inr ⟨_, sqT_of (by walk_at "h"), ?_⟩))
  | ((with_reducible refine slT_go ?_); refine ⟨_, sqL_of (by walk_at "h"), fun _ _ _ _ _ => ?_⟩)
  | ((with_reducible refine slD_go ?_); refine ⟨_, sqL_of (by walk_at "h"), fun _ _ _ _ _ => ?_⟩)
  | ((with_reducible refine slD1_go ?_); refine ⟨_, sqL_of (by walk_at "h"), fun _ _ _ _ _ => ?_⟩)
  | ((with_reducible refine sl_go ?_); refine ⟨_, sqL_of (by walk_at "h"), fun _ _ _ _ _ => ?_⟩)
  | ((with_reducible refine cat_go ?_); refine catS_go (by walk_at "h") (by walk_at "h") ?_ fun _ _ _ _ _ => ?_; rotate_left)
  | ((with_reducible refine cat_go ?_); refine catV_go (by walk_at "h") (by walk_at "h") (Nat.le_of_ble_eq_true rfl) fun _ _ _ _ _ => ?_)
  | ((with_reducible refine cat_go ?_); refine catV_go (by walk_at "h") (by walk_at "h") ?_ fun _ _ _ _ _ => ?_; rotate_left)
  | ((with_reducible refine ixL_go ?_); refine ⟨_, sqL_of (by walk_at "h"), ?_⟩; refine ⟨_, atI_lit, ?_⟩)
  | (with_reducible refine rd_mul ?_ ?_; rotate_left)
  | (with_reducible refine rd_mod ?_ ?_; rotate_left)
  | (with_reducible refine rd_fdiv ?_ ?_; rotate_left)
  | (with_reducible refine rd_pow ?_ ?_; rotate_left)
  | (with_reducible refine rd_strI ?_ ?_; rotate_left)
  | (with_reducible refine rd_addS ?_ ?_; rotate_left)
  | (with_reducible refine rd_lenS ?_ ?_; rotate_left)
  | (with_reducible refine rd_slS ?_ ?_; rotate_left)))

section
variable {P : Program} {w : World} {K : PySem.W.Frag} {mg : Str → Option Value} {base : Heap} {C : Addr} {fI fN fG pN fX : Addr} {fdN fdX : FuncData}
theorem ok_Vector_of {f fD : Addr} {fd fdD : FuncData} (F : Fun K "of" "Vector.of" s_Vector_of f fd) (T : Tx K mg) (V_Vector : VcK K mg C) (MK_Vector : Mk K C fI) (I_Vector : FnKw P w K mg base CX0 4 fI (spInitV C)) (C_need_numbers : Cal P w K mg base 3 "need_numbers" s_need_numbers ["numbers"] spNeed fD fdD) : FnOk P w K mg base CX0 6 f fd ["cls", "numbers"] (spVof C) := by
  refine F.ok sc_Vector_of (fun vs H Q E h => ?_) (fun cdv A outer s H vs Q E hr h => ?_)
  · obtain ⟨o, ps, rfl, _⟩ := h
    rfl
  · obtain ⟨o, ps, rfl, ho, g, k⟩ := h
    have hu := hu_of hr
    refine ⟨_, (pss_cons (ps_expr (pe_call C_need_numbers.G (hr.mono (by decide)) (by rfl) C_need_numbers.g C_need_numbers.F.kp C_need_numbers.b .nil pass0 (pa_cons (pv 1) pa_nil)))
      (pss_one (ps_ret (pe_mkMapV MK_Vector I_Vector (hr.mono (by decide)) pass0 (pv 0) (pv 1))))), ?_⟩
    walk_at "r"
    refine ⟨o, ps, rfl, ho, g, fun H1 s1 => ?_⟩
    walk_at "r"
    refine ⟨rfl, ?_⟩
    refine rd_mkMap fun D2 H5 nD2 s5 h5 => ?_
    walk_at "r"
    have h1 := s1 _ _ ho
    refine map_at (s5 _ _ h1) h5 (ne_of_none h1 nD2).symm g fun r f' H6 nr nf b6 v6 => ?_
    walk_at "r"
    exact k r f' H6 ((s1.trans s5).free nr) ((s1.trans s5).free nf) (s1.trans (same_past s5 b6 nD2)) v6
end

/-- x in v, v[x], x any value that is no text -/
def getT (ps : List (Str × Int)) : V → Int | .str z => getV ps z | _ => 0
def inT (ps : List (Str × Int)) : V → Bool | .str z => decide (z ∈ ps.map (·.1)) | _ => false
def spVinA (C : Addr) : Sp := fun vs H Q _ => ∃ (a d : Addr) (ps : List (Str × Int)) (x : V), vs = [.ref a, x] ∧ VecRd C H a d ps ∧ Th H x ∧ ∀ H', Same H H' → Q (.bl (inT ps x)) H'
def spVgetA (C : Addr) : Sp := fun vs H Q _ => ∃ (a d : Addr) (ps : List (Str × Int)) (x : V), vs = [.ref a, x] ∧ VecRd C H a d ps ∧ Th H x ∧ ∀ H', Same H H' → Q (.int (getT ps x)) H'
def spVeqF (K : PySem.W.Frag) (C : Addr) : Sp := fun vs H Q _ => ∃ (a : Addr) (y : V) (t : Value), vs = [.ref a, y] ∧ TyX K H y t ∧ PySem.W.kitOne K t (.ref C) = some false ∧ Q (.bl false) H
section
variable {P : Program} {w : World} {K : PySem.W.Frag} {mg : Str → Option Value} {base : Heap} {C : Addr}
theorem ok_Vector_inA {f : Addr} {fd : FuncData} (F : Fun K "__contains__" "Vector.__contains__" s_Vector___contains__ f fd) (T : Tx K mg) (V_Vector : VcK K mg C) : FnOk P w K mg base CX0 1 f fd ["self", "name"] (spVinA C) := by
  refine F.ok sc_Vector___contains__ (fun vs H Q E h => ?_) (fun cdv A outer s H vs Q E hr h => ?_)
  · obtain ⟨a, d, ps, x, rfl, _⟩ := h
    rfl
  obtain ⟨a, d, ps, x, rfl, v, tx, k⟩ := h
  have hu := hu_of hr
  refine ⟨_, (pss_one (ps_ret (pe_and (pe_callB call_isi (by rfl) T.b_isinstance (by decide +kernel) (pa_cons (pv 1) (pa_cons (pe_bltn (v := .ty "str") (by rfl) T.b_str (by decide +kernel) rfl) pa_nil))) (pe_one (pe_cmp (pc_din hu (pv 1) (pe_fld (pv 0) rfl)) rfl))))), ?_⟩
  walk_at "r"
  obtain ⟨t, ty, e1, _, _⟩ := tx.ty (K := K)
  refine rd_isi ty e1 ?_
  cases hs : isStrV x with
  | false =>
    walk_at "r"
    have e : inT ps x = false := by cases x <;> first | rfl | cases hs
    rw [← e]
    exact k _ (Same.refl _)
  | true =>
    obtain ⟨z, rfl⟩ : ∃ z, x = .str z := by
      cases x with
      | str z => exact ⟨z, rfl⟩
      | _ => cases hs
    walk_at "r"
    obtain ⟨dx, ha⟩ := v.at_
    refine fld_at ha V_Vector.cl V_Vector.nH rfl ?_
    walk_at "r"
    refine din_rd v.held ?_
    rw [val_isSome]
    walk_at "r"
    exact k _ (Same.refl _)
theorem ok_Vector_getA {f g : Addr} {fd : FuncData} (F : Fun K "__getitem__" "Vector.__getitem__" s_Vector___getitem__ f fd) (T : Tx K mg) (V_Vector : VcK K mg C) (O_in : OpF P w K mg base 1 C "__contains__" (spVinA C) g) : FnOk P w K mg base CX0 2 f fd ["self", "name"] (spVgetA C) := by
  refine F.ok sc_Vector___getitem__ (fun vs H Q E h => ?_) (fun cdv A outer s H vs Q E hr h => ?_)
  · obtain ⟨a, d, ps, x, rfl, _⟩ := h
    rfl
  obtain ⟨a, d, ps, x, rfl, v, tx, k⟩ := h
  have hu := hu_of hr
  refine ⟨_, (pss_one (ps_ret (pe_ifExp (pt_cmpR (or_inO O_in (hr.mono (by decide)) pass0) (pv 1) (pv 0) rfl) (pe_dget hu (pe_fld (pv 0) rfl) (pv 1) (fun _ _ => rfl)) pe_int))), ?_⟩
  walk_at "r"
  refine rd_inO v.ins ⟨a, d, ps, x, rfl, v, tx, fun H1 s1 => ⟨_, rfl, ?_⟩⟩
  have v1 := v.keep s1
  cases hi : inT ps x with
  | true =>
    obtain ⟨z, rfl, c⟩ : ∃ z, x = .str z ∧ z ∈ ps.map (·.1) := by
      cases x with
      | str z => exact ⟨z, rfl, of_decide_eq_true hi⟩
      | _ => cases hi
    walk_at "r"
    obtain ⟨dx, ha⟩ := v1.at_
    refine fld_at ha V_Vector.cl V_Vector.nH rfl ?_
    walk_at "r"
    refine dget_rd v1.held (val_mem c) ?_
    walk_at "r"
    exact k _ s1
  | false =>
    walk_at "r"
    have e : getT ps x = 0 := by
      cases x with
      | str z => exact getV_none (of_decide_eq_false hi)
      | _ => rfl
    have := k _ s1
    rw [e] at this
    exact this
theorem ok_Vector_eqF {f : Addr} {fd : FuncData} (F : Fun K "__eq__" "Vector.__eq__" s_Vector___eq__ f fd) (T : Tx K mg) (V_Vector : VcK K mg C) : FnOk P w K mg base CX0 1 f fd ["self", "other"] (spVeqF K C) := by
  refine F.ok sc_Vector___eq__ (fun vs H Q E h => ?_) (fun cdv A outer s H vs Q E hr h => ?_)
  · obtain ⟨a, y, t, rfl, _⟩ := h
    rfl
  obtain ⟨a, y, t, rfl, ty, kt, k⟩ := h
  have hu := hr.units0
  refine ⟨_, (pss_one (ps_ret (pe_and (pe_callB call_isi (by rfl) T.b_isinstance (by decide +kernel) (pa_cons (pv 1) (pa_cons (pe_glob (v := .ref _) (by rfl) V_Vector.g rfl) pa_nil))) (pe_one (pe_cmpR (or_eqDI hu) (pe_fld (pv 0) rfl) (pe_fld (pv 1) rfl) (nomark _)))))), ?_⟩
  walk_at "r"
  refine rd_isiO ty kt ?_
  walk_at "r"
  exact k
end


end My

namespace My
open PySem PySem.Spec PyProof.Rows L2 EE

local macro_rules | `(tactic| walk_at "sq") => `(tactic| first | assumption | exact sqL_of (by assumption) | exact sqT_of (by assumption))
local macro_rules | `(tactic| walk_at "same") => `(tactic| first
  | assumption
  | exact Same.refl _
  | (refine Same.trans ?_ (by assumption); walk_at "same")
  | (refine same_past ?_ (by assumption) ?_; (walk_at "same"); (walk_at "no")))
local macro_rules | `(tactic| walk_at "no") => `(tactic| first
  | assumption
  | (refine none_same ?_ (by assumption); walk_at "same")
  | (refine none_same (by assumption) ?_; walk_at "no")
  | (refine none_but (by assumption) ?_ ?_; (walk_at "n"); (walk_at "no")))
local macro_rules | `(tactic| walk_at "but") => `(tactic| first
  | assumption
  | exact But.refl _ _
  | (refine But.then ?_ (by assumption); walk_at "but")
  | (refine But.trans ?_ (by assumption); walk_at "but")
  | (refine but_past ?_ (by assumption) ?_; (walk_at "but"); (walk_at "no")))
local macro_rules | `(tactic| walk_at "hasp") => `(tactic| (repeat (first | exact ⟨_, _, by assumption⟩ | (refine hasPen_same (by assumption) ?_))))
local macro_rules | `(tactic| walk_at "hasc") => `(tactic| (repeat (first | exact ⟨_, _, by assumption⟩ | (refine hasCells_same (by assumption) ?_))))
local macro_rules | `(tactic| walk_at "pen") => `(tactic| (repeat (first | assumption | (refine PenAt.keep ?_ (by assumption)))))
local macro_rules | `(tactic| walk_at "has") => `(tactic| first
  | exact ⟨_, by assumption⟩
  | (refine has_same (by assumption) ?_; walk_at "has")
  | (refine has_but (by assumption) ?_ ?_; (walk_at "n"); (walk_at "has")))
local macro_rules | `(tactic| walk_at "n") => `(tactic| first
  | assumption
  | exact Ne.symm (by assumption)
  | (refine ne_free (by assumption) ?_; walk_at "has")
  | (refine ne_free' (by assumption) ?_; walk_at "has")
  | (refine pen_off (by assumption) ?_; walk_at "hasp"; done)
  | (refine Ne.symm (pen_off (by assumption) ?_); walk_at "hasp"; done)
  | (refine pen_off' (by assumption) ?_; walk_at "hasc"; done)
  | (refine Ne.symm (pen_off' (by assumption) ?_); walk_at "hasc"; done))
local macro_rules | `(tactic| walk_at "hh") => `(tactic| first
  | assumption
  | (refine get_same (by assumption) ?_; walk_at "hh")
  | (refine get_but (by assumption) (by walk_at "n") ?_; walk_at "hh"))
local macro_rules | `(tactic| walk_at "h") => `(tactic| first
  | ((repeat (first | assumption | (refine get_same (by assumption) ?_) | (refine get_but (by assumption) (by walk_at "n") ?_))); done)
  | walk_at "hh")
local macro_rules | `(tactic| walk_at "r") => `(tactic| repeat (first
  | (refine go ?_)
  | (with_reducible refine rd_mul ?_ ?_)
  | (with_reducible refine rd_mod ?_ ?_)
  | (with_reducible refine rd_fdiv ?_ ?_)
  | (with_reducible refine rd_pow ?_ ?_)
  | (with_reducible refine rd_strI ?_ ?_)
  | (with_reducible refine rd_addS ?_ ?_)
  | (with_reducible refine rd_lenS ?_ ?_)
  | (with_reducible refine rd_slS ?_ ?_)))
local macro_rules | `(tactic| walk_at "R") => `(tactic| repeat (first
  | (refine go ?_)
  | (with_reducible refine new_lstS fun _ _ _ _ _ => ?_)
  | (with_reducible refine new_lst (Nat.le_of_ble_eq_true rfl) fun _ _ _ _ _ => ?_)
  | (with_reducible refine rd_dnewK fun _ _ _ _ _ => ?_)
  | (with_reducible refine new_tup (Nat.le_of_ble_eq_true rfl) fun _ _ _ _ _ => ?_)
  | ((with_reducible refine len_go ?_); first | (refine Or.inl ⟨_, sqL_of (by walk_at "h"), ?_⟩) | (refine Or.inr ⟨_, sqT_of (by walk_at "h"), ?_⟩))
  | ((with_reducible refine slT_go ?_); refine ⟨_, sqL_of (by walk_at "h"), fun _ _ _ _ _ => ?_⟩)
  | ((with_reducible refine slD_go ?_); refine ⟨_, sqL_of (by walk_at "h"), fun _ _ _ _ _ => ?_⟩)
  | ((with_reducible refine slD1_go ?_); refine ⟨_, sqL_of (by walk_at "h"), fun _ _ _ _ _ => ?_⟩)
  | ((with_reducible refine sl_go ?_); refine ⟨_, sqL_of (by walk_at "h"), fun _ _ _ _ _ => ?_⟩)
  | ((with_reducible refine cat_go ?_); refine catS_go (by walk_at "h") (by walk_at "h") ?_ fun _ _ _ _ _ => ?_; rotate_left)
  | ((with_reducible refine cat_go ?_); refine catV_go (by walk_at "h") (by walk_at "h") (Nat.le_of_ble_eq_true rfl) fun _ _ _ _ _ => ?_)
  | ((with_reducible refine cat_go ?_); refine catV_go (by walk_at "h") (by walk_at "h") ?_ fun _ _ _ _ _ => ?_; rotate_left)
  | ((with_reducible refine ixL_go ?_); refine ⟨_, sqL_of (by walk_at "h"), ?_⟩; refine ⟨_, atI_lit, ?_⟩)
  | (with_reducible refine rd_mul ?_ ?_; rotate_left)
  | (with_reducible refine rd_mod ?_ ?_; rotate_left)
  | (with_reducible refine rd_fdiv ?_ ?_; rotate_left)
  | (with_reducible refine rd_pow ?_ ?_; rotate_left)
  | (with_reducible refine rd_strI ?_ ?_; rotate_left)
  | (with_reducible refine rd_addS ?_ ?_; rotate_left)
  | (with_reducible refine rd_lenS ?_ ?_; rotate_left)
  | (with_reducible refine rd_slS ?_ ?_; rotate_left)))

section
variable {P : Program} {w : World} {K : PySem.W.Frag} {mg : Str → Option Value} {base : Heap} {C : Addr}
theorem ok_Vector_names {f : Addr} {fd : FuncData} (F : Fun K "names" "Vector.names" s_Vector_names f fd) (T : Tx K mg) (V_Vector : VcK K mg C) : FnOk P w K mg base CX0 1 f fd ["self"] (spVnames C) := by
  refine F.ok sc_Vector_names (fun vs H Q E h => ?_) (fun cdv A outer s H vs Q E hr h => ?_)
  · obtain ⟨z, d, ps, rfl, _⟩ := h
    rfl
  · obtain ⟨a, d, ps, rfl, v, k⟩ := h
    refine ⟨_, (pss_one (ps_ret (pe_callTy (cr_tupD rfl) (by rfl) T.b_tuple (by decide +kernel) (pa_cons (pe_fld (pv 0) rfl) pa_nil)))), ?_⟩
    walk_at "r"
    obtain ⟨dx, ha⟩ := v.at_
    refine fld_at ha V_Vector.cl V_Vector.nH rfl ?_
    walk_at "r"
    refine rd_tupD v.held fun p H1 n1 s1 h1 => ?_
    rw [keys_intB] at h1
    walk_at "r"
    exact k p H1 n1 s1 h1
end

section
variable {P : Program} {w : World} {K : PySem.W.Frag} {mg : Str → Option Value} {base : Heap} {C : Addr}
theorem ok_Vector_len {f : Addr} {fd : FuncData} (F : Fun K "__len__" "Vector.__len__" s_Vector___len__ f fd) (T : Tx K mg) (V_Vector : VcK K mg C) : FnOk P w K mg base CX0 1 f fd ["self"] (spVlen C) := by
  refine F.ok sc_Vector___len__ (fun vs H Q E h => ?_) (fun cdv A outer s H vs Q E hr h => ?_)
  · obtain ⟨z, d, ps, rfl, _⟩ := h
    rfl
  · obtain ⟨a, d, ps, rfl, v, k⟩ := h
    refine ⟨_, (pss_one (ps_ret (pe_callB cr_lenD (by rfl) T.b_len (by decide +kernel) (pa_cons (pe_fld (pv 0) rfl) pa_nil)))), ?_⟩
    walk_at "r"
    obtain ⟨dx, ha⟩ := v.at_
    refine fld_at ha V_Vector.cl V_Vector.nH rfl ?_
    walk_at "r"
    refine rd_lenD v.held ?_
    rw [show (kwK (intB ps)).length = ps.length by unfold kwK intB; rw [List.length_map, List.length_map]]
    walk_at "r"
    exact k
end

section
variable {P : Program} {w : World} {K : PySem.W.Frag} {mg : Str → Option Value} {base : Heap} {C : Addr}
theorem ok_Vector_bool {f : Addr} {fd : FuncData} (F : Fun K "__bool__" "Vector.__bool__" s_Vector___bool__ f fd) (T : Tx K mg) (V_Vector : VcK K mg C) : FnOk P w K mg base CX0 1 f fd ["self"] (spVbool C) := by
  refine F.ok sc_Vector___bool__ (fun vs H Q E h => ?_) (fun cdv A outer s H vs Q E hr h => ?_)
  · obtain ⟨z, d, ps, rfl, _⟩ := h
    rfl
  · obtain ⟨a, d, ps, rfl, v, k⟩ := h
    refine ⟨_, (pss_one (ps_ret (pe_callTy cr_boolD (by rfl) T.b_bool (by decide +kernel) (pa_cons (pe_fld (pv 0) rfl) pa_nil)))), ?_⟩
    walk_at "r"
    obtain ⟨dx, ha⟩ := v.at_
    refine fld_at ha V_Vector.cl V_Vector.nH rfl ?_
    walk_at "r"
    refine rd_boolD v.held ?_
    rw [show (kwK (intB ps)).isEmpty = ps.isEmpty by cases ps <;> rfl]
    walk_at "r"
    exact k
end

section
variable {P : Program} {w : World} {K : PySem.W.Frag} {mg : Str → Option Value} {base : Heap} {C : Addr}
theorem ok_Vector_eq {f : Addr} {fd : FuncData} (F : Fun K "__eq__" "Vector.__eq__" s_Vector___eq__ f fd) (T : Tx K mg) (V_Vector : VcK K mg C) : FnOk P w K mg base CX0 1 f fd ["self", "other"] (spVeq C) := by
  refine F.ok sc_Vector___eq__ (fun vs H Q E h => ?_) (fun cdv A outer s H vs Q E hr h => ?_)
  · obtain ⟨z, d, b, e, ps, qs, rfl, _⟩ := h
    rfl
  · obtain ⟨a, d, b, e, ps, qs, rfl, v1, v2, g1, g2, k⟩ := h
    have hu := hr.units0
    refine ⟨_, (pss_one (ps_ret (pe_and (pe_callB call_isi (by rfl) T.b_isinstance (by decide +kernel) (pa_cons (pv 1) (pa_cons (pe_glob (v := .ref _) (by rfl) V_Vector.g rfl) pa_nil))) (pe_one (pe_cmpR (or_eqDI hu) (pe_fld (pv 0) rfl) (pe_fld (pv 1) rfl) (nomark _)))))), ?_⟩
    walk_at "r"
    refine rd_isiO (V_Vector.ty v2.ins) V_Vector.me ?_
    walk_at "r"
    obtain ⟨dx, ha⟩ := v1.at_
    obtain ⟨dx2, hb⟩ := v2.at_
    refine fld_at ha V_Vector.cl V_Vector.nH rfl ?_
    walk_at "r"
    refine fld_at hb V_Vector.cl V_Vector.nH rfl ?_
    walk_at "r"
    refine rd_eqDI v1.held v2.held g1 g2 ?_
    walk_at "r"
    exact k
end

def spVzero (C : Addr) : Sp := fun vs H Q _ => vs = [] ∧ ∀ r d H', H r = none → H d = none → Same H H' → VecAt C H' r d [] → Q (.ref r) H'
section
variable {P : Program} {w : World} {K : PySem.W.Frag} {mg : Str → Option Value} {base : Heap} {C fI : Addr}
theorem ok_Vector_zero {f : Addr} {fd : FuncData} (F : Fun K "zero" "Vector.zero" s_Vector_zero f fd) (T : Tx K mg) (V_Vector : VcK K mg C) (MK_Vector : Mk K C fI) (I_Vector : FnKw P w K mg base CX0 4 fI (spInitV C)) : FnOk P w K mg base CX0 6 f fd [] (spVzero C) := by
  refine F.ok sc_Vector_zero (fun vs H Q E h => ?_) (fun cdv A outer s H vs Q E hr h => ?_)
  · obtain ⟨rfl, _⟩ := h
    rfl
  obtain ⟨rfl, k⟩ := h
  refine ⟨_, (pss_one (ps_ret (pe_mkKws MK_Vector I_Vector (hr.mono (by decide)) (by rfl) V_Vector.g pass0 pk_nil))), ?_⟩
  walk_at "r"
  refine kws_at (ks := []) (is := []) rfl ⟨fun p h => (by cases h), List.Pairwise.nil, Nat.zero_le _⟩ fun r d H1 nr nd s1 v1 => ?_
  walk_at "r"
  exact k r d H1 nr nd s1 v1
end


end My

namespace My
open PySem PySem.Spec PyProof.Rows L2 EE

local macro_rules | `(tactic| walk_at "sq") => `(tactic| first | assumption | exact sqL_of (by assumption) | exact sqT_of (by assumption))
local macro_rules | `(tactic| walk_at "same") => `(tactic| first
  | assumption
  | exact Same.refl _
  | (refine Same.trans ?_ (by assumption); walk_at "same")
  | (refine same_past ?_ (by assumption) ?_; (walk_at "same"); (walk_at "no")))
local macro_rules | `(tactic| walk_at "no") => `(tactic| first
  | assumption
  | (refine none_same ?_ (by assumption); walk_at "same")
  | (refine none_same (by assumption) ?_; walk_at "no")
  | (refine none_but (by assumption) ?_ ?_; (walk_at "n"); (walk_at "no")))
local macro_rules | `(tactic| walk_at "but") => `(tactic| first
  | assumption
  | exact But.refl _ _
  | (refine But.then ?_ (by assumption); walk_at "but")
  | (refine But.trans ?_ (by assumption); walk_at "but")
  | (refine but_past ?_ (by assumption) ?_; (walk_at "but"); (walk_at "no")))
local macro_rules | `(tactic| walk_at "hasp") => `(tactic| (repeat (first | exact ⟨_, _, by assumption⟩ | (refine hasPen_same (by assumption) ?_))))
local macro_rules | `(tactic| walk_at "hasc") => `(tactic| (repeat (first | exact ⟨_, _, by assumption⟩ | (refine hasCells_same (by assumption) ?_))))
local macro_rules | `(tactic| walk_at "pen") => `(tactic| (repeat (first | assumption | (refine PenAt.keep ?_ (by assumption)))))
local macro_rules | `(tactic| walk_at "has") => `(tactic| first
  | exact ⟨_, by assumption⟩
  | (refine has_same (by assumption) ?_; walk_at "has")
  | (refine has_but (by assumption) ?_ ?_; (walk_at "n"); (walk_at "has")))
local macro_rules | `(tactic| walk_at "n") => `(tactic| first
  | assumption
  | exact Ne.symm (by assumption)
  | (refine ne_free (by assumption) ?_; walk_at "has")
  | (refine ne_free' (by assumption) ?_; walk_at "has")
  | (refine pen_off (by assumption) ?_; walk_at "hasp"; done)
  | (refine Ne.symm (pen_off (by assumption) ?_); walk_at "hasp"; done)
  | (refine pen_off' (by assumption) ?_; walk_at "hasc"; done)
  | (refine Ne.symm (pen_off' (by assumption) ?_); walk_at "hasc"; done))
local macro_rules | `(tactic| walk_at "hh") => `(tactic| first
  | assumption
  | (refine get_same (by assumption) ?_; walk_at "hh")
  | (refine get_but (by assumption) (by walk_at "n") ?_; walk_at "hh"))
local macro_rules | `(tactic| walk_at "h") => `(tactic| first
  | ((repeat (first | assumption | (refine get_same (by assumption) ?_) | (refine get_but (by assumption) (by walk_at "n") ?_))); done)
  | walk_at "hh")
local macro_rules | `(tactic| walk_at "r") => `(tactic| repeat (first
  | (refine go ?_)
  | (with_reducible refine rd_mul ?_ ?_)
  | (with_reducible refine rd_mod ?_ ?_)
  | (with_reducible refine rd_fdiv ?_ ?_)
  | (with_reducible refine rd_pow ?_ ?_)
  | (with_reducible refine rd_strI ?_ ?_)
  | (with_reducible refine rd_addS ?_ ?_)
  | (with_reducible refine rd_lenS ?_ ?_)
  | (with_reducible refine rd_slS ?_ ?_)))
local macro_rules | `(tactic| walk_at "R") => `(tactic| repeat (first
  | (refine go ?_)
  | (with_reducible refine new_lstS fun _ _ _ _ _ => ?_)
  | (with_reducible refine new_lst (Nat.le_of_ble_eq_true rfl) fun _ _ _ _ _ => ?_)
  | (with_reducible refine rd_dnewK fun _ _ _ _ _ => ?_)
  | (with_reducible refine new_tup (Nat.le_of_ble_eq_true rfl) fun _ _ _ _ _ => ?_)
  | ((with_reducible refine len_go ?_); first | (refine Or.inl ⟨_, sqL_of (by walk_at "h"), ?_⟩) | (refine Or.inr ⟨_, sqT_of (by walk_at "h"), ?_⟩))
  | ((with_reducible refine slT_go ?_); refine ⟨_, sqL_of (by walk_at "h"), fun _ _ _ _ _ => ?_⟩)
  | ((with_reducible refine slD_go ?_); refine ⟨_, sqL_of (by walk_at "h"), fun _ _ _ _ _ => ?_⟩)
  | ((with_reducible refine slD1_go ?_); refine ⟨_, sqL_of (by walk_at "h"), fun _ _ _ _ _ => ?_⟩)
  | ((with_reducible refine sl_go ?_); refine ⟨_, sqL_of (by walk_at "h"), fun _ _ _ _ _ => ?_⟩)
  | ((with_reducible refine cat_go ?_); refine catS_go (by walk_at "h") (by walk_at "h") ?_ fun _ _ _ _ _ => ?_; rotate_left)
  | ((with_reducible refine cat_go ?_); refine catV_go (by walk_at "h") (by walk_at "h") (Nat.le_of_ble_eq_true rfl) fun _ _ _ _ _ => ?_)
  | ((with_reducible refine cat_go ?_); refine catV_go (by walk_at "h") (by walk_at "h") ?_ fun _ _ _ _ _ => ?_; rotate_left)
  | ((with_reducible refine ixL_go ?_); refine ⟨_, sqL_of (by walk_at "h"), ?_⟩; refine ⟨_, atI_lit, ?_⟩)
  | (with_reducible refine rd_mul ?_ ?_; rotate_left)
  | (with_reducible refine rd_mod ?_ ?_; rotate_left)
  | (with_reducible refine rd_fdiv ?_ ?_; rotate_left)
  | (with_reducible refine rd_pow ?_ ?_; rotate_left)
  | (with_reducible refine rd_strI ?_ ?_; rotate_left)
  | (with_reducible refine rd_addS ?_ ?_; rotate_left)
  | (with_reducible refine rd_lenS ?_ ?_; rotate_left)
  | (with_reducible refine rd_slS ?_ ?_; rotate_left)))

def wText (p : Str × Int) : Str := p.1 ++ "=" ++ Str.ofString (toString p.2)
/-- a vector's text -/
def vText (ps : List (Str × Int)) : Str := if ps = [] then "0" else Str.join " " (ps.map wText)
def tSp : Sp := fun vs H Q _ => ∃ (d : Addr) (ps : List (Str × Int)), vs = [.ref d] ∧ H d = some (.dK (kwK (intB ps))) ∧ Good ps ∧ GoodB ps ∧ (∀ p ∈ ps, p.2.natAbs < 10 ^ 60) ∧ ∀ H', Same H H' → Q (.str (vText ps)) H'
def spVstr (C : Addr) : Sp := fun vs H Q _ => ∃ (a d : Addr) (ps : List (Str × Int)), vs = [.ref a] ∧ VecAt C H a d ps ∧ Good ps ∧ GoodB ps ∧ (∀ p ∈ ps, p.2.natAbs < 10 ^ 60) ∧ ∀ H', Same H H' → Q (.str (vText ps)) H'
theorem wText_len {p : Str × Int} (n : nameS p.1 = true) (h : p.2.natAbs < 10 ^ 60) : (wText p).length ≤ 70 ∧ (Str.ofString (toString p.2)).length ≤ 61 ∧ p.1.length ≤ 8 := by
  have h1 := len_int (k := 60) (by decide) h
  have h2 := (nameS_bound n).1
  unfold wText
  rw [len_append, len_append]
  have : ("=" : Str).length = 1 := by decide +kernel
  omega
theorem wText_asc {p : Str × Int} (n : nameS p.1 = true) : Asc (wText p) := by
  unfold wText
  exact asc_append (asc_append (nameS_bound n).2 (by decide +kernel)) (asc_int _)
theorem rd_neNilS {K : PySem.W.Frag} {H : Hp} {Q : VK} {q o : Addr} {zs : List Str} (h1 : SqL K H q (zs.map V.str)) (h2 : H o = some (.lst [])) (ha : ∀ z ∈ zs, Asc z) (k : Q (.bl (decide (zs ≠ []))) H) : rNeD K (.ref q) (.ref o) H Q := by
  refine ⟨.list (zs.map PyData.str), .list [], .lst h1 dp_strs, dp_nil h2, (shaped_flat fun d hd => ?_).1, rfl, ?_⟩
  · obtain ⟨z, hz, rfl⟩ := List.mem_map.mp hd
    exact ⟨(ha z hz).ok, rfl⟩
  · cases zs with
    | nil => exact k
    | cons n ns => exact k
theorem sum_le {b : Nat} : ∀ {l : List Nat}, (∀ n ∈ l, n ≤ b) → l.sum ≤ l.length * b
  | [], _ => Nat.zero_le _
  | n :: l, h => by
    have h1 := sum_le (l := l) fun m hm => h m (List.mem_cons_of_mem _ hm)
    have h2 := h n List.mem_cons_self
    rw [List.sum_cons, List.length_cons, Nat.succ_mul]
    omega
/-- str(text) -/
def rStrS : LR := fun xs H Q => ∃ a, xs = [.str a] ∧ Q (.str a) H
theorem cr_strS {X : Cx} : CallR X (.type "str") rStrS := SkE.call_str_str
theorem ten60 {i : Int} (h : i.natAbs < 10 ^ 60) : i.natAbs < 2 ^ 1900 := Nat.lt_of_lt_of_le h (by decide +kernel)
section
variable {P : Program} {w : World} {K : PySem.W.Frag} {mg : Str → Option Value} {base : Heap} {C fX : Addr} {fdX : FuncData}
theorem ok_vector_text {f : Addr} {fd : FuncData} (F : Fun K "vector_text" "vector_text" s_vector_text f fd) (T : Tx K mg) : FnOk P w K mg base CX0 1 f fd ["numbers"] tSp := by
  refine F.ok sc_vector_text (fun vs H Q E h => ?_) (fun cdv A outer s H vs Q E hr h => ?_)
  · obtain ⟨d, ps, rfl, _⟩ := h
    rfl
  · obtain ⟨d, ps, rfl, hd, g, gb, bd, k⟩ := h
    have hu := hu_of hr
    refine ⟨_, (pss_cons (ps_setLc (i := 1) (own := [("name", 2)]) rfl sc_vector_text.nd rfl rfl (sw_true rfl rfl rfl (by decide +kernel)) (pi_list (pe_callB (cr_sortD rfl) (by rfl) T.b_sorted (by decide +kernel) (pa_cons (pv 0) pa_nil))) (blkOk_by (own := [("name", 2)]) (N := ["numbers", "words", "name"]) (sc := defScope s_vector_text) (by decide +kernel)) (fun _ _ _ _ _ => (pg_name (i := 2) sc_vector_text.nd rfl (by first | exact Or.inl rfl | exact Or.inr rfl))) (fun _ _ _ _ _ => (pts_one (pt_cmpR op_ne (pe_dget hu (pv 0) (pv 2) (fun _ _ => rfl)) pe_int (nomark _)))) (fun _ _ _ _ _ => (pe_joinedN (PJ.cons (pe_fmt (pv 2)) (PJ.cons pe_str (PJ.cons (pe_fmt (pe_dget hu (pv 0) (pv 2) (fun _ _ => rfl))) PJ.nil))))))
      (pss_one (ps_ret (pe_ifExp (pt_cmpR (op_neD hr.units) (pv 1) (pe_lst pa_nil) (nomark _)) (pe_m1 PySem.F.slot_str_join PySem.F.type_str_join mt_joinN pe_str (pv 1)) (C8.pe_gc (by rfl) T.c_NOTHING))))), ?_⟩
    walk_at "r"
    refine rd_sortD (.of hd) (by rw [keys_intB]; exact gb.2.1) (by rw [intB, List.length_map]; exact Nat.lt_of_le_of_lt gb.2.2 (by decide)) fun L H1 nL s1 hL => ?_
    have es : srtS (ps.map (·.1)) = ps.map (·.1) := srtS_of_srt g.s
    rw [keys_intB, es] at hL
    walk_at "r"
    refine ⟨⟨_, sqL_of hL⟩, ?_⟩
    have h1 := s1 _ _ hd
    refine lcF_any (l := ps.map (·.1)) (itw_listM (f := V.str)) (fun n => some (V.str (wText (n, getV ps n)))) (fun H' s => sqL_of (s _ _ hL)) (fun D i n x H3 H4 nD hi I y => ?_) fun D H3 nD s3 h3 => ?_
    · obtain ⟨rfl, rfl⟩ := y
      have hm : n ∈ ps.map (·.1) := List.mem_of_getElem? hi
      obtain ⟨p, hp, rfl⟩ := List.mem_map.mp hm
      have ev : getV ps p.1 = p.2 := getV_mem gb.2.1 hp
      walk_at "r"
      refine ⟨rfl, ?_⟩
      walk_at "r"
      have h4 := I.same _ _ h1
      refine dget_s h4 (val_mem hm) ?_
      walk_at "r"
      refine rd_decN (fun c => ?_) (fun c => ?_)
      · walk_at "r"
        obtain ⟨l1, l2, l3⟩ := wText_len (gb.1 p hp) (bd p hp)
        refine fmt_s (Nat.le_trans l3 (by decide)) ?_
        walk_at "r"
        refine js_at (by have : Str.empty.length = 0 := rfl; omega) ?_
        walk_at "r"
        refine js_at (by rw [empty_app]; have : ("=" : Str).length = 1 := (by decide +kernel); omega) ?_
        walk_at "r"
        refine dget_s h4 (val_mem hm) ?_
        walk_at "r"
        rw [ev]
        refine fmt_i (ten60 (bd p hp)) ?_
        walk_at "r"
        refine js_at (by rw [empty_app, len_append]; have : ("=" : Str).length = 1 := (by decide +kernel); omega) ?_
        walk_at "r"
        have e : Str.empty ++ p.1 ++ "=" ++ Str.ofString (toString p.2) = wText (p.1, getV ps p.1) := by rw [empty_app, ev]; rfl
        rw [e]
        refine I.some nD hi rfl (Same.refl _) ?_
        rw [List.length_map]
        have := gb.2.2
        omega
      · exact absurd c (by rw [ev]; exact g.z p hp)
    · have ew : (ps.map (·.1)).map (fun n => V.str (wText (n, getV ps n))) = (ps.map wText).map V.str := by
        rw [List.map_map, List.map_map]
        refine List.map_congr_left fun p hp => ?_
        show V.str (wText (p.1, getV ps p.1)) = V.str (wText p)
        rw [getV_mem gb.2.1 (i := p.2) hp]
      rw [filterMap_some, ew] at h3
      walk_at "r"
      refine new_lst (Nat.zero_le _) fun o H4 n4 s4 h4 => ?_
      walk_at "r"
      refine rd_neNilS (sqL_of (s4 _ _ h3)) h4 (fun z hz => ?_) ?_
      · obtain ⟨p, hp, rfl⟩ := List.mem_map.mp hz
        exact wText_asc (gb.1 p hp)
      · walk_at "r"
        have sF := s1.trans (s3.trans s4)
        refine rd_dec (fun c => ?_) (fun c => ?_)
        · walk_at "r"
          refine rd_joinL (s4 _ _ h3) ?_ ?_
          · rw [List.length_map]
            have := sum_le (l := (ps.map wText).map (·.length)) (b := 70) fun n hn => by
              obtain ⟨z, hz, rfl⟩ := List.mem_map.mp hn
              obtain ⟨p, hp, rfl⟩ := List.mem_map.mp hz
              exact (wText_len (gb.1 p hp) (bd p hp)).1
            rw [List.length_map, List.length_map] at this
            have h60 := gb.2.2
            have : (" " : Str).length = 1 := (by decide +kernel)
            rw [this]
            omega
          · walk_at "r"
            have q := k H4 sF
            unfold vText at q
            rw [if_neg fun z => c (by rw [z]; rfl)] at q
            exact q
        · walk_at "r"
          have q := k H4 sF
          unfold vText at q
          have c0 : ps = [] := List.map_eq_nil_iff.mp (Decidable.not_not.mp c)
          rw [if_pos c0] at q
          exact q
theorem ok_Vector_str {f fT : Addr} {fd fdT : FuncData} (F : Fun K "__str__" "Vector.__str__" s_Vector___str__ f fd) (T : Tx K mg) (V_Vector : VcK K mg C) (C_vector_text : Cal P w K mg base 1 "vector_text" s_vector_text ["numbers"] tSp fT fdT) : FnOk P w K mg base CX0 2 f fd ["self"] (spVstr C) := by
  refine F.ok sc_Vector___str__ (fun vs H Q E h => ?_) (fun cdv A outer s H vs Q E hr h => ?_)
  · obtain ⟨a, d, ps, rfl, _⟩ := h
    rfl
  · obtain ⟨a, d, ps, rfl, v1, g, gb, bd, k⟩ := h
    refine ⟨_, (pss_one (ps_ret (pe_callTy cr_strS (by rfl) T.b_str (by decide +kernel) (pa_cons (pe_call C_vector_text.G (hr.mono (by decide)) (by rfl) C_vector_text.g C_vector_text.F.kp C_vector_text.b .nil pass0 (pa_cons (pe_fld (pv 0) rfl) pa_nil)) pa_nil)))), ?_⟩
    walk_at "r"
    obtain ⟨dx, ha⟩ := v1.at_
    refine fld_at ha V_Vector.cl V_Vector.nH rfl ?_
    walk_at "r"
    refine ⟨d, ps, rfl, v1.held, g, gb, bd, fun H1 s1 => ?_⟩
    walk_at "r"
    exact ⟨_, rfl, k H1 s1⟩
end

theorem vText_len {ps : List (Str × Int)} (gb : GoodB ps) (bd : ∀ p ∈ ps, p.2.natAbs < 10 ^ 60) : (vText ps).length ≤ 5000 := by
  unfold vText
  split
  · decide +kernel
  · have h1 := len_join " " (ps.map wText)
    have h2 := sum_le (l := (ps.map wText).map (·.length)) (b := 70) fun n hn => by
      obtain ⟨z, hz, rfl⟩ := List.mem_map.mp hn
      obtain ⟨p, hp, rfl⟩ := List.mem_map.mp hz
      exact (wText_len (gb.1 p hp) (bd p hp)).1
    rw [List.length_map, List.length_map] at h2
    have h60 := gb.2.2
    have e1 : (" " : Str).length = 1 := (by decide +kernel)
    rw [List.length_map, e1] at h1
    omega
def spVrepr (C : Addr) : Sp := fun vs H Q _ => ∃ (a d : Addr) (ps : List (Str × Int)), vs = [.ref a] ∧ VecAt C H a d ps ∧ Good ps ∧ GoodB ps ∧ (∀ p ∈ ps, p.2.natAbs < 10 ^ 60) ∧ ∀ H', Same H H' → Q (.str ("Vector(" ++ vText ps ++ ")")) H'
section
variable {P : Program} {w : World} {K : PySem.W.Frag} {mg : Str → Option Value} {base : Heap} {C : Addr}
theorem ok_Vector_repr {f fT : Addr} {fd fdT : FuncData} (F : Fun K "__repr__" "Vector.__repr__" s_Vector___repr__ f fd) (T : Tx K mg) (V_Vector : VcK K mg C) (C_vector_text : Cal P w K mg base 1 "vector_text" s_vector_text ["numbers"] tSp fT fdT) : FnOk P w K mg base CX0 2 f fd ["self"] (spVrepr C) := by
  refine F.ok sc_Vector___repr__ (fun vs H Q E h => ?_) (fun cdv A outer s H vs Q E hr h => ?_)
  · obtain ⟨a, d, ps, rfl, _⟩ := h
    rfl
  obtain ⟨a, d, ps, rfl, v1, g, gb, bd, k⟩ := h
  refine ⟨_, (pss_one (ps_ret (pe_joinedN (PJ.cons pe_str (PJ.cons (pe_fmt (pe_call C_vector_text.G (hr.mono (by decide)) (by rfl) C_vector_text.g C_vector_text.F.kp C_vector_text.b .nil pass0 (pa_cons (pe_fld (pv 0) rfl) pa_nil))) (PJ.cons pe_str PJ.nil)))))), ?_⟩
  have l1 : (vText ps).length ≤ 5000 := vText_len gb bd
  have e7 : ("Vector(" : Str).length = 7 := (by decide +kernel)
  have e0 : Str.empty.length = 0 := rfl
  walk_at "r"
  refine js_at (by omega) ?_
  walk_at "r"
  obtain ⟨dx, ha⟩ := v1.at_
  refine fld_at ha V_Vector.cl V_Vector.nH rfl ?_
  walk_at "r"
  refine ⟨d, ps, rfl, v1.held, g, gb, bd, fun H1 s1 => ?_⟩
  walk_at "r"
  refine fmt_s (Nat.le_trans l1 (by decide)) ?_
  walk_at "r"
  refine js_at (by rw [empty_app]; omega) ?_
  walk_at "r"
  refine js_at (by rw [empty_app, len_append]; have : (")" : Str).length = 1 := (by decide +kernel); omega) ?_
  walk_at "r"
  have q := k H1 s1
  rw [empty_app]
  exact q
end


end My

namespace My
open PySem PySem.Spec PyProof.Rows L2 EE

local macro_rules | `(tactic| walk_at "sq") => `(tactic| first | assumption | exact sqL_of (by assumption) | exact sqT_of (by assumption))
local macro_rules | `(tactic| walk_at "same") => `(tactic| first
  | assumption
  | exact Same.refl _
  | (refine Same.trans ?_ (by assumption); walk_at "same")
  | (refine same_past ?_ (by assumption) ?_; (walk_at "same"); (walk_at "no")))
local macro_rules | `(tactic| walk_at "no") => `(tactic| first
  | assumption
  | (refine none_same ?_ (by assumption); walk_at "same")
  | (refine none_same (by assumption) ?_; walk_at "no")
  | (refine none_but (by assumption) ?_ ?_; (walk_at "n"); (walk_at "no")))
local macro_rules | `(tactic| walk_at "but") => `(tactic| first
  | assumption
  | exact But.refl _ _
  | (refine But.then ?_ (by assumption); walk_at "but")
  | (refine But.trans ?_ (by assumption); walk_at "but")
  | (refine but_past ?_ (by assumption) ?_; (walk_at "but"); (walk_at "no")))
local macro_rules | `(tactic| walk_at "hasp") => `(tactic| (repeat (first | exact ⟨_, _, by assumption⟩ | (refine hasPen_same (by assumption) ?_))))
local macro_rules | `(tactic| walk_at "hasc") => `(tactic| (repeat (first | exact ⟨_, _, by assumption⟩ | (refine hasCells_same (by assumption) ?_))))
local macro_rules | `(tactic| walk_at "pen") => `(tactic| (repeat (first | assumption | (refine PenAt.keep ?_ (by assumption)))))
local macro_rules | `(tactic| walk_at "has") => `(tactic| first
  | exact ⟨_, by assumption⟩
  | (refine has_same (by assumption) ?_; walk_at "has")
  | (refine has_but (by assumption) ?_ ?_; (walk_at "n"); (walk_at "has")))
local macro_rules | `(tactic| walk_at "n") => `(tactic| first
  | assumption
  | exact Ne.symm (by assumption)
  | (refine ne_free (by assumption) ?_; walk_at "has")
  | (refine ne_free' (by assumption) ?_; walk_at "has")
  | (refine pen_off (by assumption) ?_; walk_at "hasp"; done)
  | (refine Ne.symm (pen_off (by assumption) ?_); walk_at "hasp"; done)
  | (refine pen_off' (by assumption) ?_; walk_at "hasc"; done)
  | (refine Ne.symm (pen_off' (by assumption) ?_); walk_at "hasc"; done))
local macro_rules | `(tactic| walk_at "hh") => `(tactic| first
  | assumption
  | (refine get_same (by assumption) ?_; walk_at "hh")
  | (refine get_but (by assumption) (by walk_at "n") ?_; walk_at "hh"))
local macro_rules | `(tactic| walk_at "h") => `(tactic| first
  | ((repeat (first | assumption | (refine get_same (by assumption) ?_) | (refine get_but (by assumption) (by walk_at "n") ?_))); done)
  | walk_at "hh")
local macro_rules | `(tactic| walk_at "r") => `(tactic| repeat (first
  | (refine go ?_)
  | (with_reducible refine rd_mul ?_ ?_)
  | (with_reducible refine rd_mod ?_ ?_)
  | (with_reducible refine rd_fdiv ?_ ?_)
  | (with_reducible refine rd_pow ?_ ?_)
  | (with_reducible refine rd_strI ?_ ?_)
  | (with_reducible refine rd_addS ?_ ?_)
  | (with_reducible refine rd_lenS ?_ ?_)
  | (with_reducible refine rd_slS ?_ ?_)))
local macro_rules | `(tactic| walk_at "R") => `(tactic| repeat (first
  | (refine go ?_)
  | (with_reducible refine new_lstS fun _ _ _ _ _ => ?_)
  | (with_reducible refine new_lst (Nat.le_of_ble_eq_true rfl) fun _ _ _ _ _ => ?_)
  | (with_reducible refine rd_dnewK fun _ _ _ _ _ => ?_)
  | (with_reducible refine new_tup (Nat.le_of_ble_eq_true rfl) fun _ _ _ _ _ => ?_)
  | ((with_reducible refine len_go ?_); first | (refine Or.inl ⟨_, sqL_of (by walk_at "h"), ?_⟩) | (refine Or.inr ⟨_, sqT_of (by walk_at "h"), ?_⟩))
  | ((with_reducible refine slT_go ?_); refine ⟨_, sqL_of (by walk_at "h"), fun _ _ _ _ _ => ?_⟩)
  | ((with_reducible refine slD_go ?_); refine ⟨_, sqL_of (by walk_at "h"), fun _ _ _ _ _ => ?_⟩)
  | ((with_reducible refine slD1_go ?_); refine ⟨_, sqL_of (by walk_at "h"), fun _ _ _ _ _ => ?_⟩)
  | ((with_reducible refine sl_go ?_); refine ⟨_, sqL_of (by walk_at "h"), fun _ _ _ _ _ => ?_⟩)
  | ((with_reducible refine cat_go ?_); refine catS_go (by walk_at "h") (by walk_at "h") ?_ fun _ _ _ _ _ => ?_; rotate_left)
  | ((with_reducible refine cat_go ?_); refine catV_go (by walk_at "h") (by walk_at "h") (Nat.le_of_ble_eq_true rfl) fun _ _ _ _ _ => ?_)
  | ((with_reducible refine cat_go ?_); refine catV_go (by walk_at "h") (by walk_at "h") ?_ fun _ _ _ _ _ => ?_; rotate_left)
  | ((with_reducible refine ixL_go ?_); refine ⟨_, sqL_of (by walk_at "h"), ?_⟩; refine ⟨_, atI_lit, ?_⟩)
  | (with_reducible refine rd_mul ?_ ?_; rotate_left)
  | (with_reducible refine rd_mod ?_ ?_; rotate_left)
  | (with_reducible refine rd_fdiv ?_ ?_; rotate_left)
  | (with_reducible refine rd_pow ?_ ?_; rotate_left)
  | (with_reducible refine rd_strI ?_ ?_; rotate_left)
  | (with_reducible refine rd_addS ?_ ?_; rotate_left)
  | (with_reducible refine rd_lenS ?_ ?_; rotate_left)
  | (with_reducible refine rd_slS ?_ ?_; rotate_left)))

section
variable {P : Program} {w : World} {K : PySem.W.Frag} {mg : Str → Option Value} {base : Heap}
theorem ok__law_draw {f : Addr} {fd : FuncData} (F : Fun K "_law_draw" "_law_draw" s__law_draw f fd) (T : Tx K mg) : FnOk P w K mg base CX0 1 f fd ["_law_pen_here", "_law_many"] spDraw := by
  refine F.ok sc__law_draw (fun vs H Q E h => ?_) (fun cdv A outer s H vs Q E hr h => ?_)
  · obtain ⟨p, q, many, n, rfl, _⟩ := h
    rfl
  · obtain ⟨p, q, many, n, rfl, h0, h1, hn, hp, k⟩ := h
    have hu := hu_of hr
    refine ⟨_, (pss_cons (ps_if (pt_cmpR op_gt (pe_ix (ix_listK (K := K) rfl) (pv 0) pe_int (fun _ _ => rfl)) pe_int (nomark _)) (pss_cons (ps_set (i := 2) sc__law_draw.nd rfl (by first | exact Or.inl rfl | exact Or.inr rfl) (pe_op op_mod (pe_callTy cr_int1 (by rfl) T.b_int (by decide +kernel) (pa_cons (pe_ix (ix_listK (K := K) rfl) (pv 0) pe_int (fun _ _ => rfl)) pa_nil)) (pv 1)))
      (pss_cons (ps_asg (pe_op op_fdiv (pe_callTy cr_int1 (by rfl) T.b_int (by decide +kernel) (pa_cons (pe_ix (ix_listK (K := K) rfl) (pv 0) pe_int (fun _ _ => rfl)) pa_nil)) (pv 1)) (pg_sub (pv 0) pe_int set_list))
      (pss_one (ps_ret (pv 2))))) pss_nil)
      (pss_cons (ps_set (i := 3) sc__law_draw.nd rfl (by first | exact Or.inl rfl | exact Or.inr rfl) (pe_ix (ix_listK (K := K) rfl) (pv 0) pe_int (fun _ _ => rfl)))
      (pss_cons (ps_asg (pe_op op_add (pv 3) pe_int) (pg_sub (pv 0) pe_int set_list))
      (pss_cons (ps_set (i := 4) sc__law_draw.nd rfl (by first | exact Or.inl rfl | exact Or.inr rfl) (pe_op op_add (pe_op op_mul pe_int (pv 3)) pe_int))
      (Evl.pss_cut (ps_if (pt_cmpR (op_neD hr.units) (pe_ix (ix_listK (K := K) rfl) (pv 0) pe_int (fun _ _ => rfl)) (pe_lst pa_nil) (nomark _)) (pss_one (ps_set (i := 4) sc__law_draw.nd rfl (by first | exact Or.inl rfl | exact Or.inr rfl) (pe_ix (ix_listK (K := K) rfl) (pe_ix (ix_listK (K := K) rfl) (pv 0) pe_int (fun _ _ => rfl)) (pe_op op_mod (pe_callTy cr_int1 (by rfl) T.b_int (by decide +kernel) (pa_cons (pv 3) pa_nil)) (pe_callB cr_lenQ (by rfl) T.b_len (by decide +kernel) (pa_cons (pe_ix (ix_listK (K := K) rfl) (pv 0) pe_int (fun _ _ => rfl)) pa_nil))) (fun _ _ => rfl)))) pss_nil)
      (Evl.pss_cut (ps_if (PW.pt (pw_and (pt_cmpR op_lt (pv 3) (pe_callB cr_lenQ (by rfl) T.b_len (by decide +kernel) (pa_cons (pe_ix (ix_listK (K := K) rfl) (pv 0) pe_int (fun _ _ => rfl)) pa_nil)) (nomark _)) (pw_and1 (pt_cmpR op_ge (pe_callB cr_abs (by rfl) T.b_abs (by decide +kernel) (pa_cons (pv 4) pa_nil)) (pe_op op_pow pe_int pe_int) (nomark _))))) (pss_cons (ps_set (i := 5) sc__law_draw.nd rfl (by first | exact Or.inl rfl | exact Or.inr rfl) (pe_op op_add (pe_op op_mul pe_int (pe_op op_sub (pe_callB cr_abs (by rfl) T.b_abs (by decide +kernel) (pa_cons (pv 4) pa_nil)) (pe_op op_pow pe_int pe_int))) (pe_callTy cr_int1 (by rfl) T.b_int (by decide +kernel) (pa_cons (pe_cmpR op_lt (pv 4) pe_int (nomark _)) pa_nil))))
      (pss_cons (ps_asg (pe_op op_fdiv (pv 5) (pv 1)) (pg_sub (pv 0) pe_int set_list))
      (pss_one (ps_ret (pe_op op_mod (pe_callTy cr_int1 (by rfl) T.b_int (by decide +kernel) (pa_cons (pv 5) pa_nil)) (pv 1)))))) pss_nil)
      (pss_cons (ps_set (i := 6) sc__law_draw.nd rfl (by first | exact Or.inl rfl | exact Or.inr rfl) (pe_op op_mod (pe_callTy cr_int1 (by rfl) T.b_int (by decide +kernel) (pa_cons (pe_op op_pow (pe_op op_add (pe_op op_add (pe_op op_mod (pe_callTy cr_int1 (by rfl) T.b_int (by decide +kernel) (pa_cons (pv 4) pa_nil)) pe_int) (pe_op op_mul pe_int (pv 3))) pe_int) pe_int) pa_nil)) pe_int))
      (pss_cons (ps_set (i := 6) sc__law_draw.nd rfl (by first | exact Or.inl rfl | exact Or.inr rfl) (pe_op op_mod (pe_callTy cr_int1 (by rfl) T.b_int (by decide +kernel) (pa_cons (pe_op op_pow (pe_op op_add (pe_op op_add (pe_op op_mul (pv 6) (pe_op op_add (pe_op op_mul pe_int (pv 3)) pe_int)) (pe_op op_mul (pe_op op_mul pe_int (pv 3)) (pv 3))) pe_int) pe_int) pa_nil)) pe_int))
      (pss_one (ps_ret (pe_op op_mod (pe_callTy cr_int1 (by rfl) T.b_int (by decide +kernel) (pa_cons (pe_op op_fdiv (pv 6) pe_int) pa_nil)) (pv 1)))))))))))), ?_⟩
    obtain ⟨ns, a, r, hp, hq, ha0, han, hl⟩ := hp
    have nqp : q ≠ p := ne_of hq hp (by intro z; injection z with z; cases ns with
      | nil => cases z
      | cons m ms => cases z)
    walk_at "r"
    refine rd_ixL (sqL_of hp) rfl ?_
    walk_at "r"
    refine rd_dec (fun c => ?_) (fun c => ?_)
    · walk_at "r"
      refine rd_ixL (sqL_of hp) rfl ?_
      walk_at "r"
      · refine rd_ixL (sqL_of hp) rfl ?_
        walk_at "r"
        · refine sto_lst hp rfl (fun H1 e1 p1 => ?_)
          walk_at "r"
          exact k _ _ (modLo h0) (modHi h0) e1 ⟨ns, a, _, p1, e1 _ _ nqp hq, ha0, by omega, hl⟩
        · exact ⟨h0, h1⟩
      · exact h0
    · walk_at "r"
      refine rd_ixL (sqL_of hp) rfl ?_
      walk_at "r"
      refine sto_lst hp rfl (fun H1 e1 p1 => ?_)
      have q1 := e1 _ _ nqp hq
      walk_at "r"
      · refine ⟨fun σ' H' => ∃ cell : Int, σ' = [some (.ref p), some (.int many), none, some (.int a), some (.int cell), none, none] ∧ H' p = some (.lst [.ref q, .int (a + 1), .int r]) ∧ H' q = some (.lst (ns.map V.int)) ∧ But p H H', ?_, ?_⟩
        · walk_at "r"
          refine rd_ixL (sqL_of p1) rfl ?_
          walk_at "r"
          refine new_lst (by decide) fun o H2 ho e2 o2 => ?_
          have p2 := e2 _ _ p1
          have q2 := e2 _ _ q1
          have e12 := e1.then e2
          refine rd_neNil (sqL_of q2) o2 ?_
          walk_at "r"
          refine rd_dec (fun hne => ?_) (fun c2 => ?_)
          · have hpos : 0 < (ns.map V.int).length := by rw [List.length_map]; exact List.length_pos_iff.mpr hne
            walk_at "r"
            refine rd_ixL (sqL_of p2) rfl ?_
            walk_at "r"
            refine rd_ixL (sqL_of p2) rfl ?_
            walk_at "r"
            refine rd_len (sqL_of q2) ?_
            walk_at "r"
            · obtain ⟨j, hj, _, hat⟩ := atI_lt (xs := ns.map V.int) (i := a % ((ns.map V.int).length : Nat)) (modLo (by omega)) (modHi (by omega))
              rw [List.getElem_map] at hat
              refine rd_ixL (sqL_of q2) hat ?_
              walk_at "r"
              exact ⟨_, rfl, p2, q2, e12⟩
            · omega
          · walk_at "r"
            exact ⟨_, rfl, p2, q2, e12⟩
        · rintro σ' H2 ⟨cell, rfl, p2, q2, e2⟩
          walk_at "r"
          refine ⟨fun σ' H' => σ' = [some (.ref p), some (.int many), none, some (.int a), some (.int cell), none, none] ∧ H' = H2, ?_, ?_⟩
          · walk_at "r"
            refine rd_ixL (sqL_of p2) rfl ?_
            walk_at "r"
            refine rd_len (sqL_of q2) ?_
            walk_at "r"
            refine rd_dec (fun c3 => ?_) (fun c3 => ⟨rfl, rfl⟩)
            walk_at "r"
            · refine rd_dec (fun c4 => ?_) (fun c4 => ⟨rfl, rfl⟩)
              walk_at "r"
              · refine sto_lst p2 rfl (fun H3 e3 p3 => ?_)
                walk_at "r"
                · exact k _ _ (modLo h0) (modHi h0) (e2.trans e3) ⟨ns, a + 1, _, p3, e3 _ _ nqp q2, by omega, by omega, hl⟩
                · exact h0
              all_goals first
                | exact ⟨h0, h1⟩
                | exact .inl (by decide)
                | exact ⟨by decide, by decide, by decide⟩
            · exact ⟨by decide, by decide, by decide⟩
          · rintro σ' H' ⟨rfl, rfl⟩
            have hb0 : 0 ≤ cell % 2147483549 := modLo (by decide)
            have hb1 : cell % 2147483549 < 2147483549 := modHi (by decide)
            walk_at "r"
            · exact k _ _ (modLo h0) (modHi h0) e2 ⟨ns, a + 1, r, p2, q2, by omega, by omega, hl⟩
            all_goals first
              | exact h0
              | decide
              | exact ⟨by decide, by decide⟩
              | exact .inl (by omega)
              | exact mixMul ha0 (by omega) (by decide) (by decide)
              | exact mixL (by decide) (by decide)
              | exact ⟨by decide, by decide, by omega⟩
              | exact mixOk (modLo (by decide)) (Int.lt_trans (modHi (by decide)) (by decide)) ha0 (by omega) (by decide) (by decide) (by decide) (by decide) (by decide) (by decide)
      · exact .inl (by decide)
theorem ok__law_pen {f : Addr} {fd : FuncData} (F : Fun K "_law_pen" "_law_pen" s__law_pen f fd) (T : Tx K mg) : FnOk P w K mg base CX0 1 f fd ["_law_script"] (spPen K) := by
  refine F.ok sc__law_pen (fun vs H Q E h => ?_) (fun cdv A outer s H vs Q E hr h => ?_)
  · obtain ⟨a, ns, rfl, _⟩ := h
    rfl
  · obtain ⟨a, ns, rfl, hs, hl, k⟩ := h
    refine ⟨_, (pss_one (ps_ret (pe_lst (pa_cons (pe_callTy cr_listOf (by rfl) T.b_list (by decide +kernel) (pa_cons (pe_slice sl_list (pv 0) po_none (po_some pe_int)) pa_nil)) (pa_cons pe_int (pa_cons pe_int pa_nil)))))), ?_⟩
    walk_at "r"
    refine rd_slL hs fun p1 H1 n1 s1 h1 => ?_
    walk_at "r"
    rw [cutV_ints] at h1
    refine rd_listOf (sqL_of h1) fun p2 H2 n2 s2 h2 => ?_
    walk_at "r"
    refine new_lst (by show 3 ≤ sizeLine; decide) fun p3 H3 n3 s3 h3 => ?_
    refine k p3 p2 H3 (Same.free (s1.trans s2) n3) ((s1.trans s2).trans s3) ⟨_, 0, 0, h3, s3 _ _ h2, Int.le_refl _, Int.le_refl _, ?_⟩
    exact Nat.le_trans (len_cutI _ _ _) hl
theorem ok__law_pick {f fD : Addr} {fd fdD : FuncData} (F : Fun K "_law_pick" "_law_pick" s__law_pick f fd) (T : Tx K mg) (C__law_draw : Cal P w K mg base 1 "_law_draw" s__law_draw ["_law_pen_here", "_law_many"] spDraw fD fdD) : FnOk P w K mg base CX0 2 f fd ["_law_pen_here", "_law_some"] spPickL := by
  refine F.ok sc__law_pick (fun vs H Q E h => ?_) (fun cdv A outer s H vs Q E hr h => ?_)
  · obtain ⟨p, q, l, xs, n, rfl, _⟩ := h
    rfl
  · obtain ⟨p, q, l, xs, n, rfl, hx, hlp, h0, h1, hn, hp, k⟩ := h
    refine ⟨_, (pss_one (ps_ret (pe_ix (ix_listK (K := K) rfl) (pv 1) (pe_call C__law_draw.G (hr.mono (by decide)) (by rfl) C__law_draw.g C__law_draw.F.kp C__law_draw.b .nil pass0 (pa_cons (pv 0) (pa_cons (pe_callB cr_lenQ (by rfl) T.b_len (by decide +kernel) (pa_cons (pv 1) pa_nil)) pa_nil))) (fun _ _ => rfl)))), ?_⟩
    walk_at "r"
    refine rd_len (sqL_of hx) ?_
    walk_at "r"
    refine ⟨p, q, _, n, rfl, by omega, by omega, hn, hp, fun d H' d0 d1 sm hp' => ?_⟩
    obtain ⟨j, hj, _, hat⟩ := atI_lt (xs := xs) (i := d) d0 d1
    refine rd_ixL (sqL_of (sm _ _ hlp hx)) hat ?_
    exact k _ _ (List.getElem_mem hj) sm hp'

end
theorem pow10_lt {k : Nat} (h : k ≤ 60) : (10 : Nat) ^ k < 2 ^ 200 := Nat.lt_of_le_of_lt (Nat.pow_le_pow_right (by decide) h) (by decide)
def spGreat : Sp := fun vs H Q _ => ∃ (p q : Addr) (n : Nat), vs = [.ref p, .int 60] ∧ n ≤ 1000000 - 2 ∧ PenAt n H p q ∧ ∀ (i : Int) (H' : Hp), i.natAbs ≤ 10 ^ 59 → But p H H' → PenAt (n + 2) H' p q → Q (.int i) H'
def spWhole : Sp := fun vs H Q _ => ∃ (p q : Addr) (n : Nat), vs = [.ref p] ∧ n ≤ 1000000 - 4 ∧ PenAt n H p q ∧ ∀ (i : Int) (H' : Hp), i.natAbs < 10 ^ 60 → But p H H' → PenAt (n + 4) H' p q → Q (.int i) H'
section
variable {P : Program} {w : World} {K : PySem.W.Frag} {mg : Str → Option Value} {base : Heap} {fD fG : Addr} {fdD fdG : FuncData}
theorem ok__law_great {f : Addr} {fd : FuncData} (F : Fun K "_law_great" "_law_great" s__law_great f fd) (T : Tx K mg) (C__law_draw : Cal P w K mg base 1 "_law_draw" s__law_draw ["_law_pen_here", "_law_many"] spDraw fD fdD) : FnOk P w K mg base CX0 2 f fd ["_law_pen_here", "_law_most"] spGreat := by
  refine F.ok sc__law_great (fun vs H Q E h => ?_) (fun cdv A outer s H vs Q E hr h => ?_)
  · obtain ⟨p, q, n, rfl, _⟩ := h
    rfl
  · obtain ⟨p, q, n, rfl, hn, hp, k⟩ := h
    refine ⟨_, (pss_cons (ps_set (i := 2) sc__law_great.nd rfl (by first | exact Or.inl rfl | exact Or.inr rfl) pe_int)
      (pss_cons (ps_for (by first | exact PassesOwn.never | exact passes_of rfl) rfl (pi_range1 (by rfl) T.b_range (pa_cons (pe_call C__law_draw.G (hr.mono (by decide)) (by rfl) C__law_draw.g C__law_draw.F.kp C__law_draw.b .nil pass0 (pa_cons (pv 0) (pa_cons (pv 1) pa_nil))) pa_nil)) (pg_name (i := 3) sc__law_great.nd rfl (by first | exact Or.inl rfl | exact Or.inr rfl))
      (pss_one (ps_set (i := 2) sc__law_great.nd rfl (by first | exact Or.inl rfl | exact Or.inr rfl) (pe_op op_mul pe_int (pv 2)))))
      (pss_one (ps_ret (pe_op op_sub (pv 2) (pe_call C__law_draw.G (hr.mono (by decide)) (by rfl) C__law_draw.g C__law_draw.F.kp C__law_draw.b .nil pass0 (pa_cons (pv 0) (pa_cons pe_int pa_nil)))))))), ?_⟩
    walk_at "r"
    refine ⟨p, q, 60, n, rfl, by decide, by decide, by omega, hp, fun d H1 d0 d1 b1 p1 => ?_⟩
    walk_at "r"
    refine ⟨by omega, by omega, ?_⟩
    refine for_any itw_range (fun i σ H' => ∃ x : Option V, σ = [some (.ref p), some (.int 60), some (.int ((10 ^ i : Nat) : Int)), x] ∧ H' = H1) (fun _ _ _ _ => trivial) ⟨none, rfl, rfl⟩ (fun i a x σ1 H2 H3 hi I y => ?_) fun σ1 H2 I => ?_
    · obtain ⟨x1, rfl, rfl⟩ := I
      obtain ⟨rfl, rfl⟩ := y
      walk_at "r"
      · refine ⟨some (.int (0 + (a : Nat))), ?_, rfl⟩
        have e : (10 : Int) * ((10 ^ i : Nat) : Int) = ((10 ^ (i + 1) : Nat) : Int) := by rw [Nat.pow_succ]; omega
        rw [e]
      · exact .inl (by decide)
    · obtain ⟨x1, rfl, rfl⟩ := I
      rw [List.length_range]
      walk_at "r"
      refine ⟨p, q, 2, n + 1, rfl, by decide, by decide, by omega, p1, fun d2 H3 e0 e1 b3 p3 => ?_⟩
      walk_at "r"
      refine k _ H3 ?_ (b1.trans b3) p3
      have : d.toNat ≤ 59 := by omega
      have h1 := Nat.pow_le_pow_right (by decide : 0 < 10) this
      have h0 : 0 < 10 ^ d.toNat := Nat.pow_pos (by decide)
      omega
theorem ok__law_whole {f : Addr} {fd : FuncData} (F : Fun K "_law_whole" "_law_whole" s__law_whole f fd) (T : Tx K mg) (C__law_draw : Cal P w K mg base 1 "_law_draw" s__law_draw ["_law_pen_here", "_law_many"] spDraw fD fdD) (C__law_great : Cal P w K mg base 2 "_law_great" s__law_great ["_law_pen_here", "_law_most"] spGreat fG fdG) : FnOk P w K mg base CX0 3 f fd ["_law_pen_here"] spWhole := by
  refine F.ok sc__law_whole (fun vs H Q E h => ?_) (fun cdv A outer s H vs Q E hr h => ?_)
  · obtain ⟨p, q, n, rfl, _⟩ := h
    rfl
  · obtain ⟨p, q, n, rfl, hn, hp, k⟩ := h
    refine ⟨_, (pss_cons (ps_set (i := 1) sc__law_whole.nd rfl (by first | exact Or.inl rfl | exact Or.inr rfl) (pe_call C__law_draw.G (hr.mono (by decide)) (by rfl) C__law_draw.g C__law_draw.F.kp C__law_draw.b .nil pass0 (pa_cons (pv 0) (pa_cons pe_int pa_nil))))
      (pss_cons (ps_set (i := 2) sc__law_whole.nd rfl (by first | exact Or.inl rfl | exact Or.inr rfl) (pe_call C__law_great.G (hr.mono (by decide)) (by rfl) C__law_great.g C__law_great.F.kp C__law_great.b .nil pass0 (pa_cons (pv 0) (pa_cons pe_int pa_nil))))
      (pss_one (ps_ret (pe_ix (ix_listK (K := K) rfl) (pe_lst (pa_cons pe_int (pa_cons (pe_op op_sub (pe_call C__law_draw.G (hr.mono (by decide)) (by rfl) C__law_draw.g C__law_draw.F.kp C__law_draw.b .nil pass0 (pa_cons (pv 0) (pa_cons pe_int pa_nil))) pe_int) (pa_cons (pv 2) (pa_cons (pe_op op_sub pe_int (pv 2)) pa_nil))))) (pv 1) (fun _ _ => rfl)))))), ?_⟩
    walk_at "r"
    refine ⟨p, q, 4, n, rfl, by decide, by decide, by omega, hp, fun d H1 d0 d1 b1 p1 => ?_⟩
    walk_at "r"
    refine ⟨p, q, n + 1, rfl, by omega, p1, fun g H2 hg b2 p2 => ?_⟩
    walk_at "r"
    refine ⟨p, q, 19, n + 3, rfl, by decide, by decide, by omega, p2, fun e H3 e0 e1 b3 p3 => ?_⟩
    walk_at "r"
    refine new_lst (by show 4 ≤ sizeLine; decide) fun l H4 n4 s4 h4 => ?_
    walk_at "r"
    refine rd_pickL h4 d0 d1 fun x hx => ?_
    walk_at "r"
    have big : (10 : Nat) ^ 60 = 10 * 10 ^ 59 := by decide
    have kk : ∀ i : Int, i.natAbs < 10 ^ 60 → Q (.int i) H4 := fun i hi => k i H4 hi ((b1.trans b2).trans b3 |>.then s4) (p3.keep s4)
    simp only [List.mem_cons, List.not_mem_nil, or_false] at hx
    rcases hx with rfl | rfl | rfl | rfl
    · exact kk _ (by omega)
    · exact kk _ (by omega)
    · exact kk _ (by omega)
    · exact kk _ (by omega)
end


end My

namespace My
open PySem PySem.Spec PyProof.Rows L2 EE

local macro_rules | `(tactic| walk_at "sq") => `(tactic| first | assumption | exact sqL_of (by assumption) | exact sqT_of (by assumption))
local macro_rules | `(tactic| walk_at "same") => `(tactic| first
  | assumption
  | exact Same.refl _
  | (refine Same.trans ?_ (by assumption); walk_at "same")
  | (refine same_past ?_ (by assumption) ?_; (walk_at "same"); (walk_at "no")))
local macro_rules | `(tactic| walk_at "no") => `(tactic| first
  | assumption
  | (refine none_same ?_ (by assumption); walk_at "same")
  | (refine none_same (by assumption) ?_; walk_at "no")
  | (refine none_but (by assumption) ?_ ?_; (walk_at "n"); (walk_at "no")))
local macro_rules | `(tactic| walk_at "but") => `(tactic| first
  | assumption
  | exact But.refl _ _
  | (refine But.then ?_ (by assumption); walk_at "but")
  | (refine But.trans ?_ (by assumption); walk_at "but")
  | (refine but_past ?_ (by assumption) ?_; (walk_at "but"); (walk_at "no")))
local macro_rules | `(tactic| walk_at "hasp") => `(tactic| (repeat (first | exact ⟨_, _, by assumption⟩ | (refine hasPen_same (by assumption) ?_))))
local macro_rules | `(tactic| walk_at "hasc") => `(tactic| (repeat (first | exact ⟨_, _, by assumption⟩ | (refine hasCells_same (by assumption) ?_))))
local macro_rules | `(tactic| walk_at "pen") => `(tactic| (repeat (first | assumption | (refine PenAt.keep ?_ (by assumption)))))
local macro_rules | `(tactic| walk_at "has") => `(tactic| first
  | exact ⟨_, by assumption⟩
  | (refine has_same (by assumption) ?_; walk_at "has")
  | (refine has_but (by assumption) ?_ ?_; (walk_at "n"); (walk_at "has")))
local macro_rules | `(tactic| walk_at "n") => `(tactic| first
  | assumption
  | exact Ne.symm (by assumption)
  | (refine ne_free (by assumption) ?_; walk_at "has")
  | (refine ne_free' (by assumption) ?_; walk_at "has")
  | (refine pen_off (by assumption) ?_; walk_at "hasp"; done)
  | (refine Ne.symm (pen_off (by assumption) ?_); walk_at "hasp"; done)
  | (refine pen_off' (by assumption) ?_; walk_at "hasc"; done)
  | (refine Ne.symm (pen_off' (by assumption) ?_); walk_at "hasc"; done))
local macro_rules | `(tactic| walk_at "hh") => `(tactic| first
  | assumption
  | (refine get_same (by assumption) ?_; walk_at "hh")
  | (refine get_but (by assumption) (by walk_at "n") ?_; walk_at "hh"))
local macro_rules | `(tactic| walk_at "h") => `(tactic| first
  | ((repeat (first | assumption | (refine get_same (by assumption) ?_) | (refine get_but (by assumption) (by walk_at "n") ?_))); done)
  | walk_at "hh")
local macro_rules | `(tactic| walk_at "r") => `(tactic| repeat (first
  | (refine go ?_)
  | (with_reducible refine rd_mul ?_ ?_)
  | (with_reducible refine rd_mod ?_ ?_)
  | (with_reducible refine rd_fdiv ?_ ?_)
  | (with_reducible refine rd_pow ?_ ?_)
  | (with_reducible refine rd_strI ?_ ?_)
  | (with_reducible refine rd_addS ?_ ?_)
  | (with_reducible refine rd_lenS ?_ ?_)
  | (with_reducible refine rd_slS ?_ ?_)))
local macro_rules | `(tactic| walk_at "R") => `(tactic| repeat (first
  | (refine go ?_)
  | (with_reducible refine new_lstS fun _ _ _ _ _ => ?_)
  | (with_reducible refine new_lst (Nat.le_of_ble_eq_true rfl) fun _ _ _ _ _ => ?_)
  | (with_reducible refine rd_dnewK fun _ _ _ _ _ => ?_)
  | (with_reducible refine new_tup (Nat.le_of_ble_eq_true rfl) fun _ _ _ _ _ => ?_)
  | ((with_reducible refine len_go ?_); first | (refine Or.inl ⟨_, sqL_of (by walk_at "h"), ?_⟩) | (refine Or.inr ⟨_, sqT_of (by walk_at "h"), ?_⟩))
  | ((with_reducible refine slT_go ?_); refine ⟨_, sqL_of (by walk_at "h"), fun _ _ _ _ _ => ?_⟩)
  | ((with_reducible refine slD_go ?_); refine ⟨_, sqL_of (by walk_at "h"), fun _ _ _ _ _ => ?_⟩)
  | ((with_reducible refine slD1_go ?_); refine ⟨_, sqL_of (by walk_at "h"), fun _ _ _ _ _ => ?_⟩)
  | ((with_reducible refine sl_go ?_); refine ⟨_, sqL_of (by walk_at "h"), fun _ _ _ _ _ => ?_⟩)
  | ((with_reducible refine cat_go ?_); refine catS_go (by walk_at "h") (by walk_at "h") ?_ fun _ _ _ _ _ => ?_; rotate_left)
  | ((with_reducible refine cat_go ?_); refine catV_go (by walk_at "h") (by walk_at "h") (Nat.le_of_ble_eq_true rfl) fun _ _ _ _ _ => ?_)
  | ((with_reducible refine cat_go ?_); refine catV_go (by walk_at "h") (by walk_at "h") ?_ fun _ _ _ _ _ => ?_; rotate_left)
  | ((with_reducible refine ixL_go ?_); refine ⟨_, sqL_of (by walk_at "h"), ?_⟩; refine ⟨_, atI_lit, ?_⟩)
  | (with_reducible refine rd_mul ?_ ?_; rotate_left)
  | (with_reducible refine rd_mod ?_ ?_; rotate_left)
  | (with_reducible refine rd_fdiv ?_ ?_; rotate_left)
  | (with_reducible refine rd_pow ?_ ?_; rotate_left)
  | (with_reducible refine rd_strI ?_ ?_; rotate_left)
  | (with_reducible refine rd_addS ?_ ?_; rotate_left)
  | (with_reducible refine rd_lenS ?_ ?_; rotate_left)
  | (with_reducible refine rd_slS ?_ ?_; rotate_left)))

theorem atI_str {xs : List Nat} {i : Int} (h0 : 0 ≤ i) (h : i < (xs.length : Nat)) : ∃ c, atI xs i = some c ∧ c ∈ xs := by
  obtain ⟨k, rfl⟩ := Int.eq_ofNat_of_zero_le h0
  have hk : k < xs.length := by omega
  refine ⟨xs[k], ?_, List.getElem_mem hk⟩
  unfold atI ixN
  rw [if_pos h0, if_pos h]
  exact List.getElem?_eq_getElem hk
theorem lets_range {c : Nat} (h : c ∈ lets.cps.toList) : 97 ≤ c ∧ c ≤ 122 := by
  have e : ∀ c ∈ lets.cps.toList, 97 ≤ c ∧ c ≤ 122 := by decide +kernel
  exact e c h
theorem joinL_nil : ∀ ys : List (List Nat), TL.joinL [] ys = ys.flatten
  | [] => rfl
  | [y] => by simp [TL.joinL]
  | y :: y2 :: r => by
    show y ++ ([] ++ TL.joinL [] (y2 :: r)) = _
    rw [joinL_nil (y2 :: r)]
    rfl
theorem join_ones {zs : List Str} (h : ∀ z ∈ zs, ∃ c, z = ⟨#[c]⟩ ∧ c ∈ lets.cps.toList) : (Str.join (Str.ofString "") zs).length = zs.length ∧ ∀ c ∈ (Str.join (Str.ofString "") zs).cps.toList, c ∈ lets.cps.toList := by
  have e : (Str.join (Str.ofString "") zs).cps.toList = (zs.map TL.tl).flatten := (TL.tl_join _ zs).trans (joinL_nil _)
  constructor
  · have e1 : (Str.join (Str.ofString "") zs).cps.toList.length = (Str.join (Str.ofString "") zs).length := Array.length_toList
    rw [← e1, e]
    clear e e1
    induction zs with
    | nil => rfl
    | cons z zs ih =>
      obtain ⟨c, rfl, _⟩ := h z List.mem_cons_self
      rw [List.map_cons, List.flatten_cons, List.length_append, ih fun z hz => h z (List.mem_cons_of_mem _ hz)]
      show 1 + zs.length = zs.length + 1
      omega
  · intro c hc
    rw [e] at hc
    obtain ⟨l, hl, hcl⟩ := List.mem_flatten.mp hc
    obtain ⟨z, hz, rfl⟩ := List.mem_map.mp hl
    obtain ⟨c', rfl, hm⟩ := h z hz
    cases List.mem_singleton.mp (show c ∈ [c'] from hcl)
    exact hm
/-- a drawn name -/
def spWordN : Sp := fun vs H Q _ => ∃ (p q : Addr) (n : Nat), vs = [.ref p] ∧ n ≤ 900000 ∧ PenAt n H p q ∧ ∀ (z : Str) H', nameS z = true → But p H H' → PenAt (n + 11) H' p q → Q (.str z) H'
theorem nameS_of {z : Str} (h1 : 1 ≤ z.length) (h2 : z.length ≤ 8) (h3 : z ≠ "self") (h : ∀ c ∈ z.cps.toList, c ∈ lets.cps.toList) : nameS z = true := by
  unfold nameS
  rw [decide_eq_true ⟨h1, h2, h3⟩, Bool.true_and]
  exact List.all_eq_true.mpr fun c hc => decide_eq_true (h c hc)
section
variable {P : Program} {w : World} {K : PySem.W.Frag} {mg : Str → Option Value} {base : Heap} {fD fG fP : Addr} {fdD fdG fdP : FuncData}
theorem ok__law_word {f : Addr} {fd : FuncData} (F : Fun K "_law_word" "_law_word" s__law_word f fd) (T : Tx K mg) (C__law_draw : Cal P w K mg base 1 "_law_draw" s__law_draw ["_law_pen_here", "_law_many"] spDraw fD fdD)
    (C__law_pick : Cal P w K mg base 2 "_law_pick" s__law_pick ["_law_pen_here", "_law_some"] spPickL fP fdP) : FnOk P w K mg base CX0 3 f fd ["_law_pen_here"] spWordN := by
  refine F.ok sc__law_word (fun vs H Q E h => ?_) (fun cdv A outer s H vs Q E hr h => ?_)
  · obtain ⟨p, q, n, rfl, _⟩ := h
    rfl
  · obtain ⟨p, q, n, rfl, hn, hp, k⟩ := h
    refine ⟨_, (pss_cons (ps_set (i := 1) sc__law_word.nd rfl (by first | exact Or.inl rfl | exact Or.inr rfl) pe_str)
      (pss_cons (ps_if (pt_cmpR op_eq (pe_call C__law_draw.G (hr.mono (by decide)) (by rfl) C__law_draw.g C__law_draw.F.kp C__law_draw.b .nil pass0 (pa_cons (pv 0) (pa_cons pe_int pa_nil))) pe_int (nomark _)) (pss_one (ps_ret (pe_call C__law_pick.G (hr.mono (by decide)) (by rfl) C__law_pick.g C__law_pick.F.kp C__law_pick.b .nil pass0 (pa_cons (pv 0) (pa_cons (pe_lst (pa_cons pe_str (pa_cons pe_str (pa_cons pe_str (pa_cons pe_str (pa_cons pe_str (pa_cons pe_str (pa_cons pe_str pa_nil)))))))) pa_nil))))) pss_nil)
      (pss_cons (ps_set (i := 2) sc__law_word.nd rfl (by first | exact Or.inl rfl | exact Or.inr rfl) (pe_ix (ix_listK (K := K) rfl) (pe_lst (pa_cons pe_int (pa_cons pe_int (pa_cons pe_int (pa_cons (pe_op op_add pe_int (pe_call C__law_draw.G (hr.mono (by decide)) (by rfl) C__law_draw.g C__law_draw.F.kp C__law_draw.b .nil pass0 (pa_cons (pv 0) (pa_cons pe_int pa_nil)))) pa_nil))))) (pe_call C__law_draw.G (hr.mono (by decide)) (by rfl) C__law_draw.g C__law_draw.F.kp C__law_draw.b .nil pass0 (pa_cons (pv 0) (pa_cons pe_int pa_nil))) (fun _ _ => rfl)))
      (pss_cons (ps_set (i := 3) sc__law_word.nd rfl (by first | exact Or.inl rfl | exact Or.inr rfl) (pe_m1 PySem.F.slot_str_join PySem.F.type_str_join mt_joinN pe_str (pe_lc (own := [("_law_k", 4)]) rfl sc__law_word.nd (pi_range1 (by rfl) T.b_range (pa_cons (pv 2) pa_nil)) (blkOk_by (own := [("_law_k", 4)]) (N := ["_law_pen_here", "_law_letters", "_law_many", "_law_word_here", "_law_k"]) (sc := defScope s__law_word) (by decide +kernel)) (fun _ _ _ _ _ => (pg_name (i := 4) sc__law_word.nd rfl (by first | exact Or.inl rfl | exact Or.inr rfl))) (fun _ _ _ _ _ => pts_nil) (fun _ _ _ _ _ => (pe_ix ix_str (pv 1) (pe_call C__law_draw.G (hr.mono (by decide)) (by rfl) C__law_draw.g C__law_draw.F.kp C__law_draw.b .nil pass0 (pa_cons (pv 0) (pa_cons pe_int pa_nil))) (fun _ _ => rfl))))))
      (pss_one (ps_ret (pe_ifExp (pt_cmpR op_eq (pv 3) pe_str (nomark _)) pe_str (pv 3)))))))), ?_⟩
    walk_at "r"
    refine ⟨p, q, _, n, rfl, by decide, by decide, by omega, hp, fun d0 H0 d00 d01 b0 hp0 => ?_⟩
    walk_at "r"
    refine rd_dec (fun c0 => ?_) (fun c0 => ?_)
    · walk_at "r"
      refine new_lst (Nat.le_of_ble_eq_true rfl) fun l H2 n2 s2 h2 => ?_
      walk_at "r"
      refine ⟨p, q, l, _, n + 1, rfl, h2, (hp0.off n2).1, (by decide), (by decide), by omega, hp0.keep s2, fun x H3 hx b3 p3 => ?_⟩
      walk_at "r"
      obtain ⟨z, rfl, hz⟩ : ∃ z, x = .str z ∧ nameS z = true := by
        have h := List.all_eq_true.mp (show List.all _ nameT = true from (by decide +kernel)) x hx
        cases x with
        | str z => exact ⟨z, rfl, h⟩
        | _ => cases h
      exact k z H3 hz ((b0.then s2).trans b3) (p3.mono (by omega))
    walk_at "r"
    refine ⟨p, q, _, n + 1, rfl, by decide, by decide, by omega, hp0, fun d1 H1 d10 d11 b1 hp1 => ?_⟩
    walk_at "r"
    refine new_lst (by show 4 ≤ sizeLine; decide) fun l H2 n2 s2 h2 => ?_
    have hp2 := hp1.keep s2
    have lp := (hp1.off n2).1
    walk_at "r"
    refine ⟨p, q, _, n + 2, rfl, by decide, by decide, by omega, hp2, fun d2 H3 d20 d21 s3 hp3 => ?_⟩
    have s13 := ((b0.trans b1).then s2).trans s3
    refine rd_pickL (s3 _ _ lp h2) d20 d21 fun x hx => ?_
    obtain ⟨m, rfl, m0, m9⟩ : ∃ m : Int, x = .int m ∧ 1 ≤ m ∧ m ≤ 8 := by
      simp only [List.mem_cons, List.not_mem_nil, or_false] at hx
      rcases hx with e | e | e | e <;> exact ⟨_, e, by omega, by omega⟩
    walk_at "r"
    refine ⟨by omega, by omega, ?_⟩
    refine ent_range (fun D i H' => ∃ zs : List Str, H' D = some (.lst (zs.map V.str)) ∧ zs.length = i ∧ (∀ z ∈ zs, ∃ c, z = ⟨#[c]⟩ ∧ c ∈ lets.cps.toList) ∧ But p H3 H' ∧ PenAt (n + 3 + i) H' p q) (fun D hD => ?_) (fun D i H' hD hi I => ?_) (fun D H' hD I => ?_)
    · exact ⟨[], upd_same, rfl, (fun z hz => nomatch hz), (same_new hD).but p, hp3.keep (same_new hD)⟩
    · obtain ⟨zs, h1, h2, h3, h4, h5⟩ := I
      have Dp := hp3.off hD
      walk_at "r"
      refine ⟨rfl, ?_⟩
      walk_at "r"
      refine ⟨p, q, _, n + 3 + i, rfl, by decide, by decide, by omega, h5, fun d H5 hd0 hd1 s5 hp5 => ?_⟩
      obtain ⟨c, hc, cm⟩ := atI_str (xs := lets.cps.toList) hd0 (by have : lets.cps.toList.length = 26 := (by decide +kernel); omega)
      refine rd_ixS hc ?_ (by decide +kernel)
      refine ⟨_, s5 _ _ Dp.1 h1, small1000 (by rw [List.length_map]; omega), zs ++ [⟨#[c]⟩], ?_, ?_, ?_, ?_, ?_⟩
      · rw [upd_same, List.map_append]; rfl
      · rw [List.length_append, h2]; rfl
      · intro z hz
        rcases List.mem_append.mp hz with hz | hz
        · exact h3 z hz
        · rw [List.mem_singleton] at hz
          exact ⟨c, hz, cm⟩
      · exact (h4.trans s5).grow hD
      · exact hp5.upd Dp
    · obtain ⟨zs, h1, h2, h3, h4, h5⟩ := I
      obtain ⟨j1, j2⟩ := join_ones h3
      have e0 : (Str.ofString "").length = 0 := rfl
      have hs : (zs.map (·.length)).sum ≤ zs.length * 1 := by
        have := sum_le (b := 1) (l := zs.map (·.length)) fun x hx => by
          obtain ⟨z, hz, rfl⟩ := List.mem_map.mp hx
          obtain ⟨c, rfl, _⟩ := h3 z hz
          exact Nat.le_refl _
        rw [List.length_map] at this
        exact this
      walk_at "r"
      refine rd_joinL h1 (by rw [e0]; omega) ?_
      walk_at "r"
      refine rd_dec (fun c => ?_) (fun c => ?_)
      · walk_at "r"
        exact k _ _ (by decide +kernel) (s13.trans h4) (h5.mono (by omega))
      · walk_at "r"
        exact k _ _ (nameS_of (by omega) (by omega) c j2) (s13.trans h4) (h5.mono (by omega))
end


end My

namespace My
open PySem PySem.Spec PyProof.Rows L2 EE

local macro_rules | `(tactic| walk_at "sq") => `(tactic| first | assumption | exact sqL_of (by assumption) | exact sqT_of (by assumption))
local macro_rules | `(tactic| walk_at "same") => `(tactic| first
  | assumption
  | exact Same.refl _
  | (refine Same.trans ?_ (by assumption); walk_at "same")
  | (refine same_past ?_ (by assumption) ?_; (walk_at "same"); (walk_at "no")))
local macro_rules | `(tactic| walk_at "no") => `(tactic| first
  | assumption
  | (refine none_same ?_ (by assumption); walk_at "same")
  | (refine none_same (by assumption) ?_; walk_at "no")
  | (refine none_but (by assumption) ?_ ?_; (walk_at "n"); (walk_at "no")))
local macro_rules | `(tactic| walk_at "but") => `(tactic| first
  | assumption
  | exact But.refl _ _
  | (refine But.then ?_ (by assumption); walk_at "but")
  | (refine But.trans ?_ (by assumption); walk_at "but")
  | (refine but_past ?_ (by assumption) ?_; (walk_at "but"); (walk_at "no")))
local macro_rules | `(tactic| walk_at "hasp") => `(tactic| (repeat (first | exact ⟨_, _, by assumption⟩ | (refine hasPen_same (by assumption) ?_))))
local macro_rules | `(tactic| walk_at "hasc") => `(tactic| (repeat (first | exact ⟨_, _, by assumption⟩ | (refine hasCells_same (by assumption) ?_))))
local macro_rules | `(tactic| walk_at "pen") => `(tactic| (repeat (first | assumption | (refine PenAt.keep ?_ (by assumption)))))
local macro_rules | `(tactic| walk_at "has") => `(tactic| first
  | exact ⟨_, by assumption⟩
  | (refine has_same (by assumption) ?_; walk_at "has")
  | (refine has_but (by assumption) ?_ ?_; (walk_at "n"); (walk_at "has")))
local macro_rules | `(tactic| walk_at "n") => `(tactic| first
  | assumption
  | exact Ne.symm (by assumption)
  | (refine ne_free (by assumption) ?_; walk_at "has")
  | (refine ne_free' (by assumption) ?_; walk_at "has")
  | (refine pen_off (by assumption) ?_; walk_at "hasp"; done)
  | (refine Ne.symm (pen_off (by assumption) ?_); walk_at "hasp"; done)
  | (refine pen_off' (by assumption) ?_; walk_at "hasc"; done)
  | (refine Ne.symm (pen_off' (by assumption) ?_); walk_at "hasc"; done))
local macro_rules | `(tactic| walk_at "hh") => `(tactic| first
  | assumption
  | (refine get_same (by assumption) ?_; walk_at "hh")
  | (refine get_but (by assumption) (by walk_at "n") ?_; walk_at "hh"))
local macro_rules | `(tactic| walk_at "h") => `(tactic| first
  | ((repeat (first | assumption | (refine get_same (by assumption) ?_) | (refine get_but (by assumption) (by walk_at "n") ?_))); done)
  | walk_at "hh")
local macro_rules | `(tactic| walk_at "r") => `(tactic| repeat (first
  | (refine go ?_)
  | (with_reducible refine rd_mul ?_ ?_)
  | (with_reducible refine rd_mod ?_ ?_)
  | (with_reducible refine rd_fdiv ?_ ?_)
  | (with_reducible refine rd_pow ?_ ?_)
  | (with_reducible refine rd_strI ?_ ?_)
  | (with_reducible refine rd_addS ?_ ?_)
  | (with_reducible refine rd_lenS ?_ ?_)
  | (with_reducible refine rd_slS ?_ ?_)))
local macro_rules | `(tactic| walk_at "R") => `(tactic| repeat (first
  | (refine go ?_)
  | (with_reducible refine new_lstS fun _ _ _ _ _ => ?_)
  | (with_reducible refine new_lst (Nat.le_of_ble_eq_true rfl) fun _ _ _ _ _ => ?_)
  | (with_reducible refine rd_dnewK fun _ _ _ _ _ => ?_)
  | (with_reducible refine new_tup (Nat.le_of_ble_eq_true rfl) fun _ _ _ _ _ => ?_)
  | ((with_reducible refine len_go ?_); first | (refine Or.inl ⟨_, sqL_of (by walk_at "h"), ?_⟩) | (refine Or.inr ⟨_, sqT_of (by walk_at "h"), ?_⟩))
  | ((with_reducible refine slT_go ?_); refine ⟨_, sqL_of (by walk_at "h"), fun _ _ _ _ _ => ?_⟩)
  | ((with_reducible refine slD_go ?_); refine ⟨_, sqL_of (by walk_at "h"), fun _ _ _ _ _ => ?_⟩)
  | ((with_reducible refine slD1_go ?_); refine ⟨_, sqL_of (by walk_at "h"), fun _ _ _ _ _ => ?_⟩)
  | ((with_reducible refine sl_go ?_); refine ⟨_, sqL_of (by walk_at "h"), fun _ _ _ _ _ => ?_⟩)
  | ((with_reducible refine cat_go ?_); refine catS_go (by walk_at "h") (by walk_at "h") ?_ fun _ _ _ _ _ => ?_; rotate_left)
  | ((with_reducible refine cat_go ?_); refine catV_go (by walk_at "h") (by walk_at "h") (Nat.le_of_ble_eq_true rfl) fun _ _ _ _ _ => ?_)
  | ((with_reducible refine cat_go ?_); refine catV_go (by walk_at "h") (by walk_at "h") ?_ fun _ _ _ _ _ => ?_; rotate_left)
  | ((with_reducible refine ixL_go ?_); refine ⟨_, sqL_of (by walk_at "h"), ?_⟩; refine ⟨_, atI_lit, ?_⟩)
  | (with_reducible refine rd_mul ?_ ?_; rotate_left)
  | (with_reducible refine rd_mod ?_ ?_; rotate_left)
  | (with_reducible refine rd_fdiv ?_ ?_; rotate_left)
  | (with_reducible refine rd_pow ?_ ?_; rotate_left)
  | (with_reducible refine rd_strI ?_ ?_; rotate_left)
  | (with_reducible refine rd_addS ?_ ?_; rotate_left)
  | (with_reducible refine rd_lenS ?_ ?_; rotate_left)
  | (with_reducible refine rd_slS ?_ ?_; rotate_left)))

def rNeDI : R2 := fun x y H Q => ∃ a b ks ls, x = .ref a ∧ y = .ref b ∧ H a = some (.dK ks) ∧ H b = some (.dK ls) ∧ intVs ks ∧ intVs ls ∧ Q (.bl (!dEq ks ls)) H
theorem or_neDI {X : Cx} (hu : X.A.units < cLine) : OpR X (compareOp .NotEq) rNeDI := by
  intro pins s σ H x y v u Q I rx ry h
  obtain ⟨a, b, ks, ls, rfl, rfl, ea, eb, ia, ib, q⟩ := h
  obtain rfl : v = Value.ref a := rx
  obtain rfl : u = Value.ref b := ry
  obtain ⟨_, ya, va, ra, da⟩ := (show ObjOk X.prog X.w H s.heap a (.dK ks) from I.hok a _ ea)
  obtain ⟨_, yb, vb, rb, db⟩ := (show ObjOk X.prog X.w H s.heap b (.dK ls) from I.hok b _ eb)
  refine PySem.W.keq_ne (knd := mixKind X.prog X.w) ya yb da db hu (fun _ => hits_ints rb ib ra ia) ?_
  exact ⟨.bl (!dEq ks ls), H, I, by rw [← ra.length, ← rb.length]; rfl, q⟩
/-! a name put into a dict of numbers again -/
def setB (ds : List (Str × Int)) (n : Str) (i : Int) : List (Str × Int) := if n ∈ ds.map (·.1) then ds.map fun p => if p.1 = n then (n, i) else p else ds ++ [(n, i)]
theorem put_setB {ds : List (Str × Int)} {n : Str} {i : Int} (nd : (ds.map (·.1)).Nodup) : putK (kwK (intB ds)) (.inr n) (.int i) = kwK (intB (setB ds n i)) := by
  unfold setB
  by_cases c : n ∈ ds.map (·.1)
  · rw [if_pos c]
    have any : ((kwK (intB ds)).any fun kv => decide (kv.1 = Sum.inr n)) = true := by
      obtain ⟨r, hr, e⟩ := List.mem_map.mp c
      refine List.any_eq_true.mpr ⟨(.inr r.1, .int r.2), ?_, by rw [e]; exact decide_eq_true rfl⟩
      unfold kwK intB
      rw [List.map_map]
      exact List.mem_map.mpr ⟨r, hr, rfl⟩
    unfold putK
    rw [if_pos any]
    unfold kwK intB
    rw [List.map_map, List.map_map, List.map_map, List.map_map]
    refine List.map_congr_left fun r _ => ?_
    show (if (Sum.inr r.1 : Key) = Sum.inr n then ((Sum.inr r.1 : Key), V.int i) else (Sum.inr r.1, V.int r.2)) = _
    by_cases d : r.1 = n
    · rw [if_pos (by rw [d])]
      show _ = ((Sum.inr (if r.1 = n then (n, i) else r).1 : Key), V.int (if r.1 = n then (n, i) else r).2)
      rw [if_pos d, d]
    · rw [if_neg fun z => d (Sum.inr.inj z)]
      show _ = ((Sum.inr (if r.1 = n then (n, i) else r).1 : Key), V.int (if r.1 = n then (n, i) else r).2)
      rw [if_neg d]
  · rw [if_neg c]
    exact (put_num nd).2 c
structure BoxB (k : Nat) (ds : List (Str × Int)) : Prop where
  nm : ∀ p ∈ ds, nameS p.1 = true
  nd : (ds.map (·.1)).Nodup
  l : ds.length ≤ k
  z : ∀ p ∈ ds, p.2 ≠ 0
  b : ∀ p ∈ ds, p.2.natAbs < 10 ^ 60
theorem rd_neSame {H : Hp} {Q : VK} {a b : Addr} {ps : List (Str × Int)} (h1 : H a = some (.dK (kwK (intB ps)))) (h2 : H b = some (.dK (kwK (intB ps)))) (nd : (ps.map (·.1)).Nodup) (q : Q (.bl false) H) : rNeDI (.ref a) (.ref b) H Q := by
  have iv : intVs (kwK (intB ps)) := fun p hp => by
    unfold kwK intB at hp
    rw [List.map_map] at hp
    obtain ⟨r, _, rfl⟩ := List.mem_map.mp hp
    exact ⟨r.2, rfl⟩
  refine ⟨a, b, _, _, rfl, rfl, h1, h2, iv, iv, ?_⟩
  have e : dEq (kwK (intB ps)) (kwK (intB ps)) = true := by
    unfold dEq
    rw [beq_self_eq_true, Bool.true_and]
    refine List.all_eq_true.mpr fun p hp => decide_eq_true ?_
    unfold kwK intB at hp
    rw [List.map_map] at hp
    obtain ⟨r, hr, rfl⟩ := List.mem_map.mp hp
    show valV (kwK (intB ps)) (.inr r.1) = some (.int r.2)
    rw [val_int, lookup_mem nd (i := r.2) hr]
    rfl
  rw [e]
  exact q

theorem setB_facts {ds : List (Str × Int)} {n : Str} {i : Int} (g : GoodB ds) (hl : ds.length ≤ 59) (hn : nameS n = true) : GoodB (setB ds n i) ∧ (setB ds n i).length ≤ ds.length + 1 ∧ (∀ p ∈ setB ds n i, p ∈ ds ∨ p = (n, i)) := by
  unfold setB
  by_cases c : n ∈ ds.map (·.1)
  · rw [if_pos c]
    have ek : (ds.map fun p => if p.1 = n then (n, i) else p).map (·.1) = ds.map (·.1) := by
      rw [List.map_map]
      refine List.map_congr_left fun p _ => ?_
      show (if p.1 = n then (n, i) else p).1 = p.1
      by_cases d : p.1 = n
      · rw [if_pos d, d]
      · rw [if_neg d]
    have mem : ∀ p ∈ ds.map (fun p => if p.1 = n then (n, i) else p), p ∈ ds ∨ p = (n, i) := fun p hp => by
      obtain ⟨q, hq, rfl⟩ := List.mem_map.mp hp
      by_cases d : q.1 = n
      · rw [if_pos d]; exact .inr rfl
      · rw [if_neg d]; exact .inl hq
    refine ⟨⟨fun p hp => ?_, by rw [ek]; exact g.2.1, by rw [List.length_map]; exact g.2.2⟩, by rw [List.length_map]; omega, mem⟩
    rcases mem p hp with h | rfl
    · exact g.1 p h
    · exact hn
  · rw [if_neg c]
    refine ⟨⟨fun p hp => ?_, ?_, by rw [List.length_append]; show ds.length + 1 ≤ 60; omega⟩, by rw [List.length_append]; exact Nat.le_refl _, fun p hp => ?_⟩
    · rcases List.mem_append.mp hp with h | h
      · exact g.1 p h
      · rw [List.mem_singleton.mp h]; exact hn
    · rw [List.map_append, List.nodup_append]
      refine ⟨g.2.1, List.nodup_cons.mpr ⟨List.not_mem_nil, List.nodup_nil⟩, fun a ha b hb e => ?_⟩
      rw [List.mem_singleton.mp hb] at e
      exact c ((show a = n from e) ▸ ha)
    · rcases List.mem_append.mp hp with h | h
      · exact .inl h
      · exact .inr (List.mem_singleton.mp h)
def spBox3 : Sp := fun vs H Q _ => ∃ (p q : Addr) (n : Nat), vs = [.ref p] ∧ n ≤ 800000 ∧ PenAt n H p q ∧ ∀ D bs H', H D = none → But p H H' → H' D = some (.dK (kwK (intB bs))) → GoodB bs → bs.length ≤ 8 → (∀ z ∈ bs, z.2.natAbs < 10 ^ 60) → PenAt (n + 130) H' p q → Q (.ref D) H'
section
variable {P : Program} {w : World} {K : PySem.W.Frag} {mg : Str → Option Value} {base : Heap} {fD fW fN : Addr} {fdD fdW fdN : FuncData}
theorem ok__law_box {f : Addr} {fd : FuncData} (F : Fun K "_law_box" "_law_box" s__law_box f fd) (T : Tx K mg) (C__law_draw : Cal P w K mg base 1 "_law_draw" s__law_draw ["_law_pen_here", "_law_many"] spDraw fD fdD) (C__law_word : Cal P w K mg base 3 "_law_word" s__law_word ["_law_pen_here"] spWordN fW fdW)
    (C__law_whole : Cal P w K mg base 3 "_law_whole" s__law_whole ["_law_pen_here"] spWhole fN fdN) : FnOk P w K mg base CX0 4 f fd ["_law_pen_here"] spBox3 := by
  refine F.ok sc__law_box (fun vs H Q E h => ?_) (fun cdv A outer s H vs Q E hr h => ?_)
  · obtain ⟨p, q, n, rfl, _⟩ := h
    rfl
  obtain ⟨p, q, n, rfl, hn, hp, k⟩ := h
  have hu := hu_of hr
  refine ⟨_, (pss_cons (ps_set (i := 1) sc__law_box.nd rfl (by first | exact Or.inl rfl | exact Or.inr rfl) pe_dnewK)
      (pss_cons (ps_for (by first | exact PassesOwn.never | exact passes_of rfl) rfl (pi_range1 (by rfl) T.b_range (pa_cons (pe_call C__law_draw.G (hr.mono (by decide)) (by rfl) C__law_draw.g C__law_draw.F.kp C__law_draw.b .nil pass0 (pa_cons (pv 0) (pa_cons pe_int pa_nil))) pa_nil)) (pg_name (i := 2) sc__law_box.nd rfl (by first | exact Or.inl rfl | exact Or.inr rfl))
      (pss_cons (ps_set (i := 3) sc__law_box.nd rfl (by first | exact Or.inl rfl | exact Or.inr rfl) (pe_call C__law_word.G (hr.mono (by decide)) (by rfl) C__law_word.g C__law_word.F.kp C__law_word.b .nil pass0 (pa_cons (pv 0) pa_nil)))
      (pss_one (ps_dput hu (pv 1) (pv 3) (pe_call C__law_whole.G (hr.mono (by decide)) (by rfl) C__law_whole.g C__law_whole.F.kp C__law_whole.b .nil pass0 (pa_cons (pv 0) pa_nil)) rfl))))
      (pss_one (ps_ret (pv 1))))), ?_⟩
  walk_at "r"
  refine rd_dnewK fun F0 H1 nF s1 h1 => ?_
  walk_at "r"
  have Fp := hp.off nF
  refine ⟨p, q, 9, n, rfl, by decide, by decide, by omega, hp.keep s1, fun d H2 d0 d1 b2 p2 => ?_⟩
  walk_at "r"
  refine ⟨by omega, by omega, ?_⟩
  refine for_any itw_range (fun i σ H' => ∃ bs x2 x3, σ = [some (.ref p), some (.ref F0), x2, x3] ∧ But p H H' ∧ H' F0 = some (.dK (kwK (intB bs))) ∧ GoodB bs ∧ bs.length ≤ i ∧ (∀ z ∈ bs, z.2.natAbs < 10 ^ 60) ∧ PenAt (n + 1 + 16 * i) H' p q) (fun _ _ _ _ => trivial)
    ⟨[], none, none, rfl, (s1.but p).trans b2, b2 _ _ Fp.1 h1, ⟨fun p h => (by cases h), List.Pairwise.nil, Nat.zero_le _⟩, Nat.le_refl _, fun p h => (by cases h), p2⟩ (fun i a x σ1 H3 H4 hi I y => ?_) fun σ1 H3 I => ?_
  · obtain ⟨bs, x2, x3, rfl, b3, h3, g3, l3, v3, p3⟩ := I
    obtain ⟨rfl, rfl⟩ := y
    have hi8 : i < d.toNat := by have := (List.getElem?_eq_some_iff.mp hi).1; rw [List.length_range] at this; exact this
    walk_at "r"
    refine ⟨p, q, _, rfl, by omega, p3, fun z H5 nz b5 p5 => ?_⟩
    walk_at "r"
    refine ⟨p, q, _, rfl, by omega, p5, fun v H6 hv b6 p6 => ?_⟩
    walk_at "r"
    have b56 := b5.trans b6
    refine dput_s (b56 _ _ Fp.1 h3) (by unfold kwK intB; rw [List.length_map, List.length_map]; omega) fun H7 b7 h7 => ?_
    rw [put_setB g3.2.1] at h7
    walk_at "r"
    obtain ⟨g1, g2, g4⟩ := setB_facts (i := v) g3 (by omega) nz
    refine ⟨setB bs z v, _, _, rfl, but_past (b3.trans b56) b7 nF, h7, g1, by omega, fun e he => ?_, (p6.but b7 Fp.1.symm Fp.2.symm).mono (by omega)⟩
    rcases g4 e he with h | rfl
    · exact v3 e h
    · exact hv
  · obtain ⟨bs, x2, x3, rfl, b3, h3, g3, l3, v3, p3⟩ := I
    rw [List.length_range] at l3 p3
    walk_at "r"
    exact k F0 bs H3 nF b3 h3 g3 (by omega) v3 (p3.mono (by omega))
end


end My

namespace My
open PySem PySem.Spec PyProof.Rows L2 EE

local macro_rules | `(tactic| walk_at "sq") => `(tactic| first | assumption | exact sqL_of (by assumption) | exact sqT_of (by assumption))
local macro_rules | `(tactic| walk_at "same") => `(tactic| first
  | assumption
  | exact Same.refl _
  | (refine Same.trans ?_ (by assumption); walk_at "same")
  | (refine same_past ?_ (by assumption) ?_; (walk_at "same"); (walk_at "no")))
local macro_rules | `(tactic| walk_at "no") => `(tactic| first
  | assumption
  | (refine none_same ?_ (by assumption); walk_at "same")
  | (refine none_same (by assumption) ?_; walk_at "no")
  | (refine none_but (by assumption) ?_ ?_; (walk_at "n"); (walk_at "no")))
local macro_rules | `(tactic| walk_at "but") => `(tactic| first
  | assumption
  | exact But.refl _ _
  | (refine But.then ?_ (by assumption); walk_at "but")
  | (refine But.trans ?_ (by assumption); walk_at "but")
  | (refine but_past ?_ (by assumption) ?_; (walk_at "but"); (walk_at "no")))
local macro_rules | `(tactic| walk_at "hasp") => `(tactic| (repeat (first | exact ⟨_, _, by assumption⟩ | (refine hasPen_same (by assumption) ?_))))
local macro_rules | `(tactic| walk_at "hasc") => `(tactic| (repeat (first | exact ⟨_, _, by assumption⟩ | (refine hasCells_same (by assumption) ?_))))
local macro_rules | `(tactic| walk_at "pen") => `(tactic| (repeat (first | assumption | (refine PenAt.keep ?_ (by assumption)))))
local macro_rules | `(tactic| walk_at "has") => `(tactic| first
  | exact ⟨_, by assumption⟩
  | (refine has_same (by assumption) ?_; walk_at "has")
  | (refine has_but (by assumption) ?_ ?_; (walk_at "n"); (walk_at "has")))
local macro_rules | `(tactic| walk_at "n") => `(tactic| first
  | assumption
  | exact Ne.symm (by assumption)
  | (refine ne_free (by assumption) ?_; walk_at "has")
  | (refine ne_free' (by assumption) ?_; walk_at "has")
  | (refine pen_off (by assumption) ?_; walk_at "hasp"; done)
  | (refine Ne.symm (pen_off (by assumption) ?_); walk_at "hasp"; done)
  | (refine pen_off' (by assumption) ?_; walk_at "hasc"; done)
  | (refine Ne.symm (pen_off' (by assumption) ?_); walk_at "hasc"; done))
local macro_rules | `(tactic| walk_at "hh") => `(tactic| first
  | assumption
  | (refine get_same (by assumption) ?_; walk_at "hh")
  | (refine get_but (by assumption) (by walk_at "n") ?_; walk_at "hh"))
local macro_rules | `(tactic| walk_at "h") => `(tactic| first
  | ((repeat (first | assumption | (refine get_same (by assumption) ?_) | (refine get_but (by assumption) (by walk_at "n") ?_))); done)
  | walk_at "hh")
local macro_rules | `(tactic| walk_at "r") => `(tactic| repeat (first
  | (refine go ?_)
  | (with_reducible refine rd_mul ?_ ?_)
  | (with_reducible refine rd_mod ?_ ?_)
  | (with_reducible refine rd_fdiv ?_ ?_)
  | (with_reducible refine rd_pow ?_ ?_)
  | (with_reducible refine rd_strI ?_ ?_)
  | (with_reducible refine rd_addS ?_ ?_)
  | (with_reducible refine rd_lenS ?_ ?_)
  | (with_reducible refine rd_slS ?_ ?_)))
local macro_rules | `(tactic| walk_at "R") => `(tactic| repeat (first
  | (refine go ?_)
  | (with_reducible refine new_lstS fun _ _ _ _ _ => ?_)
  | (with_reducible refine new_lst (Nat.le_of_ble_eq_true rfl) fun _ _ _ _ _ => ?_)
  | (with_reducible refine rd_dnewK fun _ _ _ _ _ => ?_)
  | (with_reducible refine new_tup (Nat.le_of_ble_eq_true rfl) fun _ _ _ _ _ => ?_)
  | ((with_reducible refine len_go ?_); first | (refine Or.inl ⟨_, sqL_of (by walk_at "h"), ?_⟩) | (refine Or.inr ⟨_, sqT_of (by walk_at "h"), ?_⟩))
  | ((with_reducible refine slT_go ?_); refine ⟨_, sqL_of (by walk_at "h"), fun _ _ _ _ _ => ?_⟩)
  | ((with_reducible refine slD_go ?_); refine ⟨_, sqL_of (by walk_at "h"), fun _ _ _ _ _ => ?_⟩)
  | ((with_reducible refine slD1_go ?_); refine ⟨_, sqL_of (by walk_at "h"), fun _ _ _ _ _ => ?_⟩)
  | ((with_reducible refine sl_go ?_); refine ⟨_, sqL_of (by walk_at "h"), fun _ _ _ _ _ => ?_⟩)
  | ((with_reducible refine cat_go ?_); refine catS_go (by walk_at "h") (by walk_at "h") ?_ fun _ _ _ _ _ => ?_; rotate_left)
  | ((with_reducible refine cat_go ?_); refine catV_go (by walk_at "h") (by walk_at "h") (Nat.le_of_ble_eq_true rfl) fun _ _ _ _ _ => ?_)
  | ((with_reducible refine cat_go ?_); refine catV_go (by walk_at "h") (by walk_at "h") ?_ fun _ _ _ _ _ => ?_; rotate_left)
  | ((with_reducible refine ixL_go ?_); refine ⟨_, sqL_of (by walk_at "h"), ?_⟩; refine ⟨_, atI_lit, ?_⟩)
  | (with_reducible refine rd_mul ?_ ?_; rotate_left)
  | (with_reducible refine rd_mod ?_ ?_; rotate_left)
  | (with_reducible refine rd_fdiv ?_ ?_; rotate_left)
  | (with_reducible refine rd_pow ?_ ?_; rotate_left)
  | (with_reducible refine rd_strI ?_ ?_; rotate_left)
  | (with_reducible refine rd_addS ?_ ?_; rotate_left)
  | (with_reducible refine rd_lenS ?_ ?_; rotate_left)
  | (with_reducible refine rd_slS ?_ ?_; rotate_left)))

def spTurned : Sp := fun vs H Q _ => ∃ (D : Addr) (bs : List (Str × Int)), vs = [.ref D] ∧ H D = some (.dK (kwK (intB bs))) ∧ GoodB bs ∧ ∀ r H', H r = none → Same H H' → H' r = some (.dK (kwK (intB bs.reverse))) → Q (.ref r) H'
section
variable {P : Program} {w : World} {K : PySem.W.Frag} {mg : Str → Option Value} {base : Heap}
def rRevAt (K : PySem.W.Frag) (Q : VK) (x : V) (H1 : Hp) : Prop := ∃ a xs, x = .ref a ∧ SqL K H1 a xs ∧ ∀ p, H1 p = none → Q (.ref p) (upd H1 p (.lst xs.reverse))
instance go_revL {K : PySem.W.Frag} {te : TE} {σ : L2.St} {H : Hp} {Q : VK} : Go (tRevL K te σ H Q) (te σ H fun x H1 => rRevAt K Q x H1) := ⟨fun h => h⟩
theorem rev_at {K : PySem.W.Frag} {Q : VK} {a : Addr} {xs : List V} {H : Hp} (h : SqL K H a xs) (q : ∀ p H', H p = none → Same H H' → H' p = some (.lst xs.reverse) → Q (.ref p) H') : rRevAt K Q (.ref a) H := ⟨a, xs, rfl, h, fun p n => q p _ n (same_new n) upd_same⟩
theorem rev_gb {ps : List (Str × Int)} (g : GoodB ps) : GoodB ps.reverse := ⟨fun p hp => g.1 p (List.mem_reverse.mp hp), by rw [List.map_reverse]; exact List.pairwise_reverse.mpr (List.Pairwise.imp (fun h => Ne.symm h) g.2.1), by rw [List.length_reverse]; exact g.2.2⟩
theorem ok__law_turned {f : Addr} {fd : FuncData} (F : Fun K "_law_turned" "_law_turned" s__law_turned f fd) (T : Tx K mg) : FnOk P w K mg base CX0 1 f fd ["_law_box_here"] spTurned := by
  refine F.ok sc__law_turned (fun vs H Q E h => ?_) (fun cdv A outer s H vs Q E hr h => ?_)
  · obtain ⟨D, bs, rfl, _⟩ := h
    rfl
  obtain ⟨D, bs, rfl, hD, g, k⟩ := h
  have hu := hu_of hr
  refine ⟨_, (pss_one (ps_ret (pe_callTy (cr_dictP rfl) (by rfl) T.b_dict (by decide +kernel) (pa_cons (pe_revL (LiI.pe_listItems rfl (pv 0) (by rfl) T.b_list (by decide +kernel))) pa_nil)))), ?_⟩
  walk_at "r"
  refine rd_itemsL hD fun H1 L ts s1 nL nts Lts hL hp => ?_
  walk_at "r"
  refine rev_at (sqL_of hL) fun p H2 n2 s2 h2 => ?_
  walk_at "r"
  have e1 : (kwK (intB bs)).reverse = kwK (intB bs.reverse) := by unfold kwK intB; rw [List.map_reverse, List.map_reverse]
  refine ⟨p, ts.reverse, kwK (intB bs.reverse), rfl, by rw [List.map_reverse]; exact sqL_of h2, ?_, fun r nr => ?_⟩
  · rw [← e1]
    exact Paired.imp2 (Paired.rev hp) fun t q h => sqT_of (s2 _ _ h)
  · rw [merge_nil (rev_gb g).2.1]
    walk_at "r"
    have nr1 : H r = none := (s1.trans s2).free nr
    exact k r _ nr1 ((s1.trans s2).trans (same_new nr)) upd_same
end

open LamX
/-- a lambda that refuses -/
def TT3 (CI : Addr) : (XK → Hp → VK → Prop) → Hp → VK → Prop := fun tl H Q => ∀ Q2 : VK, tl (fun cls d H' => cls = .ref CI ∧ d = none ∧ ∀ H'', Same H' H'' → Q (.bl true) H'') H Q2
theorem gives_refused {X : Cx} {g : Addr} {cdv : Value} {q : Str} {CN CM CI : Addr} (T : Tx X.K X.mg) (E_NetError : GlC X.mg "NetError" CN) (E_MissingError : GlC X.mg "MissingError" CM) (E_InvalidVector : GlC X.mg "InvalidVector" CI)
    (TI : ExK X.K CI) (x1 : PySem.W.exmAny X.K (.ref CI) [.ref CN, .ref CM] = some true) (x3 : PySem.W.kitOne X.K (.ref CI) (.type "ValueError") = some true) (x4 : PySem.W.kitOne X.K (.ref CI) (.ref CI) = some true) :
    GivesTo X ["_law_ask", "_law_caught", "error"] "_law_refused" (defScope s__law_refused) g cdv (defBody s__law_refused) "_law_ask" q (TT3 CI) := by
  intro f c' s H Q tl act hc h
  refine ⟨_, (pss_cons (ps_set (i := 1) sc__law_refused.nd rfl (by first | exact Or.inl rfl | exact Or.inr rfl) pe_non)
      (pss_cons (ps_tryV (i := 2) rfl rfl rfl sc__law_refused.nd rfl rfl ⟨by rfl, by decide, .inl E_NetError.g⟩ ⟨by rfl, by decide, .inl E_MissingError.g⟩ L2.takes0 (fun W pn xe tk po => (pss_one (ps_expr (pe_ask act tk rfl)))) (fun a oe cls d pn hz hf => (pss_one (ps_set (i := 1) sc__law_refused.nd rfl (by first | exact Or.inl rfl | exact Or.inr rfl) (pv 2)))))
      (pss_one (ps_ret (pe_and (pe_callB call_isW0 (by rfl) T.b_isinstance (by decide +kernel) (pa_cons (pv 1) (pa_cons (pe_glob (v := .ref _) (by rfl) E_InvalidVector.g rfl) pa_nil))) (pe_one (pe_callB call_isW0 (by rfl) T.b_isinstance (by decide +kernel) (pa_cons (pv 1) (pa_cons (pe_bltn (v := .ty "ValueError") (by rfl) T.b_ValueError (by decide +kernel) rfl) pa_nil))))))))), ?_⟩
  walk_at "r"
  refine ⟨_, fun cls d σ' H' hE hl => ?_, rfl, hc, h _⟩
  obtain ⟨rfl, rfl, k⟩ := hE
  obtain ⟨y0, y1, y2, rfl⟩ : ∃ y0 y1 y2, σ' = [y0, y1, y2] := by
    match σ', hl with
    | [y0, y1, y2], _ => exact ⟨y0, y1, y2, rfl⟩
  refine ⟨true, x1, fun _ a na => ?_, fun q => Bool.noConfusion q⟩
  walk_at "r"
  intro na2
  have s2 := same_new (o := exw a (.ref CI) none) na
  have hw : ExW0 (upd H' a (exw a (.ref CI) none)) CI (.ref a) := ⟨a, rfl, upd_same⟩
  generalize upd H' a (exw a (.ref CI) none) = H2 at *
  walk_at "r"
  refine isw0_at hw TI x4 ?_
  walk_at "r"
  refine isw0_ty hw TI x3 ?_
  walk_at "r"
  exact k _ s2


end My

namespace My
open PySem PySem.Spec PyProof.Rows L2 EE

local macro_rules | `(tactic| walk_at "sq") => `(tactic| first | assumption | exact sqL_of (by assumption) | exact sqT_of (by assumption))
local macro_rules | `(tactic| walk_at "same") => `(tactic| first
  | assumption
  | exact Same.refl _
  | (refine Same.trans ?_ (by assumption); walk_at "same")
  | (refine same_past ?_ (by assumption) ?_; (walk_at "same"); (walk_at "no")))
local macro_rules | `(tactic| walk_at "no") => `(tactic| first
  | assumption
  | (refine none_same ?_ (by assumption); walk_at "same")
  | (refine none_same (by assumption) ?_; walk_at "no")
  | (refine none_but (by assumption) ?_ ?_; (walk_at "n"); (walk_at "no")))
local macro_rules | `(tactic| walk_at "but") => `(tactic| first
  | assumption
  | exact But.refl _ _
  | (refine But.then ?_ (by assumption); walk_at "but")
  | (refine But.trans ?_ (by assumption); walk_at "but")
  | (refine but_past ?_ (by assumption) ?_; (walk_at "but"); (walk_at "no")))
local macro_rules | `(tactic| walk_at "hasp") => `(tactic| (repeat (first | exact ⟨_, _, by assumption⟩ | (refine hasPen_same (by assumption) ?_))))
local macro_rules | `(tactic| walk_at "hasc") => `(tactic| (repeat (first | exact ⟨_, _, by assumption⟩ | (refine hasCells_same (by assumption) ?_))))
local macro_rules | `(tactic| walk_at "pen") => `(tactic| (repeat (first | assumption | (refine PenAt.keep ?_ (by assumption)))))
local macro_rules | `(tactic| walk_at "has") => `(tactic| first
  | exact ⟨_, by assumption⟩
  | (refine has_same (by assumption) ?_; walk_at "has")
  | (refine has_but (by assumption) ?_ ?_; (walk_at "n"); (walk_at "has")))
local macro_rules | `(tactic| walk_at "n") => `(tactic| first
  | assumption
  | exact Ne.symm (by assumption)
  | (refine ne_free (by assumption) ?_; walk_at "has")
  | (refine ne_free' (by assumption) ?_; walk_at "has")
  | (refine pen_off (by assumption) ?_; walk_at "hasp"; done)
  | (refine Ne.symm (pen_off (by assumption) ?_); walk_at "hasp"; done)
  | (refine pen_off' (by assumption) ?_; walk_at "hasc"; done)
  | (refine Ne.symm (pen_off' (by assumption) ?_); walk_at "hasc"; done))
local macro_rules | `(tactic| walk_at "hh") => `(tactic| first
  | assumption
  | (refine get_same (by assumption) ?_; walk_at "hh")
  | (refine get_but (by assumption) (by walk_at "n") ?_; walk_at "hh"))
local macro_rules | `(tactic| walk_at "h") => `(tactic| first
  | ((repeat (first | assumption | (refine get_same (by assumption) ?_) | (refine get_but (by assumption) (by walk_at "n") ?_))); done)
  | walk_at "hh")
local macro_rules | `(tactic| walk_at "r") => `(tactic| repeat (first
  | (refine go ?_)
  | (with_reducible refine rd_mul ?_ ?_)
  | (with_reducible refine rd_mod ?_ ?_)
  | (with_reducible refine rd_fdiv ?_ ?_)
  | (with_reducible refine rd_pow ?_ ?_)
  | (with_reducible refine rd_strI ?_ ?_)
  | (with_reducible refine rd_addS ?_ ?_)
  | (with_reducible refine rd_lenS ?_ ?_)
  | (with_reducible refine rd_slS ?_ ?_)))
local macro_rules | `(tactic| walk_at "R") => `(tactic| repeat (first
  | (refine go ?_)
  | (with_reducible refine new_lstS fun _ _ _ _ _ => ?_)
  | (with_reducible refine new_lst (Nat.le_of_ble_eq_true rfl) fun _ _ _ _ _ => ?_)
  | (with_reducible refine rd_dnewK fun _ _ _ _ _ => ?_)
  | (with_reducible refine new_tup (Nat.le_of_ble_eq_true rfl) fun _ _ _ _ _ => ?_)
  | ((with_reducible refine len_go ?_); first | (refine Or.inl ⟨_, sqL_of (by walk_at "h"), ?_⟩) | (refine Or.inr ⟨_, sqT_of (by walk_at "h"), ?_⟩))
  | ((with_reducible refine slT_go ?_); refine ⟨_, sqL_of (by walk_at "h"), fun _ _ _ _ _ => ?_⟩)
  | ((with_reducible refine slD_go ?_); refine ⟨_, sqL_of (by walk_at "h"), fun _ _ _ _ _ => ?_⟩)
  | ((with_reducible refine slD1_go ?_); refine ⟨_, sqL_of (by walk_at "h"), fun _ _ _ _ _ => ?_⟩)
  | ((with_reducible refine sl_go ?_); refine ⟨_, sqL_of (by walk_at "h"), fun _ _ _ _ _ => ?_⟩)
  | ((with_reducible refine cat_go ?_); refine catS_go (by walk_at "h") (by walk_at "h") ?_ fun _ _ _ _ _ => ?_; rotate_left)
  | ((with_reducible refine cat_go ?_); refine catV_go (by walk_at "h") (by walk_at "h") (Nat.le_of_ble_eq_true rfl) fun _ _ _ _ _ => ?_)
  | ((with_reducible refine cat_go ?_); refine catV_go (by walk_at "h") (by walk_at "h") ?_ fun _ _ _ _ _ => ?_; rotate_left)
  | ((with_reducible refine ixL_go ?_); refine ⟨_, sqL_of (by walk_at "h"), ?_⟩; refine ⟨_, atI_lit, ?_⟩)
  | (with_reducible refine rd_mul ?_ ?_; rotate_left)
  | (with_reducible refine rd_mod ?_ ?_; rotate_left)
  | (with_reducible refine rd_fdiv ?_ ?_; rotate_left)
  | (with_reducible refine rd_pow ?_ ?_; rotate_left)
  | (with_reducible refine rd_strI ?_ ?_; rotate_left)
  | (with_reducible refine rd_addS ?_ ?_; rotate_left)
  | (with_reducible refine rd_lenS ?_ ?_; rotate_left)
  | (with_reducible refine rd_slS ?_ ?_; rotate_left)))

/-- a dict display: its keys from its values -/
def kvsOf (ps : List (V × V)) : List (Key × V) := ps.map fun p => match p.1 with | .str z => (.inr z, p.2) | .int i => (.inl i, p.2) | _ => (.inl 0, p.2)
theorem disp_auto {p : Addr} {ps : List (V × V)} {H : Hp} {Q : VK} (h : H p = some (.dK [])) (l : (kvsOf ps).length ≤ 15) (e : ps = (kvsOf ps).map fun kv => (kV kv.1, kv.2)) (q : ∀ H3, But p H H3 → H3 p = some (.dK (mergeK [] (kvsOf ps))) → Q (.ref p) H3) : DispAt p ps H Q := disp_done (kvsOf ps) h e l q
/-- entries whose values are no objects -/
def scV : V → Bool | .non => true | .bl _ => true | .int _ => true | .str z => decide (z.length ≤ 1000) && z.cps.toList.all (fun c => decide (c < 128)) | _ => false
def scE (p : Key × V) : Bool := (match p.1 with | .inl _ => true | .inr z => decide (z.length ≤ 1000) && z.cps.toList.all (fun c => decide (c < 128))) && scV p.2
theorem scV_th {H : Hp} {v : V} (h : scV v = true) : Th H v ∧ ∀ a, v ≠ .ref a := by
  cases v with
  | non => exact ⟨.non, fun a e => by cases e⟩
  | bl b => exact ⟨.bl b, fun a e => by cases e⟩
  | int i => exact ⟨.int i, fun a e => by cases e⟩
  | str z =>
    have h : (decide (z.length ≤ 1000) && z.cps.toList.all (fun c => decide (c < 128))) = true := h
    rw [Bool.and_eq_true] at h
    exact ⟨.str z (of_decide_eq_true h.1) fun c hc => of_decide_eq_true (List.all_eq_true.mp h.2 c hc), fun a e => by cases e⟩
  | _ => cases h
theorem scE_key {p : Key × V} (h : scE p = true) : ∀ z, p.1 = .inr z → z.length ≤ 1000 ∧ Asc z := fun z e => by
  obtain ⟨k, v⟩ := p
  cases e
  unfold scE at h
  rw [Bool.and_eq_true] at h
  have h1 : (decide (z.length ≤ 1000) && z.cps.toList.all (fun c => decide (c < 128))) = true := h.1
  rw [Bool.and_eq_true] at h1
  exact ⟨of_decide_eq_true h1.1, fun c hc => of_decide_eq_true (List.all_eq_true.mp h1.2 c hc)⟩

open LamX
/-- the rows of a box as tuples in a list -/
structure Rw (p L : Addr) (rw : List (Addr × Str × Int)) (H : Hp) : Prop where
  l : H L = some (.lst (rw.map fun r => V.ref r.1))
  t : ∀ r ∈ rw, H r.1 = some (.tup [.str r.2.1, .int r.2.2])
  lp : L ≠ p
  tp : ∀ r ∈ rw, r.1 ≠ p
theorem Rw.but {p L : Addr} {rw : List (Addr × Str × Int)} {H H' : Hp} (h : Rw p L rw H) (b : But p H H') : Rw p L rw H' := ⟨b _ _ h.lp h.l, fun r hr => b _ _ (h.tp r hr) (h.t r hr), h.lp, h.tp⟩
theorem Rw.keep {p L : Addr} {rw : List (Addr × Str × Int)} {H H' : Hp} (h : Rw p L rw H) (b : Same H H') : Rw p L rw H' := h.but (b.but p)
theorem rw_of {p L : Addr} {ts : List Addr} {bs : List (Str × Int)} {H : Hp} (hl : H L = some (.lst (ts.map V.ref))) (ht : Paired (fun (t : Addr) (q : Key × V) => H t = some (.tup [kV q.1, q.2])) ts (kwK (intB bs))) (lp : L ≠ p) (tp : ∀ t ∈ ts, t ≠ p) : ∃ rw : List (Addr × Str × Int), Rw p L rw H ∧ rw.map (·.2) = bs := by
  have key : ∀ {ts : List Addr} {bs : List (Str × Int)}, Paired (fun (t : Addr) (q : Key × V) => H t = some (.tup [kV q.1, q.2])) ts (kwK (intB bs)) → (∀ t ∈ ts, t ≠ p) → ∃ rw : List (Addr × Str × Int), rw.map (·.1) = ts ∧ rw.map (·.2) = bs ∧ (∀ r ∈ rw, H r.1 = some (.tup [.str r.2.1, .int r.2.2])) ∧ ∀ r ∈ rw, r.1 ≠ p := by
    intro ts
    induction ts with
    | nil =>
      intro bs h _
      cases bs with
      | nil => exact ⟨[], rfl, rfl, fun r hr => (by cases hr), fun r hr => (by cases hr)⟩
      | cons b bs => cases h
    | cons t ts ih =>
      intro bs h tp
      cases bs with
      | nil => cases h
      | cons b bs =>
        cases h with
        | cons h1 h2 =>
          obtain ⟨rw, e1, e2, e3, e4⟩ := ih h2 fun t ht => tp t (List.mem_cons_of_mem _ ht)
          refine ⟨(t, b) :: rw, by rw [List.map_cons, e1], by rw [List.map_cons, e2], fun r hr => ?_, fun r hr => ?_⟩
          · rcases List.mem_cons.mp hr with rfl | hr
            · exact h1
            · exact e3 r hr
          · rcases List.mem_cons.mp hr with rfl | hr
            · exact tp _ List.mem_cons_self
            · exact e4 r hr
  obtain ⟨rw, e1, e2, e3, e4⟩ := key ht tp
  exact ⟨rw, ⟨by rw [hl, ← e1, List.map_map]; rfl, e3, lp, e4⟩, e2⟩
/-- a spoilt label -/
def keyB : Key → Bool | .inl _ => true | .inr z => decide (z.length ≤ 1000) && z.cps.toList.all (fun c => decide (c < 128))
def labB : V → Bool | .str z => keyB (.inr z) && !nameS z | .int _ => true | .non => true | .bl _ => true | _ => false
def LabR (H : Hp) (p : Addr) (x : V) : Prop := labB x = true ∨ ∃ (a : Addr) (z : Str), x = .ref a ∧ a ≠ p ∧ H a = some (.tup [.str z]) ∧ keyB (.inr z) = true
theorem LabR.but {H H' : Hp} {p : Addr} {x : V} (h : LabR H p x) (b : But p H H') : LabR H' p x := h.imp id fun ⟨a, z, e, n, ha, hk⟩ => ⟨a, z, e, n, b _ _ n ha, hk⟩
theorem mem_putK {kvs : List (Key × V)} {k : Key} {v : V} {p : Key × V} (h : p ∈ putK kvs k v) : p ∈ kvs ∨ p = (k, v) := by
  unfold putK at h
  split at h
  · obtain ⟨q, hq, e⟩ := List.mem_map.mp h
    by_cases c : q.1 = k
    · rw [if_pos c, c] at e
      exact .inr e.symm
    · rw [if_neg c] at e
      exact .inl (e ▸ hq)
  · rcases List.mem_append.mp h with h | h
    · exact .inl h
    · exact .inr (List.mem_singleton.mp h)
theorem mem_mergeK : ∀ {more kvs : List (Key × V)} {p : Key × V}, p ∈ mergeK kvs more → p ∈ kvs ∨ p ∈ more
  | [], _, _, h => .inl h
  | m :: more, kvs, p, h => by
    rcases mem_mergeK (more := more) (kvs := putK kvs m.1 m.2) h with h | h
    · rcases mem_putK h with h | h
      · exact .inl h
      · exact .inr (h ▸ List.mem_cons_self)
    · exact .inr (List.mem_cons_of_mem _ h)
theorem put_self {kvs : List (Key × V)} {k : Key} {v : V} : (k, v) ∈ putK kvs k v := by
  unfold putK
  split
  · rename_i h
    obtain ⟨q, hq, e⟩ := List.any_eq_true.mp h
    have e := of_decide_eq_true e
    exact List.mem_map.mpr ⟨q, hq, by rw [if_pos e, e]⟩
  · exact List.mem_append_right _ List.mem_cons_self
theorem put_stay {kvs : List (Key × V)} {k : Key} {v : V} {p : Key × V} (h : p ∈ kvs) (n : k ≠ p.1) : p ∈ putK kvs k v := by
  unfold putK
  split
  · exact List.mem_map.mpr ⟨p, h, by rw [if_neg (Ne.symm n)]⟩
  · exact List.mem_append_left _ h
theorem merge_stay : ∀ {more kvs : List (Key × V)} {p : Key × V}, p ∈ kvs → (∀ m ∈ more, m.1 ≠ p.1) → p ∈ mergeK kvs more
  | [], _, _, h, _ => h
  | m :: more, kvs, p, h, n => merge_stay (more := more) (kvs := putK kvs m.1 m.2) (put_stay h (n m List.mem_cons_self)) fun x hx => n x (List.mem_cons_of_mem _ hx)
theorem merge_last {a b : List (Key × V)} {p : Key × V} (n : ∀ m ∈ b, m.1 ≠ p.1) : p ∈ mergeK [] (a ++ p :: b) := by
  have e : mergeK [] (a ++ p :: b) = mergeK (putK (mergeK [] a) p.1 p.2) b := by
    unfold mergeK
    rw [List.foldl_append, List.foldl_cons]
  rw [e]
  exact merge_stay put_self n
/-- a key of a spoilt row -/
def kxB : V → Bool | .str z => keyB (.inr z) | .int _ => true | .non => true | .bl _ => true | _ => false
def KxR (H : Hp) (p : Addr) (x : V) : Prop := kxB x = true ∨ ∃ (a : Addr) (z : Str), x = .ref a ∧ a ≠ p ∧ H a = some (.tup [.str z]) ∧ keyB (.inr z) = true
theorem LabR.kx {H : Hp} {p : Addr} {x : V} (h : LabR H p x) : KxR H p x ∧ nameT x = false := by
  rcases h with h | ⟨a, z, rfl, n, ha, hk⟩
  · cases x with
    | str z =>
      obtain ⟨h1, h2⟩ := Bool.and_eq_true_iff.mp h
      exact ⟨.inl h1, by show nameS z = false; simpa using h2⟩
    | int i => exact ⟨.inl rfl, rfl⟩
    | non => exact ⟨.inl rfl, rfl⟩
    | bl b => exact ⟨.inl rfl, rfl⟩
    | _ => cases h
  · exact ⟨.inr ⟨a, z, rfl, n, ha, hk⟩, rfl⟩
theorem KxR.but {H H' : Hp} {p : Addr} {x : V} (h : KxR H p x) (b : But p H H') : KxR H' p x := h.imp id fun ⟨a, z, e, n, ha, hk⟩ => ⟨a, z, e, n, b _ _ n ha, hk⟩
theorem keyB_asc {z : Str} (h : keyB (.inr z) = true) : z.length ≤ 1000 ∧ Asc z := by
  have h : (decide (z.length ≤ 1000) && z.cps.toList.all (fun c => decide (c < 128))) = true := h
  rw [Bool.and_eq_true] at h
  exact ⟨of_decide_eq_true h.1, fun c hc => of_decide_eq_true (List.all_eq_true.mp h.2 c hc)⟩
theorem KxR.th {H : Hp} {p : Addr} {x : V} (h : KxR H p x) : Th H x := by
  rcases h with h | ⟨a, z, rfl, n, ha, hk⟩
  · cases x with
    | str z => exact .str z (keyB_asc h).1 (keyB_asc h).2
    | int i => exact .int i
    | non => exact .non
    | bl b => exact .bl b
    | _ => cases h
  · exact .tup ha
/-- a name against such a key -/
theorem rd_neKx {K : PySem.W.Frag} {H : Hp} {Q : VK} {p : Addr} {z : Str} {x : V} (hz : z.length ≤ 1000) (az : Asc z) (h : KxR H p x) (q : Q (.bl (!decide (V.str z = x))) H) : rNeD K (.str z) x H Q := by
  have s1 : SeqAt.shaped (.str z) = true := (sm_str az hz).shaped (by decide)
  rcases h with h | ⟨a, y, rfl, n, ha, hk⟩
  · cases x with
    | str y =>
      have sy : SeqAt.shaped (.str y) = true := (sm_str (keyB_asc h).2 (keyB_asc h).1).shaped (by decide)
      refine ⟨.str z, .str y, .str z, .str y, s1, sy, ?_⟩
      have e : PyData.eqv (.str z) (.str y) = decide (V.str z = V.str y) := by
        show (z == y) = _
        by_cases c : z = y
        · rw [c, decide_eq_true rfl, beq_self_eq_true]
        · rw [decide_eq_false fun h => c (V.str.inj h), beq_eq_false_iff_ne.mpr c]
      rw [e]
      exact q
    | int i => exact ⟨.str z, .int i, .str z, .int i, s1, rfl, q⟩
    | non => exact ⟨.str z, .none, .str z, .non, s1, rfl, q⟩
    | bl b => exact ⟨.str z, .bool b, .str z, .bl b, s1, rfl, q⟩
    | _ => cases h
  · exact ⟨.str z, .tuple [.str y], .str z, .tup (sqT_of ha) (.cons (.str y) .nil), s1, ((smAll_cons (sm_str (keyB_asc hk).2 (keyB_asc hk).1) smAll_nil).tuple).shaped (by decide), q⟩
/-- the rows of a spoilt dict put together: what need_numbers refuses -/
theorem th_off {H : Hp} {v : V} {b : Addr} (tv : Th H v) (nb : H b = none) : v ≠ .ref b := fun e => by
  subst e
  cases tv with
  | lst h => rw [nb] at h; cases h
  | tup h => rw [nb] at h; cases h
  | dK h => rw [nb] at h; cases h
theorem paired_map {α : Type} {β : Type} {F : Addr → β → Prop} {f : α → Addr} {g : α → β} : ∀ {l : List α}, (∀ x ∈ l, F (f x) (g x)) → Paired F (l.map f) (l.map g)
  | [], _ => .nil
  | x :: l, h => .cons (h x List.mem_cons_self) (paired_map fun y hy => h y (List.mem_cons_of_mem _ hy))
theorem spoilt_dict {K : PySem.W.Frag} {H : Hp} {Q : VK} {p L r : Addr} {rw1 rw2 : List (Addr × Str × Int)} {kx vx : V} (hL : H L = some (.lst (rw1.map (fun x => V.ref x.1) ++ [.ref r] ++ rw2.map (fun x => V.ref x.1)))) (t1 : ∀ x ∈ rw1, H x.1 = some (.tup [.str x.2.1, .int x.2.2])) (t2 : ∀ x ∈ rw2, H x.1 = some (.tup [.str x.2.1, .int x.2.2]))
    (hr : H r = some (.tup [kx, vx])) (kr : KxR H p kx) (tv : Th H vx) (bad : (nameT kx && intT vx) = false) (ap : ∀ x ∈ rw2, V.str x.2.1 ≠ kx) (nd : ((rw1 ++ rw2).map (·.2.1)).Nodup) (nm : ∀ x ∈ rw1 ++ rw2, nameS x.2.1 = true) (ln : (rw1 ++ rw2).length ≤ 60)
    (q : ∀ D H', Same H H' → BadN K H' (.ref D) → Q (.ref D) H') : rDictPO K [.ref L] H Q := by
  have m1 : ∀ x ∈ rw1, x ∈ rw1 ++ rw2 := fun x h => List.mem_append_left _ h
  have m2 : ∀ x ∈ rw2, x ∈ rw1 ++ rw2 := fun x h => List.mem_append_right _ h
  rw [List.length_append] at ln
  have eL : rw1.map (fun x => V.ref x.1) ++ [.ref r] ++ rw2.map (fun x => V.ref x.1) = (rw1.map (·.1) ++ r :: rw2.map (·.1)).map V.ref := by
    rw [List.map_append, List.map_cons, List.map_map, List.map_map, List.append_assoc]; rfl
  rw [eL] at hL
  by_cases ck : ∃ key : Key, kx = kV key
  · obtain ⟨key, rfl⟩ := ck
    have kok : ∀ z, key = .inr z → z.length ≤ 1000 ∧ Asc z := fun z e => by
      subst e
      rcases kr with h | ⟨a, y, e, _⟩
      · exact keyB_asc h
      · cases e
    have ent : Addr × Str × Int → Key × V := fun x => (.inr x.2.1, .int x.2.2)
    let kvs : List (Key × V) := rw1.map (fun x => (Sum.inr x.2.1, V.int x.2.2)) ++ (key, vx) :: rw2.map (fun x => (Sum.inr x.2.1, V.int x.2.2))
    refine .inl ⟨L, _, kvs, rfl, sqL_of hL, Paired.app (paired_map fun x hx => sqT_of (t1 x hx)) (.cons (sqT_of hr) (paired_map fun x hx => sqT_of (t2 x hx))), fun D nD => ?_⟩
    have s := same_new (o := HO.dK (mergeK [] kvs)) nD
    refine q D _ s (.inr (.inl ⟨D, mergeK [] kvs, rfl, ⟨upd_same, fun e he => ?_, ?_⟩, ?_⟩))
    · have he : e ∈ kvs := (mem_mergeK he).resolve_left fun h => by cases h
      rcases List.mem_append.mp he with h | h
      · obtain ⟨x, hx, rfl⟩ := List.mem_map.mp h
        exact ⟨.int _, fun z => (by cases z), fun z ez => (by cases ez; have := nameS_bound (nm x (m1 x hx)); exact ⟨by omega, this.2⟩)⟩
      · rcases List.mem_cons.mp h with rfl | h
        · exact ⟨tv.keep s, th_off tv nD, kok⟩
        · obtain ⟨x, hx, rfl⟩ := List.mem_map.mp h
          exact ⟨.int _, fun z => (by cases z), fun z ez => (by cases ez; have := nameS_bound (nm x (m2 x hx)); exact ⟨by omega, this.2⟩)⟩
    · have h3 := len_mergeK kvs []
      have e : kvs.length = rw1.length + (rw2.length + 1) := by
        show (_ ++ _ :: _).length = _
        rw [List.length_append, List.length_cons, List.length_map, List.length_map]
      rw [List.length_nil] at h3
      omega
    · refine Bool.eq_false_iff.mpr fun h => ?_
      have h1 := List.all_eq_true.mp h (key, vx) (merge_last fun m hm => by
        obtain ⟨x, hx, rfl⟩ := List.mem_map.mp hm
        intro e
        have e : Sum.inr x.2.1 = key := e
        exact ap x hx (by rw [← e]; rfl))
      exact Bool.eq_false_iff.mp bad h1
  · obtain ⟨nk, hnk, nt⟩ : ∃ nk, NkV H nk kx ∧ ∀ z, nk ≠ .text z := by
      rcases kr with h | ⟨a, y, rfl, n, ha, hk⟩
      · cases kx with
        | str z => exact absurd ⟨.inr z, rfl⟩ ck
        | int i => exact absurd ⟨.inl i, rfl⟩ ck
        | non => exact ⟨.none, .inl rfl, fun z e => by cases e⟩
        | bl b => exact ⟨_, .inl rfl, fun z e => by cases e⟩
        | _ => cases h
      · exact ⟨.tup [.text y], .inr ⟨a, _, _, rfl, ha, rfl, rfl⟩, fun z e => by cases e⟩
    have bk : nameT kx = false := by
      cases kx with
      | str z => exact absurd ⟨.inr z, rfl⟩ ck
      | _ => rfl
    let g : Addr × Str × Int → NestedKey × V × V := fun x => (.text x.2.1, .str x.2.1, .int x.2.2)
    refine .inr ⟨L, _, rw1.map g ++ (nk, kx, vx) :: rw2.map g, rfl, sqL_of hL, Paired.app (paired_map fun x hx => sqT_of (t1 x hx)) (.cons (sqT_of hr) (paired_map fun x hx => sqT_of (t2 x hx))), fun e he => ?_, ?_, ?_, fun D H' nD s od => q D H' s (.inr (.inr ⟨D, _, rfl, od, fun v hv => ?_, ?_⟩))⟩
    · rcases List.mem_append.mp he with h | h
      · obtain ⟨x, hx, rfl⟩ := List.mem_map.mp h
        exact .inl rfl
      · rcases List.mem_cons.mp h with rfl | h
        · exact hnk
        · obtain ⟨x, hx, rfl⟩ := List.mem_map.mp h
          exact .inl rfl
    · have inj : ∀ {l : List (Addr × Str × Int)}, (l.map (·.2.1)).Nodup → ((l.map g).map (·.1)).Nodup := fun {l} h => by
        rw [List.map_map]
        have : (fun x => x.1) ∘ g = NestedKey.text ∘ fun x : Addr × Str × Int => x.2.1 := rfl
        rw [this, ← List.map_map]
        exact List.Pairwise.map (S := (· ≠ ·)) _ (fun a b h e => h (NestedKey.text.inj e)) h
      rw [List.map_append] at nd
      obtain ⟨n1, n2, n3⟩ := List.nodup_append.mp nd
      rw [List.map_append, List.map_cons]
      refine List.nodup_append.mpr ⟨inj n1, List.nodup_cons.mpr ⟨fun h => ?_, inj n2⟩, fun a ha b hb e => ?_⟩
      · obtain ⟨y, hy, e⟩ := List.mem_map.mp h
        obtain ⟨x, hx, rfl⟩ := List.mem_map.mp hy
        exact nt _ e.symm
      · obtain ⟨y, hy, rfl⟩ := List.mem_map.mp ha
        obtain ⟨x, hx, rfl⟩ := List.mem_map.mp hy
        rcases List.mem_cons.mp hb with h | h
        · exact nt _ (h.symm.trans e.symm)
        · obtain ⟨y2, hy2, rfl⟩ := List.mem_map.mp h
          obtain ⟨x2, hx2, rfl⟩ := List.mem_map.mp hy2
          have e : NestedKey.text x.2.1 = .text x2.2.1 := e
          exact n3 _ (List.mem_map.mpr ⟨x, hx, rfl⟩) _ (List.mem_map.mpr ⟨x2, hx2, rfl⟩) (NestedKey.text.inj e)
    · rw [List.length_append, List.length_cons, List.length_map, List.length_map]; omega
    · rw [List.map_append, List.map_cons] at hv
      rcases List.mem_append.mp hv with h | h
      · obtain ⟨y, hy, rfl⟩ := List.mem_map.mp h
        obtain ⟨x, hx, rfl⟩ := List.mem_map.mp hy
        have := nameS_bound (nm x (m1 x hx))
        exact .str _ (by show x.2.1.length ≤ 1000; omega) this.2
      · rcases List.mem_cons.mp h with rfl | h
        · exact kr.th.keep s
        · obtain ⟨y, hy, rfl⟩ := List.mem_map.mp h
          obtain ⟨x, hx, rfl⟩ := List.mem_map.mp hy
          have := nameS_bound (nm x (m2 x hx))
          exact .str _ (by show x.2.1.length ≤ 1000; omega) this.2
    · refine Bool.eq_false_iff.mpr fun h => ?_
      have h1 := List.all_eq_true.mp h kx (by rw [List.map_append, List.map_cons]; exact List.mem_append_right _ List.mem_cons_self)
      exact Bool.eq_false_iff.mp bk h1
def spSpoilt (K : PySem.W.Frag) : Sp := fun vs H Q _ => ∃ (p q D : Addr) (bs : List (Str × Int)) (n : Nat), vs = [.ref p, .ref D] ∧ n ≤ 900000 ∧ PenAt n H p q ∧ H D = some (.dK (kwK (intB bs))) ∧ GoodB bs ∧ ∀ x H', BadN K H' x → But p H H' → PenAt (n + 4) H' p q → Q x H'
section
variable {P : Program} {w : World} {K : PySem.W.Frag} {mg : Str → Option Value} {base : Heap} {fD fP : Addr} {fdD fdP : FuncData}
theorem ok__law_spoilt {f : Addr} {fd : FuncData} (F : Fun K "_law_spoilt" "_law_spoilt" s__law_spoilt f fd) (T : Tx K mg) (C__law_draw : Cal P w K mg base 1 "_law_draw" s__law_draw ["_law_pen_here", "_law_many"] spDraw fD fdD) (C__law_pick : Cal P w K mg base 2 "_law_pick" s__law_pick ["_law_pen_here", "_law_some"] spPickL fP fdP) :
    FnOk P w K mg base CX0 3 f fd ["_law_pen_here", "_law_box_here"] (spSpoilt K) := by
  refine F.ok sc__law_spoilt (fun vs H Q E h => ?_) (fun cdv A outer s H vs Q E hr h => ?_)
  · obtain ⟨p, q, D, bs, n, rfl, _⟩ := h
    rfl
  obtain ⟨p, q, D, bs, n, rfl, hn, hp, hD, g, k⟩ := h
  have hu := hu_of hr
  refine ⟨_, (pss_cons (ps_par (i := 2) (j := 3) rfl sc__law_spoilt.nd rfl rfl (by decide) rfl rfl (pa_cons (LiI.pe_listItems rfl (pv 1) (by rfl) T.b_list (by decide +kernel)) (pa_cons (pe_call C__law_draw.G (hr.mono (by decide)) (by rfl) C__law_draw.g C__law_draw.F.kp C__law_draw.b .nil pass0 (pa_cons (pv 0) (pa_cons (pe_op op_add (pe_callB cr_lenD (by rfl) T.b_len (by decide +kernel) (pa_cons (pv 1) pa_nil)) pe_int) pa_nil))) pa_nil)) rfl)
      (pss_cons (ps_set (i := 4) sc__law_spoilt.nd rfl (by first | exact Or.inl rfl | exact Or.inr rfl) (pe_call C__law_pick.G (hr.mono (by decide)) (by rfl) C__law_pick.g C__law_pick.F.kp C__law_pick.b .nil pass0 (pa_cons (pv 0) (pa_cons (pe_lst (pa_cons pe_str (pa_cons pe_str (pa_cons pe_str (pa_cons pe_str (pa_cons pe_str (pa_cons pe_int (pa_cons pe_non (pa_cons (pe_tup (pa_cons pe_str pa_nil)) (pa_cons pe_bl (pa_cons pe_str (pa_cons pe_str pa_nil)))))))))))) pa_nil))))
      (pss_cons (ps_set (i := 5) sc__law_spoilt.nd rfl (by first | exact Or.inl rfl | exact Or.inr rfl) (pe_call C__law_pick.G (hr.mono (by decide)) (by rfl) C__law_pick.g C__law_pick.F.kp C__law_pick.b .nil pass0 (pa_cons (pv 0) (pa_cons (pe_lst (pa_cons pe_non (pa_cons pe_bl (pa_cons pe_bl (pa_cons pe_str (pa_cons pe_str (pa_cons (pe_tup (pa_cons pe_int pa_nil)) (pa_cons (pe_lst (pa_cons pe_int pa_nil)) (pa_cons pe_dnewK (pa_cons (pe_tup pa_nil) pa_nil)))))))))) pa_nil))))
      (pss_cons (ps_set (i := 6) sc__law_spoilt.nd rfl (by first | exact Or.inl rfl | exact Or.inr rfl) (pe_ix (ix_listK (K := K) rfl) (pe_lst (pa_cons (pe_tup (pa_cons (pv 4) (pa_cons pe_int pa_nil))) (pa_cons (pe_tup (pa_cons pe_str (pa_cons (pv 5) pa_nil))) (pa_cons (pe_tup (pa_cons (pv 4) (pa_cons (pv 5) pa_nil))) pa_nil)))) (pe_call C__law_draw.G (hr.mono (by decide)) (by rfl) C__law_draw.g C__law_draw.F.kp C__law_draw.b .nil pass0 (pa_cons (pv 0) (pa_cons pe_int pa_nil))) (fun _ _ => rfl)))
      (pss_cons (ps_setLc (i := 7) (own := [("_law_one", 8)]) rfl sc__law_spoilt.nd rfl rfl (sw_true rfl rfl rfl (by decide +kernel)) (pi_list (pe_slice sl_list (pv 2) (po_some (pv 3)) po_none)) (blkOk_by (own := [("_law_one", 8)]) (N := ["_law_pen_here", "_law_box_here", "_law_rows", "_law_at", "_law_label", "_law_odd", "_law_row", "_law_rest", "_law_one"]) (sc := defScope s__law_spoilt) (by decide +kernel)) (fun _ _ _ _ _ => (pg_name (i := 8) sc__law_spoilt.nd rfl (by first | exact Or.inl rfl | exact Or.inr rfl))) (fun _ _ _ _ _ => (pts_one (pt_cmpR (or_neDK (K := K) rfl hr.units) (pe_ix (ix_tupK (K := K) rfl) (pv 8) pe_int (fun _ _ => rfl)) (pe_ix (ix_tupK (K := K) rfl) (pv 6) pe_int (fun _ _ => rfl)) (nomark _)))) (fun _ _ _ _ _ => (pv 8)))
      (pss_one (ps_ret (pe_callTy (cr_dictPO rfl hr.units) (by rfl) T.b_dict (by decide +kernel) (pa_cons (pe_op op_cat (pe_op op_cat (pe_slice sl_list (pv 2) po_none (po_some (pv 3))) (pe_lst (pa_cons (pv 6) pa_nil))) (pv 7)) pa_nil))))))))), ?_⟩
  walk_at "r"
  refine rd_itemsL hD fun H1 L ts s1 nL nts Lts hL ht => ?_
  walk_at "r"
  have p1 := hp.keep s1
  obtain ⟨rw, R1, erw⟩ := rw_of (p := p) hL ht (hp.off nL).1 fun t h => (hp.off (nts t h)).1
  refine rd_lenD (.of (s1 _ _ hD)) ?_
  rw [show (kwK (intB bs)).length = bs.length by unfold kwK intB; rw [List.length_map, List.length_map]]
  walk_at "r"
  have g60 := g.2.2
  refine ⟨p, q, bs.length + 1, n, rfl, by omega, by omega, by omega, p1, fun at_ H2 at0 at1 b2 p2 => ?_⟩
  walk_at "r"
  obtain ⟨k0, rfl⟩ : ∃ k0 : Nat, at_ = (k0 : Int) := ⟨at_.toNat, by omega⟩
  have R2 := R1.but b2
  have qa1 := p2
  refine new_tup (by show 1 ≤ sizeLine; decide) fun oa1 Ha1 na1 sa1 ha1 => ?_
  walk_at "r"
  have ea1 : oa1 ≠ p := (qa1.off na1).1
  have Pa2 := p2.keep sa1
  have qaL := Pa2
  refine new_lst (by show 11 ≤ sizeLine; decide) fun oaL HaL naL saL haL => ?_
  walk_at "r"
  have eaL : oaL ≠ p := (qaL.off naL).1
  have ka1 := (saL) _ _ (ha1)
  have Sa := ((sa1).trans (saL))
  have Pa := p2.keep Sa
  refine ⟨p, q, oaL, _, n + 1, rfl, haL, eaL, Nat.succ_pos _, by show 11 ≤ 1000; decide, by omega, Pa, fun lab HM hoM bM hpM => ?_⟩
  have R3 := (R2.keep Sa).but bM
  have labok : LabR HM p lab := by
    have mva : ∀ {o : Addr} {ho : HO}, o ≠ p → HaL o = some ho → HM o = some ho := fun n e => bM _ _ n e
    simp only [List.mem_append, List.mem_cons, List.not_mem_nil, or_false] at hoM
    rcases hoM with (rfl | rfl | rfl | rfl | rfl | rfl | rfl | rfl | rfl | rfl | rfl)
    · exact .inl (by decide +kernel)
    · exact .inl (by decide +kernel)
    · exact .inl (by decide +kernel)
    · exact .inl (by decide +kernel)
    · exact .inl (by decide +kernel)
    · exact .inl (by decide +kernel)
    · exact .inl (by decide +kernel)
    · exact .inr ⟨_, _, rfl, ea1, mva ea1 ka1, by decide +kernel⟩
    · exact .inl (by decide +kernel)
    · exact .inl (by decide +kernel)
    · exact .inl (by decide +kernel)
  clear hoM
  walk_at "r"
  have qb1 := hpM
  refine new_tup (by show 1 ≤ sizeLine; decide) fun ob1 Hb1 nb1 sb1 hb1 => ?_
  walk_at "r"
  have eb1 : ob1 ≠ p := (qb1.off nb1).1
  have Pb2 := hpM.keep sb1
  have qb3 := Pb2
  refine new_lst (by show 1 ≤ sizeLine; decide) fun ob3 Hb3 nb3 sb3 hb3 => ?_
  walk_at "r"
  have eb3 : ob3 ≠ p := (qb3.off nb3).1
  have Pb4 := Pb2.keep sb3
  have qb5 := Pb4
  refine rd_dnewK fun ob5 Hb5 nb5 sb5 hb5 => ?_
  walk_at "r"
  have eb5 : ob5 ≠ p := (qb5.off nb5).1
  have Pb6 := Pb4.keep sb5
  have qb7 := Pb6
  refine new_tup (by show 0 ≤ sizeLine; decide) fun ob7 Hb7 nb7 sb7 hb7 => ?_
  walk_at "r"
  have eb7 : ob7 ≠ p := (qb7.off nb7).1
  have Pb8 := Pb6.keep sb7
  have qbL := Pb8
  refine new_lst (by show 9 ≤ sizeLine; decide) fun obL HbL nbL sbL hbL => ?_
  walk_at "r"
  have ebL : obL ≠ p := (qbL.off nbL).1
  have kb1 := ((((sb3).trans (sb5)).trans (sb7)).trans (sbL)) _ _ (hb1)
  have kb3 := (((sb5).trans (sb7)).trans (sbL)) _ _ (hb3)
  have kb5 := ((sb7).trans (sbL)) _ _ (hb5)
  have kb7 := (sbL) _ _ (hb7)
  have Sb := (((((sb1).trans (sb3)).trans (sb5)).trans (sb7)).trans (sbL))
  have Pb := hpM.keep Sb
  refine ⟨p, q, obL, _, n + 2, rfl, hbL, ebL, Nat.succ_pos _, by show 9 ≤ 1000; decide, by omega, Pb, fun odd HN hoN bN hpN => ?_⟩
  have R4 := (R3.keep Sb).but bN
  have labok2 : LabR HN p lab := (labok.but (Sb.but p)).but bN
  have oddok : Th HN odd ∧ intT odd = false ∧ odd ≠ .ref p := by
    have mvb : ∀ {o : Addr} {ho : HO}, o ≠ p → HbL o = some ho → HN o = some ho := fun n e => bN _ _ n e
    simp only [List.mem_append, List.mem_cons, List.not_mem_nil, or_false] at hoN
    rcases hoN with (rfl | rfl | rfl | rfl | rfl | rfl | rfl | rfl | rfl)
    · exact ⟨(scV_th (by decide +kernel)).1, by decide +kernel, fun e => (by cases e)⟩
    · exact ⟨(scV_th (by decide +kernel)).1, by decide +kernel, fun e => (by cases e)⟩
    · exact ⟨(scV_th (by decide +kernel)).1, by decide +kernel, fun e => (by cases e)⟩
    · exact ⟨(scV_th (by decide +kernel)).1, by decide +kernel, fun e => (by cases e)⟩
    · exact ⟨(scV_th (by decide +kernel)).1, by decide +kernel, fun e => (by cases e)⟩
    · exact ⟨.tup (mvb eb1 kb1), rfl, fun e => eb1 (V.ref.inj e)⟩
    · exact ⟨.lst (mvb eb3 kb3), rfl, fun e => eb3 (V.ref.inj e)⟩
    · exact ⟨.dK (mvb eb5 kb5), rfl, fun e => eb5 (V.ref.inj e)⟩
    · exact ⟨.tup (mvb eb7 kb7), rfl, fun e => eb7 (V.ref.inj e)⟩
  clear hoN
  clear labok
  have B0 : But p H HN := ((((s1.but p).trans b2).then Sa).trans bM |>.then Sb).trans bN
  walk_at "r"
  refine new_tup (by show 2 ≤ sizeLine; decide) fun r1 H5 n5 s5 h5 => ?_
  walk_at "r"
  refine new_tup (by show 2 ≤ sizeLine; decide) fun r2 H6 n6 s6 h6 => ?_
  walk_at "r"
  refine new_tup (by show 2 ≤ sizeLine; decide) fun r3 H7 n7 s7 h7 => ?_
  walk_at "r"
  refine new_lst (by show 3 ≤ sizeLine; decide) fun M H8 n8 s8 h8 => ?_
  walk_at "r"
  have s58 : Same HN H8 := ((s5.trans s6).trans s7).trans s8
  have p8 := hpN.keep s58
  refine ⟨p, q, 3, _, rfl, by decide, by decide, by omega, p8, fun d H9 d0 d1 b9 p9 => ?_⟩
  have np : ∀ {o : Addr} {G : Hp}, Same HN G → G o = none → o ≠ p := fun {o G} s e => (hpN.off (s.free e)).1
  have r1p := np (Same.refl _) n5
  have r2p := np s5 n6
  have r3p := np (s5.trans s6) n7
  have Mp := np ((s5.trans s6).trans s7) n8
  refine rd_pickL (b9 _ _ Mp h8) d0 d1 fun x hx => ?_
  have B9 : But p H H9 := (B0.then s58).trans b9
  have R9 := (R4.keep s58).but b9
  have kl := labok2.kx
  have b59 : But p HN H9 := (s58.but p).trans b9
  obtain ⟨r, kx, vx, rfl, rp, hr9, kr, tv, bad⟩ : ∃ (r : Addr) (kx vx : V), x = .ref r ∧ r ≠ p ∧ H9 r = some (.tup [kx, vx]) ∧ KxR H9 p kx ∧ Th H9 vx ∧ (nameT kx && intT vx) = false := by
    have odd9 : Th H9 odd := th_but oddok.1 oddok.2.2 b59
    simp only [List.mem_cons, List.not_mem_nil, or_false] at hx
    rcases hx with rfl | rfl | rfl
    · exact ⟨r1, lab, .int 1, rfl, r1p, b9 _ _ r1p (s8 _ _ (s7 _ _ (s6 _ _ h5))), kl.1.but b59, .int 1, by rw [kl.2]; rfl⟩
    · exact ⟨r2, .str "q", odd, rfl, r2p, b9 _ _ r2p (s8 _ _ (s7 _ _ h6)), .inl (by decide +kernel), odd9, by rw [oddok.2.1, Bool.and_false]⟩
    · exact ⟨r3, lab, odd, rfl, r3p, b9 _ _ r3p (s8 _ _ h7), kl.1.but b59, odd9, by rw [kl.2]; rfl⟩
  clear hx
  walk_at "r"
  refine rd_slL (sqL_of R9.l) fun S H10 n10 s10 h10 => ?_
  rw [cut_drop, ← List.map_drop] at h10
  walk_at "r"
  have R10 := R9.keep s10
  have nmR : ∀ e ∈ rw, nameS e.2.1 = true := fun e he => g.1 e.2 (by rw [← erw]; exact List.mem_map.mpr ⟨e, he, rfl⟩)
  have lrw : rw.length = bs.length := by rw [← erw, List.length_map]
  refine ⟨⟨_, sqL_of h10⟩, ?_⟩
  refine lcF_any (l := rw.drop k0) (itw_listM (f := fun e : Addr × Str × Int => V.ref e.1)) (fun e => if V.str e.2.1 = kx then none else some (V.ref e.1)) (fun H' s => sqL_of (s _ _ h10)) (fun D2 i e x H11 H12 nD hi I y => ?_) fun W H11 nW s11 h11 => ?_
  · obtain ⟨rfl, rfl⟩ := y
    have em : e ∈ rw := List.mem_of_mem_drop (List.mem_of_getElem? hi)
    have bnd := nameS_bound (nmR e em)
    have lk : (rw.drop k0).length ≤ 1000 := by rw [List.length_drop]; omega
    walk_at "r"
    refine ⟨rfl, ?_⟩
    walk_at "r"
    refine ⟨_, _, _, _, rfl, rfl, sqT_of (I.same _ _ (R10.t e em)), atI_lit, ?_⟩
    walk_at "r"
    refine ⟨_, _, _, _, rfl, rfl, sqT_of (I.same _ _ (s10 _ _ hr9)), atI_lit, ?_⟩
    walk_at "r"
    refine rd_neKx (by show e.2.1.length ≤ 1000; omega) bnd.2 (kr.but ((s10.trans I.same).but p)) ?_
    walk_at "r"
    refine rd_decN (fun c => ?_) (fun c => ?_)
    · walk_at "r"
      exact I.some nD hi (if_neg c) (Same.refl _) (Nat.le_trans lk (by decide))
    · exact I.none hi (if_pos c) (Same.refl _)
  have ef : (rw.drop k0).filterMap (fun e => if V.str e.2.1 = kx then none else some (V.ref e.1)) = ((rw.drop k0).filter fun e => !decide (V.str e.2.1 = kx)).map fun e => V.ref e.1 := by
    generalize rw.drop k0 = l
    induction l with
    | nil => rfl
    | cons e l ih =>
      rw [List.filterMap_cons, List.filter_cons]
      by_cases c : V.str e.2.1 = kx
      · rw [if_pos c, decide_eq_true c, ih]; rfl
      · rw [if_neg c, decide_eq_false c, ih]; rfl
  rw [ef] at h11
  have R11 := R10.keep s11
  walk_at "r"
  refine rd_slL (sqL_of R11.l) fun S2 H12 n12 s12 h12 => ?_
  rw [cut_take, ← List.map_take] at h12
  walk_at "r"
  refine new_lst (by show 1 ≤ sizeLine; decide) fun S3 H13 n13 s13 h13 => ?_
  walk_at "r"
  refine rd_cat (s13 _ _ h12) h13 (by rw [List.length_map, List.length_take]; show min k0 rw.length + 1 ≤ 100000; omega) fun S4 H14 n14 s14 h14 => ?_
  walk_at "r"
  have lf : ((rw.drop k0).filter fun e => !decide (V.str e.2.1 = kx)).length ≤ rw.length := Nat.le_trans (List.length_filter_le _ _) (by rw [List.length_drop]; omega)
  refine rd_cat h14 (s14 _ _ (s13 _ _ (s12 _ _ h11))) (by rw [List.length_append, List.length_map, List.length_map, List.length_take]; show min k0 rw.length + 1 + _ ≤ 100000; omega) fun S5 H15 n15 s15 h15 => ?_
  walk_at "r"
  have s915 : Same H9 H15 := ((((s10.trans s11).trans s12).trans s13).trans s14).trans s15
  have R15 := R9.keep s915
  have sub : (rw.take k0 ++ (rw.drop k0).filter fun e => !decide (V.str e.2.1 = kx)).Sublist rw := by
    have h1 := List.Sublist.append (List.Sublist.refl (rw.take k0)) (List.filter_sublist (l := rw.drop k0) (p := fun e => !decide (V.str e.2.1 = kx)))
    rwa [List.take_append_drop] at h1
  have ndr : (rw.map (·.2.1)).Nodup := by
    have e : rw.map (·.2.1) = bs.map (·.1) := by rw [← erw, List.map_map]; rfl
    rw [e]; exact g.2.1
  refine spoilt_dict (rw1 := rw.take k0) (rw2 := (rw.drop k0).filter fun e => !decide (V.str e.2.1 = kx)) h15 (fun e he => R15.t e (List.mem_of_mem_take he)) (fun e he => R15.t e (List.mem_of_mem_drop (List.mem_filter.mp he).1)) (s915 _ _ hr9) (kr.but (s915.but p)) (tv.keep s915) bad (fun e he c => ?_) (ndr.sublist (sub.map _)) (fun e he => nmR e (sub.subset he)) (Nat.le_trans sub.length_le (by omega)) fun D2 H16 s16 bd => ?_
  · have := (List.mem_filter.mp he).2
    rw [decide_eq_true c] at this
    cases this
  · walk_at "r"
    exact k _ H16 bd ((B9.then s915).then s16) (((p9.keep s915).keep s16).mono (by omega))
end


end My

namespace My
open PySem PySem.Spec PyProof.Rows L2 EE

local macro_rules | `(tactic| walk_at "sq") => `(tactic| first | assumption | exact sqL_of (by assumption) | exact sqT_of (by assumption))
local macro_rules | `(tactic| walk_at "same") => `(tactic| first
  | assumption
  | exact Same.refl _
  | (refine Same.trans ?_ (by assumption); walk_at "same")
  | (refine same_past ?_ (by assumption) ?_; (walk_at "same"); (walk_at "no")))
local macro_rules | `(tactic| walk_at "no") => `(tactic| first
  | assumption
  | (refine none_same ?_ (by assumption); walk_at "same")
  | (refine none_same (by assumption) ?_; walk_at "no")
  | (refine none_but (by assumption) ?_ ?_; (walk_at "n"); (walk_at "no")))
local macro_rules | `(tactic| walk_at "but") => `(tactic| first
  | assumption
  | exact But.refl _ _
  | (refine But.then ?_ (by assumption); walk_at "but")
  | (refine But.trans ?_ (by assumption); walk_at "but")
  | (refine but_past ?_ (by assumption) ?_; (walk_at "but"); (walk_at "no")))
local macro_rules | `(tactic| walk_at "hasp") => `(tactic| (repeat (first | exact ⟨_, _, by assumption⟩ | (refine hasPen_same (by assumption) ?_))))
local macro_rules | `(tactic| walk_at "hasc") => `(tactic| (repeat (first | exact ⟨_, _, by assumption⟩ | (refine hasCells_same (by assumption) ?_))))
local macro_rules | `(tactic| walk_at "pen") => `(tactic| (repeat (first | assumption | (refine PenAt.keep ?_ (by assumption)))))
local macro_rules | `(tactic| walk_at "has") => `(tactic| first
  | exact ⟨_, by assumption⟩
  | (refine has_same (by assumption) ?_; walk_at "has")
  | (refine has_but (by assumption) ?_ ?_; (walk_at "n"); (walk_at "has")))
local macro_rules | `(tactic| walk_at "n") => `(tactic| first
  | assumption
  | exact Ne.symm (by assumption)
  | (refine ne_free (by assumption) ?_; walk_at "has")
  | (refine ne_free' (by assumption) ?_; walk_at "has")
  | (refine pen_off (by assumption) ?_; walk_at "hasp"; done)
  | (refine Ne.symm (pen_off (by assumption) ?_); walk_at "hasp"; done)
  | (refine pen_off' (by assumption) ?_; walk_at "hasc"; done)
  | (refine Ne.symm (pen_off' (by assumption) ?_); walk_at "hasc"; done))
local macro_rules | `(tactic| walk_at "hh") => `(tactic| first
  | assumption
  | (refine get_same (by assumption) ?_; walk_at "hh")
  | (refine get_but (by assumption) (by walk_at "n") ?_; walk_at "hh"))
local macro_rules | `(tactic| walk_at "h") => `(tactic| first
  | ((repeat (first | assumption | (refine get_same (by assumption) ?_) | (refine get_but (by assumption) (by walk_at "n") ?_))); done)
  | walk_at "hh")
local macro_rules | `(tactic| walk_at "r") => `(tactic| repeat (first
  | (refine go ?_)
  | (with_reducible refine rd_mul ?_ ?_)
  | (with_reducible refine rd_mod ?_ ?_)
  | (with_reducible refine rd_fdiv ?_ ?_)
  | (with_reducible refine rd_pow ?_ ?_)
  | (with_reducible refine rd_strI ?_ ?_)
  | (with_reducible refine rd_addS ?_ ?_)
  | (with_reducible refine rd_lenS ?_ ?_)
  | (with_reducible refine rd_slS ?_ ?_)))
local macro_rules | `(tactic| walk_at "R") => `(tactic| repeat (first
  | (refine go ?_)
  | (with_reducible refine new_lstS fun _ _ _ _ _ => ?_)
  | (with_reducible refine new_lst (Nat.le_of_ble_eq_true rfl) fun _ _ _ _ _ => ?_)
  | (with_reducible refine rd_dnewK fun _ _ _ _ _ => ?_)
  | (with_reducible refine new_tup (Nat.le_of_ble_eq_true rfl) fun _ _ _ _ _ => ?_)
  | ((with_reducible refine len_go ?_); first | (refine Or.inl ⟨_, sqL_of (by walk_at "h"), ?_⟩) | (refine Or.inr ⟨_, sqT_of (by walk_at "h"), ?_⟩))
  | ((with_reducible refine slT_go ?_); refine ⟨_, sqL_of (by walk_at "h"), fun _ _ _ _ _ => ?_⟩)
  | ((with_reducible refine slD_go ?_); refine ⟨_, sqL_of (by walk_at "h"), fun _ _ _ _ _ => ?_⟩)
  | ((with_reducible refine slD1_go ?_); refine ⟨_, sqL_of (by walk_at "h"), fun _ _ _ _ _ => ?_⟩)
  | ((with_reducible refine sl_go ?_); refine ⟨_, sqL_of (by walk_at "h"), fun _ _ _ _ _ => ?_⟩)
  | ((with_reducible refine cat_go ?_); refine catS_go (by walk_at "h") (by walk_at "h") ?_ fun _ _ _ _ _ => ?_; rotate_left)
  | ((with_reducible refine cat_go ?_); refine catV_go (by walk_at "h") (by walk_at "h") (Nat.le_of_ble_eq_true rfl) fun _ _ _ _ _ => ?_)
  | ((with_reducible refine cat_go ?_); refine catV_go (by walk_at "h") (by walk_at "h") ?_ fun _ _ _ _ _ => ?_; rotate_left)
  | ((with_reducible refine ixL_go ?_); refine ⟨_, sqL_of (by walk_at "h"), ?_⟩; refine ⟨_, atI_lit, ?_⟩)
  | (with_reducible refine rd_mul ?_ ?_; rotate_left)
  | (with_reducible refine rd_mod ?_ ?_; rotate_left)
  | (with_reducible refine rd_fdiv ?_ ?_; rotate_left)
  | (with_reducible refine rd_pow ?_ ?_; rotate_left)
  | (with_reducible refine rd_strI ?_ ?_; rotate_left)
  | (with_reducible refine rd_addS ?_ ?_; rotate_left)
  | (with_reducible refine rd_lenS ?_ ?_; rotate_left)
  | (with_reducible refine rd_slS ?_ ?_; rotate_left)))

def rReprI : LR := fun xs H Q => ∃ i : Int, xs = [.int i] ∧ i.natAbs.log2 < 1920 ∧ Q (.str (toString i)) H
theorem cr_reprI {X : Cx} : CallR X (.builtin "repr") rReprI := SkE.call_repr_int

def nzB (bs : List (Str × Int)) : List (Str × Int) := bs.filter fun p => decide (p.2 ≠ 0)
theorem nz_good {bs : List (Str × Int)} (g : GoodB bs) : GoodB (nzB bs) := ⟨fun p hp => g.1 p (List.mem_filter.mp hp).1, g.2.1.sublist (List.filter_sublist.map _), Nat.le_trans (List.length_filter_le _ _) g.2.2⟩
theorem getV_nz {bs : List (Str × Int)} (g : GoodB bs) (n : Str) : getV (nzB bs) n = getV bs n := by
  by_cases c : n ∈ bs.map (·.1)
  · obtain ⟨p, hp, rfl⟩ := List.mem_map.mp c
    rw [getV_mem g.2.1 (i := p.2) hp]
    by_cases d : p.2 = 0
    · rw [d]
      refine getV_none fun h => ?_
      obtain ⟨q, hq, e⟩ := List.mem_map.mp h
      obtain ⟨h1, h2⟩ := List.mem_filter.mp hq
      have : q.2 = p.2 := by rw [← getV_mem g.2.1 (i := q.2) h1, ← getV_mem g.2.1 (i := p.2) hp, e]
      exact of_decide_eq_true h2 (this.trans d)
    · exact getV_mem (nz_good g).2.1 (List.mem_filter.mpr ⟨hp, decide_eq_true d⟩)
  · rw [getV_none c, getV_none fun h => c (by
      obtain ⟨q, hq, e⟩ := List.mem_map.mp h
      exact List.mem_map.mpr ⟨q, (List.mem_filter.mp hq).1, e⟩)]
theorem nrm_nz {bs : List (Str × Int)} (g : GoodB bs) : nrm bs = (srtS ((nzB bs).map (·.1))).map fun n => (n, getV (nzB bs) n) := by
  have e : nrm bs = nrm (nzB bs) := good_ext (good_vec _ _) (good_vec _ _) fun n => by rw [getV_nrm, getV_nrm, getV_nz g]
  rw [e]
  unfold EE.nrm vec
  rw [← filterMap_some (fun n => (n, getV (nzB bs) n))]
  have fm : ∀ (l : List Str), (∀ n ∈ l, getV (nzB bs) n ≠ 0) → l.filterMap (fun n => if getV (nzB bs) n = 0 then none else some (n, getV (nzB bs) n)) = l.filterMap fun n => some (n, getV (nzB bs) n) := fun l => by
    induction l with
    | nil => intro _; rfl
    | cons x l ih =>
      intro h
      rw [List.filterMap_cons, List.filterMap_cons, if_neg (h x List.mem_cons_self), ih fun y hy => h y (List.mem_cons_of_mem _ hy)]
  refine fm _ fun n hn => ?_
  obtain ⟨p, hp, rfl⟩ := List.mem_map.mp (mem_srtS.mp hn)
  rw [getV_mem (nz_good g).2.1 (i := p.2) hp]
  exact of_decide_eq_true (List.mem_filter.mp hp).2
theorem nrm_keys {bs : List (Str × Int)} (g : GoodB bs) : (nrm bs).map (·.1) = srtS ((nzB bs).map (·.1)) := by
  rw [nrm_nz g, List.map_map]
  exact List.map_id _
theorem srtS_length {ns : List Str} (nd : ns.Nodup) : (srtS ns).length = ns.length := by
  refine Nat.le_antisymm (srtS_len_le ns) ?_
  exact Nat.le_of_eq (perm_of_sub nd (fun z hz => mem_srtS.mpr hz) (srtS_len_le ns)).length_eq.symm
theorem nrm_len {bs : List (Str × Int)} (g : GoodB bs) : (nrm bs).length = (nzB bs).length := by
  have e := congrArg List.length (nrm_keys g)
  rw [List.length_map, srtS_length (nz_good g).2.1, List.length_map] at e
  exact e
theorem nrm_goodB {bs : List (Str × Int)} (g : GoodB bs) : GoodB (nrm bs) := ⟨fun p hp => by
    have h : p.1 ∈ (nrm bs).map (·.1) := List.mem_map.mpr ⟨p, hp, rfl⟩
    rw [nrm_keys g] at h
    obtain ⟨q, hq, e⟩ := List.mem_map.mp (mem_srtS.mp h)
    rw [← e]
    exact (nz_good g).1 q hq, (good_vec _ _).s.nodup, by rw [nrm_len g]; exact (nz_good g).2.2⟩
theorem nrm_bd {bs : List (Str × Int)} (g : GoodB bs) {B : Nat} (b : ∀ p ∈ bs, p.2.natAbs < B) : ∀ p ∈ nrm bs, p.2.natAbs < B := fun p hp => by
  obtain ⟨h1, h2, _⟩ := mem_vec.mp hp
  obtain ⟨q, hq, e⟩ := List.mem_map.mp h1
  rw [h2, ← e, getV_mem g.2.1 (i := q.2) hq]
  exact b q hq
set_option hygiene false in
local macro_rules | `(tactic| walk_at "t3") => `(tactic| (
  refine rd_getO v13.ins ⟨r, d, nrm bs, x, rfl, v13.rd, hx, fun H15 s15 => ?_⟩
  rw [hw]
  walk_at "r"
  refine ⟨_, rfl, hb, ?_⟩
  walk_at "r"
  refine ⟨_, rfl, hb, ?_⟩
  walk_at "r"
  refine rd_decN (fun c => absurd rfl c) (fun _ => ?_)
  walk_at "r"
  have v15 := v13.keep s15
  refine rd_inO v15.ins ⟨r, d, nrm bs, x, rfl, v15.rd, hx.keep s15, fun H16 s16 => ⟨_, rfl, ?_⟩⟩
  rw [inb x, hw]
  walk_at "r"
  refine rd_decN (fun c => absurd (by simp) c) (fun _ => ?_)
  walk_at "r"
  exact ⟨_, _, rfl, s13.trans (s15.trans s16)⟩))
def spTold3 (C : Addr) : Sp := fun vs H Q _ => ∃ (r d D : Addr) (bs : List (Str × Int)), vs = [.ref r, .ref D] ∧ VecAt C H r d (nrm bs) ∧ H D = some (.dK (kwK (intB bs))) ∧ GoodB bs ∧ (∀ p ∈ bs, p.2.natAbs < 10 ^ 60) ∧ ∀ H', Same H H' → Q (.bl true) H'
section
variable {P : Program} {w : World} {K : PySem.W.Frag} {mg : Str → Option Value} {base : Heap} {C fG fI fL fB fR pN fN : Addr} {fdN : FuncData}
theorem ok__law_told_right {f : Addr} {fd : FuncData} (F : Fun K "_law_told_right" "_law_told_right" s__law_told_right f fd) (T : Tx K mg) (V_Vector : VcK K mg C) (O_in : OpF P w K mg base 1 C "__contains__" (spVinA C) fI) (O_get : OpF P w K mg base 2 C "__getitem__" (spVgetA C) fG)
    (O_len : OpF P w K mg base 1 C "__len__" (spVlen C) fL) (O_bool : OpF P w K mg base 1 C "__bool__" (spVbool C) fB) (O_repr : OpF P w K mg base 2 C "__repr__" (spVrepr C) fR) (P_names : PropOf K C "names" pN fN) (F_names : FnOk P w K mg base CX0 1 fN fdN ["self"] (spVnames C)) (B_names : Binds K fdN ["self"] []) :
    FnG P w K mg base CX0 6 f fd ["_law_made", "_law_box_here"] (spTold3 C) := by
  refine okG F sc__law_told_right (fun vs H Q E h => ?_) (fun cdv A outer s H vs Q E hrG h => ?_)
  · obtain ⟨r, d, D, bs, rfl, _⟩ := h
    rfl
  obtain ⟨r, d, D, bs, rfl, v, hD, g, bd, k⟩ := h
  have hg := hrG.g
  have hr := hrG.r
  have hu := hu_of hr
  refine ⟨_, (pss_cons (ps_set (i := 2) sc__law_told_right.nd rfl (by first | exact Or.inl rfl | exact Or.inr rfl) (pe_callTy (cr_dictP rfl) (by rfl) T.b_dict (by decide +kernel) (pa_cons (pe_lock (pe_lc (own := [("_law_label", 5)]) rfl sc__law_told_right.nd (pi_keys (pv 1)) (blkOk_by (own := [("_law_label", 5)]) (N := ["_law_made", "_law_box_here", "_law_held", "_law_told", "_law_menu", "_law_label", "_law_due", "_law_shown"]) (sc := defScope s__law_told_right) (by decide +kernel)) (fun _ _ _ _ _ => (pg_name (i := 5) sc__law_told_right.nd rfl (by first | exact Or.inl rfl | exact Or.inr rfl))) (fun _ _ _ _ _ => (pts_one (pt_cmpR op_ne (pe_dget hu (pv 1) (pv 5) (fun _ _ => rfl)) pe_int (nomark _)))) (fun _ _ _ _ _ => (pe_tup (pa_cons (pv 5) (pa_cons (pe_dget hu (pv 1) (pv 5) (fun _ _ => rfl)) pa_nil)))))) pa_nil)))
      (pss_cons (ps_set (i := 3) sc__law_told_right.nd rfl (by first | exact Or.inl rfl | exact Or.inr rfl) (pe_lst (pa_cons (pe_prop (pv 0) V_Vector.cl P_names F_names (hr.mono (by decide)) B_names .nil pass0 rfl) (pa_cons (pe_callB (cr_lenO O_len (hr.mono (by decide)) pass0) (by rfl) T.b_len (by decide +kernel) (pa_cons (pv 0) pa_nil)) (pa_cons (pe_callTy (cr_boolO O_bool (hr.mono (by decide)) pass0) (by rfl) T.b_bool (by decide +kernel) (pa_cons (pv 0) pa_nil)) pa_nil)))))
      (pss_cons (ps_if (pt_cmpR op_ne (pe_callB (cr_reprQ hg hr.units) (by rfl) T.b_repr (by decide +kernel) (pa_cons (pv 3) pa_nil)) (pe_callB (cr_reprQ hg hr.units) (by rfl) T.b_repr (by decide +kernel) (pa_cons (pe_lst (pa_cons (pe_callTy cr_tupOf (by rfl) T.b_tuple (by decide +kernel) (pa_cons (pe_callB (cr_sortD rfl) (by rfl) T.b_sorted (by decide +kernel) (pa_cons (pv 2) pa_nil)) pa_nil)) (pa_cons (pe_callB cr_lenD (by rfl) T.b_len (by decide +kernel) (pa_cons (pv 2) pa_nil)) (pa_cons (pe_cmpR (or_neD0 (Nat.lt_of_succ_lt hu)) (pv 2) pe_dnewK (nomark _)) pa_nil)))) pa_nil)) (nomark _)) (pss_one (ps_ret pe_bl)) pss_nil)
      (pss_cons (ps_set (i := 4) sc__law_told_right.nd rfl (by first | exact Or.inl rfl | exact Or.inr rfl) (pe_lst (pa_cons pe_str (pa_cons pe_str (pa_cons pe_str (pa_cons pe_str (pa_cons pe_non (pa_cons pe_int (pa_cons pe_bl (pa_cons (pe_tup pa_nil) (pa_cons (pe_lst (pa_cons pe_str pa_nil)) (pa_cons pe_dnewK (pa_cons (pe_tup (pa_cons pe_str pa_nil)) pa_nil)))))))))))))
      (pss_cons (ps_for (by first | exact PassesOwn.never | exact passes_of rfl) rfl (pi_list (pe_op op_cat (pe_callTy (cr_listD rfl) (by rfl) T.b_list (by decide +kernel) (pa_cons (pv 1) pa_nil)) (pv 4))) (pg_name (i := 5) sc__law_told_right.nd rfl (by first | exact Or.inl rfl | exact Or.inr rfl))
      (pss_cons (ps_set (i := 6) sc__law_told_right.nd rfl (by first | exact Or.inl rfl | exact Or.inr rfl) (pe_ifExp (PW.pt (pw_and (pt_val (pe_callB call_isi (by rfl) T.b_isinstance (by decide +kernel) (pa_cons (pv 5) (pa_cons (pe_bltn (v := .ty "str") (by rfl) T.b_str (by decide +kernel) rfl) pa_nil)))) (pw_and1 (pt_cmp (pc_din hu (pv 5) (pv 2)))))) (pe_dget hu (pv 2) (pv 5) (fun _ _ => rfl)) pe_int))
      (pss_one (ps_if (PW.pt (pw_or (pt_cmpR op_ne (pe_callB cr_reprI (by rfl) T.b_repr (by decide +kernel) (pa_cons (pe_getO O_get (hr.mono (by decide)) pass0 (pv 0) (pv 5)) pa_nil)) (pe_callB cr_reprI (by rfl) T.b_repr (by decide +kernel) (pa_cons (pv 6) pa_nil)) (nomark _)) (pw_or1 (pt_cmpR op_ne (pe_cmpR (or_inO O_in (hr.mono (by decide)) pass0) (pv 5) (pv 0) rfl) (pe_cmpR op_ne (pv 6) pe_int (nomark _)) (nomark _))))) (pss_one (ps_ret pe_bl)) pss_nil))))
      (pss_cons (ps_set (i := 7) sc__law_told_right.nd rfl (by first | exact Or.inl rfl | exact Or.inr rfl) (pe_m1 PySem.F.slot_str_join PySem.F.type_str_join mt_joinN pe_str (pe_lc (own := [("_law_label", 5)]) rfl sc__law_told_right.nd (pi_list (pe_callB (cr_sortD rfl) (by rfl) T.b_sorted (by decide +kernel) (pa_cons (pv 2) pa_nil))) (blkOk_by (own := [("_law_label", 5)]) (N := ["_law_made", "_law_box_here", "_law_held", "_law_told", "_law_menu", "_law_label", "_law_due", "_law_shown"]) (sc := defScope s__law_told_right) (by decide +kernel)) (fun _ _ _ _ _ => (pg_name (i := 5) sc__law_told_right.nd rfl (by first | exact Or.inl rfl | exact Or.inr rfl))) (fun _ _ _ _ _ => pts_nil) (fun _ _ _ _ _ => (pe_op or_addS (pe_op or_addS (pv 5) pe_str) (pe_callTy cr_strI (by rfl) T.b_str (by decide +kernel) (pa_cons (pe_dget hu (pv 2) (pv 5) (fun _ _ => rfl)) pa_nil)))))))
      (pss_one (ps_ret (pe_cmpR op_eq (pe_callB (cr_reprO O_repr (hr.mono (by decide)) pass0) (by rfl) T.b_repr (by decide +kernel) (pa_cons (pv 0) pa_nil)) (pe_op or_addS (pe_op or_addS pe_str (pe_ix (ix_listK (K := K) rfl) (pe_lst (pa_cons pe_str (pa_cons (pv 7) pa_nil))) (pe_callTy cr_int1 (by rfl) T.b_int (by decide +kernel) (pa_cons (pe_cmpR (or_neD0 (Nat.lt_of_succ_lt hu)) (pv 2) pe_dnewK (nomark _)) pa_nil)) (fun _ _ => rfl))) pe_str) (nomark _)))))))))), ?_⟩
  have l60 := g.2.2
  walk_at "r"
  refine lock_at hD fun od H1 b1 h1 => ?_
  walk_at "r"
  refine keys_at h1 (lc_any itw_keys (fun L i H' => ∃ ts : List Addr, Same H1 H' ∧ H' L = some (.lst (ts.map V.ref)) ∧ ts.length ≤ i ∧ Paired (fun t (kv : Key × V) => H' t = some (.tup [kV kv.1, kv.2])) ts (kwK (intB (nzB (bs.take i))))) (fun L i H' _ I => by obtain ⟨ts, s, _⟩ := I; exact s _ _ h1) (fun L nL => ⟨[], same_new nL, upd_same, Nat.zero_le _, .nil⟩) (fun L i a x H2 H3 nL hi I y => ?_) fun L H2 nL I => ?_)
  · obtain ⟨ts, s2, h2, l2, p2⟩ := I
    obtain ⟨rfl, rfl⟩ := y
    have hi' : (kwK (intB bs))[i]? = some a := hi
    unfold kwK intB at hi'
    rw [List.map_map, List.getElem?_map] at hi'
    obtain ⟨e, he, rfl⟩ := Option.map_eq_some_iff.mp hi'
    have hib : i < bs.length := (List.getElem?_eq_some_iff.mp he).1
    have em : e ∈ bs := List.mem_of_getElem? he
    have tk1 : bs.take (i + 1) = bs.take i ++ [e] := by rw [List.take_add_one, he]; rfl
    have hval : valV (kwK (intB bs)) (.inr e.1) = some (.int e.2) := by rw [val_mem (List.mem_map.mpr ⟨e, em, rfl⟩), getV_mem g.2.1 (i := e.2) em]
    have rd2 : Rd H3 D (.dK (kwK (intB bs))) := .inr ⟨od, s2 _ _ h1⟩
    walk_at "r"
    refine ⟨rfl, ?_⟩
    walk_at "r"
    refine dget_rd rd2 hval ?_
    walk_at "r"
    refine rd_decN (fun c => ?_) (fun c => ?_)
    · walk_at "r"
      refine dget_rd rd2 hval ?_
      walk_at "r"
      refine new_tup (by show 2 ≤ sizeLine; decide) fun t H4 n4 s4 h4 => ?_
      have nz1 : nzB (bs.take (i + 1)) = nzB (bs.take i) ++ [e] := by
        rw [tk1]
        unfold nzB
        rw [List.filter_append, List.filter_cons, decide_eq_true c]; rfl
      have Lt : ∀ {x : Addr} {o : HO}, H4 x = some o → (∀ xs, o ≠ .lst xs) → x ≠ L := fun {x o} hx n z => by
        rw [z, s4 _ _ h2] at hx
        cases hx
        exact n _ rfl
      refine ⟨_, s4 _ _ h2, small1000 (by rw [List.length_map]; omega), ts ++ [t], fun b o eb => ?_, ?_, by rw [List.length_append]; show ts.length + 1 ≤ i + 1; omega, ?_⟩
      · rw [upd_ne (ne_of_none eb nL)]
        exact s4 _ _ (s2 _ _ eb)
      · rw [upd_same, List.map_append]; rfl
      · rw [nz1]
        have e1 : kwK (intB (nzB (bs.take i) ++ [e])) = kwK (intB (nzB (bs.take i))) ++ [(Sum.inr e.1, V.int e.2)] := by unfold kwK intB; rw [List.map_append, List.map_append]; rfl
        rw [e1]
        refine Paired.app (Paired.imp2 p2 fun t2 kv ht => ?_) (.cons ?_ .nil)
        · have := s4 _ _ ht
          rw [upd_ne (Lt this fun xs z => by cases z)]
          exact this
        · rw [upd_ne (Lt h4 fun xs z => by cases z)]
          exact h4
    · refine ⟨ts, s2, h2, by omega, ?_⟩
      have nz1 : nzB (bs.take (i + 1)) = nzB (bs.take i) := by
        rw [tk1]
        unfold nzB
        rw [List.filter_append, List.filter_cons, decide_eq_false (fun z => z c)]
        exact List.append_nil _
      rw [nz1]
      exact p2
  have ekl : (kwK (intB bs)).length = bs.length := by unfold kwK intB; rw [List.length_map, List.length_map]
  rw [ekl, List.take_length] at I
  obtain ⟨ts, s2, h2, l2, p2⟩ := I
  have ng := nz_good g
  refine unlock hD b1 h1 s2 fun H3 s3 b3 => ?_
  have Dl : ∀ {x : Addr} {o : HO}, H2 x = some o → (∀ c u, o ≠ .frz c u) → x ≠ D := fun {x o} hx n z => by
    rw [z, s2 _ _ h1] at hx
    cases hx
    exact n _ _ rfl
  have h3 := b3 _ _ (Dl h2 fun _ _ z => by cases z) h2
  walk_at "r"
  refine ⟨L, ts, kwK (intB (nzB bs)), rfl, sqL_of h3, Paired.imp2 p2 fun t kv ht => sqT_of (b3 _ _ (Dl ht fun _ _ z => by cases z) ht), fun D2 nD2 => ?_⟩
  rw [merge_nil ng.2.1]
  have s4 := same_new (o := HO.dK (kwK (intB (nzB bs)))) nD2
  have h4 : (upd H3 D2 (.dK (kwK (intB (nzB bs))))) D2 = some (.dK (kwK (intB (nzB bs)))) := upd_same
  generalize (upd H3 D2 (HO.dK (kwK (intB (nzB bs))))) = H4 at s4 h4 ⊢
  have s04 := s3.trans s4
  walk_at "r"
  have v4 := v.keep s04
  obtain ⟨dxv, ev⟩ := v4.at_
  have gps : GoodB (nrm bs) := nrm_goodB g
  refine prop_at ev ⟨r, d, nrm bs, rfl, v4.rd, fun U H5 n5 s5 h5 => ?_⟩
  walk_at "r"
  have v5 := v4.keep s5
  refine rd_lenO v5.ins ⟨r, d, nrm bs, rfl, v5.rd, (nrm bs).length, rfl, by have := gps.2.2; omega, ?_⟩
  walk_at "r"
  refine rd_boolO v5.ins ⟨r, d, nrm bs, rfl, v5.rd, _, rfl, ?_⟩
  walk_at "r"
  refine new_lst (by show 3 ≤ sizeLine; decide) fun W H6 n6 s6 h6 => ?_
  walk_at "r"
  have lps := gps.2.2
  let dd : PyData := .list [.tuple (((nrm bs).map (·.1)).map PyData.str), .int ((nrm bs).length : Nat), .bool (!(nrm bs).isEmpty)]
  have smd : Sm 20000 3 dd := by
    have h1 : SmAll ((((nrm bs).map (·.1)).map PyData.str).length * (8 + 1)) 0 (((nrm bs).map (·.1)).map PyData.str) := smAll_of fun x hx => by
      obtain ⟨z, hz, rfl⟩ := List.mem_map.mp hx
      obtain ⟨e, he, rfl⟩ := List.mem_map.mp hz
      have := nameS_bound (gps.1 e he)
      exact sm_str this.2 this.1
    rw [List.length_map, List.length_map] at h1
    have h2 := (smAll_cons (h1.tuple) (smAll_cons ((sm_int (i := ((nrm bs).length : Nat)) (by omega)).mono (Nat.le_refl _) (by decide)) (smAll_cons ((sm_bool (b := !(nrm bs).isEmpty)).mono (Nat.le_refl _) (by decide)) smAll_nil))).list
    exact h2.mono (by omega) (by decide)
  have dp6 : Dp K H6 (.ref W) dd := .lst (sqL_of h6) (.cons (.tup (sqT_of (s6 _ _ h5)) dp_strs) (.cons (.int _) (.cons (.bl _) .nil)))
  refine rd_reprS dp6 smd (by decide) (by decide) ?_
  walk_at "r"
  have s06 := s04.trans (s5.trans s6)
  have s46 := s5.trans s6
  refine rd_sortD (.of (s46 _ _ h4)) (by rw [keys_intB]; exact ng.2.1) (by rw [intB, List.length_map]; exact Nat.lt_of_le_of_lt ng.2.2 (by decide)) fun Z H7 n7 s7 h7 => ?_
  rw [keys_intB, ← nrm_keys g] at h7
  walk_at "r"
  refine ⟨Z, _, rfl, .inl ⟨sqL_of h7, fun U2 nU2 => ?_⟩⟩
  have s8 := same_new (o := HO.tup (((nrm bs).map (·.1)).map V.str)) nU2
  have h8 : (upd H7 U2 (.tup (((nrm bs).map (·.1)).map V.str))) U2 = some (.tup (((nrm bs).map (·.1)).map V.str)) := upd_same
  generalize (upd H7 U2 (HO.tup (((nrm bs).map (·.1)).map V.str))) = H8 at s8 h8 ⊢
  have s48 := s46.trans (s7.trans s8)
  walk_at "r"
  refine rd_lenD (.of (s48 _ _ h4)) ?_
  rw [show (kwK (intB (nzB bs))).length = (nrm bs).length by rw [nrm_len g]; unfold kwK intB; rw [List.length_map, List.length_map]]
  walk_at "r"
  refine rd_dnewK fun O9 H9 n9 s9 h9 => ?_
  walk_at "r"
  have emp : decide (intB (nzB bs) ≠ []) = !(nrm bs).isEmpty := by
    have e := nrm_len g
    have : (intB (nzB bs)).length = (nrm bs).length := by rw [e]; unfold intB; rw [List.length_map]
    by_cases c : nrm bs = []
    · rw [c] at this ⊢
      rw [List.eq_nil_of_length_eq_zero this]
      rfl
    · have hne : intB (nzB bs) ≠ [] := fun z => c (List.eq_nil_of_length_eq_zero (by rw [← this, z]; rfl))
      rw [decide_eq_true hne]
      cases hq : nrm bs with
      | nil => exact absurd hq c
      | cons x l => rfl
  refine rd_neD0k (ps := intB (nzB bs)) (s9 _ _ (s48 _ _ h4)) h9 ?_
  rw [emp]
  walk_at "r"
  refine new_lst (by show 3 ≤ sizeLine; decide) fun W2 H10 n10 s10 h10 => ?_
  walk_at "r"
  have dp10 : Dp K H10 (.ref W2) dd := .lst (sqL_of h10) (.cons (.tup (sqT_of (s10 _ _ (s9 _ _ h8))) dp_strs) (.cons (.int _) (.cons (.bl _) .nil)))
  refine rd_reprS dp10 smd (by decide) (by decide) ?_
  walk_at "r"
  refine rd_decN (fun c => absurd rfl c) (fun _ => ?_)
  walk_at "r"
  have s410 := s48.trans (s9.trans s10)
  refine new_tup (by show 0 ≤ sizeLine; decide) fun oa1 Ha1 na1 sa1 ha1 => ?_
  walk_at "r"
  refine new_lst (by show 1 ≤ sizeLine; decide) fun oa3 Ha3 na3 sa3 ha3 => ?_
  walk_at "r"
  refine rd_dnewK fun oa5 Ha5 na5 sa5 ha5 => ?_
  walk_at "r"
  refine new_tup (by show 1 ≤ sizeLine; decide) fun oa7 Ha7 na7 sa7 ha7 => ?_
  walk_at "r"
  refine new_lst (by show 11 ≤ sizeLine; decide) fun oaL HaL naL saL haL => ?_
  walk_at "r"
  have ka1 := ((((sa3).trans (sa5)).trans (sa7)).trans (saL)) _ _ (ha1)
  have ka3 := (((sa5).trans (sa7)).trans (saL)) _ _ (ha3)
  have ka5 := ((sa7).trans (saL)) _ _ (ha5)
  have ka7 := (saL) _ _ (ha7)
  have Sa := (((((sa1).trans (sa3)).trans (sa5)).trans (sa7)).trans (saL))
  refine rd_listD (.of ((s04.trans (s410.trans Sa)) _ _ hD)) fun Y H11 n11 s11 h11 => ?_
  rw [keys_intB] at h11
  walk_at "r"
  refine rd_cat h11 (s11 _ _ haL) (by rw [List.length_map, List.length_map]; show bs.length + 11 ≤ 100000; omega) fun Y2 H12 n12 s12 h12 => ?_
  walk_at "r"
  refine ⟨⟨_, sqL_of h12⟩, ?_⟩
  have s1012 : Same H10 H12 := Sa.trans (s11.trans s12)
  have sL12 : Same HaL H12 := s11.trans s12
  have s412 := s410.trans s1012
  have v12 := v4.keep s412
  have h412 := s412 _ _ h4
  have b60 : ∀ i : Int, i.natAbs < 10 ^ 60 → i.natAbs.log2 < 1920 := fun i h => Nat.lt_of_lt_of_le (log2_lt (ten60 h) (by decide)) (by decide)
  have gvb : ∀ x : V, (getT (nrm bs) x).natAbs < 10 ^ 60 := fun x => by
    cases x with
    | str z =>
      show (getV (nrm bs) z).natAbs < 10 ^ 60
      by_cases c : z ∈ (nrm bs).map (·.1)
      · obtain ⟨e, he, rfl⟩ := List.mem_map.mp c
        rw [getV_mem gps.2.1 (i := e.2) he]
        exact nrm_bd g bd e he
      · rw [getV_none c]; decide
    | _ => show (0 : Int).natAbs < 10 ^ 60; decide
  have inb : ∀ x : V, inT (nrm bs) x = decide (getT (nrm bs) x ≠ 0) := fun x => by
    cases x with
    | str z => exact Bool.eq_iff_iff.mpr (by rw [show inT (nrm bs) (.str z) = decide (z ∈ (nrm bs).map (·.1)) from rfl, decide_eq_true_iff, decide_eq_true_iff]; exact good_names (good_vec _ _) z)
    | _ => rfl
  refine for_any (itw_list (xs := _)) (fun i σ H' => ∃ x5 x6, σ = [some (.ref r), some (.ref D), some (.ref D2), some (.ref W), some (.ref oaL), x5, x6, none] ∧ Same H12 H') (fun i σ H' ⟨_, _, _, s⟩ => sqL_of (s _ _ h12)) ⟨none, none, rfl, Same.refl _⟩ (fun i a x σ1 H13 H14 hi I y => ?_) fun σ1 H13 I => ?_
  · obtain ⟨x5, x6, rfl, s13⟩ := I
    obtain ⟨rfl, rfl⟩ := y
    have hm := List.mem_of_getElem? hi
    have hx : Th H14 x := by
      rcases List.mem_append.mp hm with h | h
      · obtain ⟨z, hz, rfl⟩ := List.mem_map.mp h
        obtain ⟨e, he, rfl⟩ := List.mem_map.mp hz
        have := nameS_bound (g.1 e he)
        exact .str _ (by show e.1.length ≤ 1000; omega) this.2
      · clear hm hi
        have mv := sL12.trans s13
        simp only [List.mem_append, List.mem_cons, List.not_mem_nil, or_false] at h
        rcases h with (rfl | rfl | rfl | rfl | rfl | rfl | rfl | rfl | rfl | rfl | rfl)
        · exact (scV_th (by decide +kernel)).1
        · exact (scV_th (by decide +kernel)).1
        · exact (scV_th (by decide +kernel)).1
        · exact (scV_th (by decide +kernel)).1
        · exact (scV_th (by decide +kernel)).1
        · exact (scV_th (by decide +kernel)).1
        · exact (scV_th (by decide +kernel)).1
        · exact .tup (mv _ _ ka1)
        · exact .lst (mv _ _ ka3)
        · exact .dK (mv _ _ ka5)
        · exact .tup (mv _ _ ka7)
    walk_at "r"
    obtain ⟨t, ty, e1, _, _⟩ := hx.ty (K := K)
    refine rd_isi ty e1 ?_
    have v13 := v12.keep s13
    cases hs : isStrV x with
    | false =>
      have hw : getT (nrm bs) x = 0 := by
        cases x with
        | str z => cases hs
        | _ => rfl
      have hb : (0 : Int).natAbs.log2 < 1920 := by decide
      walk_at "r"
      walk_at "t3"
    | true =>
      obtain ⟨z, rfl⟩ : ∃ z, x = .str z := by
        cases x with
        | str z => exact ⟨z, rfl⟩
        | _ => cases hs
      walk_at "r"
      refine din_s (s13 _ _ h412) ?_
      rw [val_isSome]
      walk_at "r"
      refine rd_dec (fun c => ?_) (fun c => ?_)
      · walk_at "r"
        refine dget_s (s13 _ _ h412) (val_mem c) ?_
        have hw : getT (nrm bs) (.str z) = getV (nzB bs) z := by show getV (nrm bs) z = _; rw [getV_nrm, getV_nz g]
        have hb : (getV (nzB bs) z).natAbs.log2 < 1920 := by rw [← hw]; exact b60 _ (gvb _)
        generalize V.str z = x at hx hw ⊢
        walk_at "r"
        walk_at "t3"
      · walk_at "r"
        have hw : getT (nrm bs) (.str z) = 0 := by show getV (nrm bs) z = _; rw [getV_nrm, ← getV_nz g, getV_none c]
        have hb : (0 : Int).natAbs.log2 < 1920 := by decide
        generalize V.str z = x at hx hw ⊢
        walk_at "t3"
  · obtain ⟨x5, x6, rfl, s13⟩ := I
    have e1 : ("=" : Str).length = 1 := by decide +kernel
    have esp : (" " : Str).length = 1 := by decide +kernel
    have big : (10000 : Nat) ≤ sizeLine := by decide
    walk_at "r"
    refine rd_sortD (.of (s13 _ _ h412)) (by rw [keys_intB]; exact ng.2.1) (by rw [intB, List.length_map]; exact Nat.lt_of_le_of_lt ng.2.2 (by decide)) fun Z2 H14 n14 s14 h14 => ?_
    rw [keys_intB] at h14
    walk_at "r"
    refine ⟨⟨_, sqL_of h14⟩, ?_⟩
    have h414 := (s13.trans s14) _ _ h412
    refine lcF_any (l := srtS ((nzB bs).map (·.1))) (itw_listM (f := V.str)) (fun n => some (V.str (wText (n, getV (nzB bs) n)))) (fun H' s => sqL_of (s _ _ h14)) (fun D3 i n x H15 H16 nD3 hi I y => ?_) fun D3 H15 nD3 s15 h15 => ?_
    · obtain ⟨rfl, rfl⟩ := y
      have hm : n ∈ (nzB bs).map (·.1) := mem_srtS.mp (List.mem_of_getElem? hi)
      obtain ⟨e, he, rfl⟩ := List.mem_map.mp hm
      have evl : getV (nzB bs) e.1 = e.2 := getV_mem ng.2.1 he
      have eb : e.2.natAbs < 10 ^ 60 := bd e (List.mem_filter.mp he).1
      obtain ⟨l1, l2, l3⟩ := wText_len (ng.1 e he) eb
      walk_at "r"
      refine ⟨rfl, ?_⟩
      walk_at "r"
      · refine dget_s (I.same _ _ h414) (val_mem hm) ?_
        rw [evl]
        walk_at "r"
        · have ew : e.1 ++ "=" ++ Str.ofString (toString e.2) = wText (e.1, getV (nzB bs) e.1) := by rw [evl]; rfl
          rw [ew]
          refine I.some nD3 hi rfl (Same.refl _) ?_
          have := srtS_len_le ((nzB bs).map (·.1))
          rw [List.length_map] at this
          have := ng.2.2
          omega
        · rw [len_append]; omega
        · exact b60 _ eb
      · omega
    rw [filterMap_some] at h15
    have ew : (srtS ((nzB bs).map (·.1))).map (fun n => V.str (wText (n, getV (nzB bs) n))) = ((nrm bs).map wText).map V.str := by rw [nrm_nz g, List.map_map, List.map_map]; rfl
    rw [ew] at h15
    have jl : (Str.join " " ((nrm bs).map wText)).length ≤ 5000 := by
      have h1 := len_join " " ((nrm bs).map wText)
      have h2 := sum_le (l := ((nrm bs).map wText).map (·.length)) (b := 70) fun n hn => by
        obtain ⟨z, hz, rfl⟩ := List.mem_map.mp hn
        obtain ⟨p, hp, rfl⟩ := List.mem_map.mp hz
        exact (wText_len (gps.1 p hp) (nrm_bd g bd p hp)).1
      rw [List.length_map, List.length_map] at h2
      rw [List.length_map, esp] at h1
      omega
    have js : (((nrm bs).map wText).map (·.length)).sum + ((nrm bs).map wText).length * (" " : Str).length ≤ 16777216 := by
      have h2 := sum_le (l := ((nrm bs).map wText).map (·.length)) (b := 70) fun n hn => by
        obtain ⟨z, hz, rfl⟩ := List.mem_map.mp hn
        obtain ⟨p, hp, rfl⟩ := List.mem_map.mp hz
        exact (wText_len (gps.1 p hp) (nrm_bd g bd p hp)).1
      rw [List.length_map, List.length_map] at h2
      rw [List.length_map, esp]
      omega
    walk_at "r"
    refine rd_joinL h15 js ?_
    walk_at "r"
    have v15 := v12.keep ((s13.trans s14).trans s15)
    refine rd_reprO v15.ins ⟨r, d, nrm bs, rfl, v15, good_vec _ _, gps, nrm_bd g bd, fun H16 s16 => ⟨_, rfl, ?_⟩⟩
    walk_at "r"
    refine new_lst (by show 2 ≤ sizeLine; decide) fun M H17 n17 s17 h17 => ?_
    walk_at "r"
    refine rd_dnewK fun O H18 n18 s18 h18 => ?_
    walk_at "r"
    refine rd_neD0k (ps := intB (nzB bs)) ((s15.trans (s16.trans (s17.trans s18))) _ _ h414) h18 ?_
    rw [emp]
    walk_at "r"
    have ix : atI [V.str (Str.ofString "0"), V.str (Str.join (Str.ofString " ") ((nrm bs).map wText))] (if (!(nrm bs).isEmpty) = true then 1 else 0) = some (.str (vText (nrm bs))) := by
      unfold vText
      by_cases c : nrm bs = []
      · rw [c]; rfl
      · rw [if_neg c]
        cases hq : nrm bs with
        | nil => exact absurd hq c
        | cons x l => rfl
    refine rd_ixL (sqL_of (s18 _ _ h17)) ix ?_
    have vl := vText_len gps (nrm_bd g bd)
    have e7 : ("Vector(" : Str).length = 7 := by decide +kernel
    have e11 : (")" : Str).length = 1 := by decide +kernel
    walk_at "r"
    · rw [decide_eq_true rfl]
      exact k H18 ((s04.trans s412).trans (s13.trans (s14.trans (s15.trans (s16.trans (s17.trans s18))))))
    · rw [len_append]; omega
    · omega
end


end My

namespace My
open PySem PySem.Spec PyProof.Rows L2 EE

local macro_rules | `(tactic| walk_at "sq") => `(tactic| first | assumption | exact sqL_of (by assumption) | exact sqT_of (by assumption))
local macro_rules | `(tactic| walk_at "same") => `(tactic| first
  | assumption
  | exact Same.refl _
  | (refine Same.trans ?_ (by assumption); walk_at "same")
  | (refine same_past ?_ (by assumption) ?_; (walk_at "same"); (walk_at "no")))
local macro_rules | `(tactic| walk_at "no") => `(tactic| first
  | assumption
  | (refine none_same ?_ (by assumption); walk_at "same")
  | (refine none_same (by assumption) ?_; walk_at "no")
  | (refine none_but (by assumption) ?_ ?_; (walk_at "n"); (walk_at "no")))
local macro_rules | `(tactic| walk_at "but") => `(tactic| first
  | assumption
  | exact But.refl _ _
  | (refine But.then ?_ (by assumption); walk_at "but")
  | (refine But.trans ?_ (by assumption); walk_at "but")
  | (refine but_past ?_ (by assumption) ?_; (walk_at "but"); (walk_at "no")))
local macro_rules | `(tactic| walk_at "hasp") => `(tactic| (repeat (first | exact ⟨_, _, by assumption⟩ | (refine hasPen_same (by assumption) ?_))))
local macro_rules | `(tactic| walk_at "hasc") => `(tactic| (repeat (first | exact ⟨_, _, by assumption⟩ | (refine hasCells_same (by assumption) ?_))))
local macro_rules | `(tactic| walk_at "pen") => `(tactic| (repeat (first | assumption | (refine PenAt.keep ?_ (by assumption)))))
local macro_rules | `(tactic| walk_at "has") => `(tactic| first
  | exact ⟨_, by assumption⟩
  | (refine has_same (by assumption) ?_; walk_at "has")
  | (refine has_but (by assumption) ?_ ?_; (walk_at "n"); (walk_at "has")))
local macro_rules | `(tactic| walk_at "n") => `(tactic| first
  | assumption
  | exact Ne.symm (by assumption)
  | (refine ne_free (by assumption) ?_; walk_at "has")
  | (refine ne_free' (by assumption) ?_; walk_at "has")
  | (refine pen_off (by assumption) ?_; walk_at "hasp"; done)
  | (refine Ne.symm (pen_off (by assumption) ?_); walk_at "hasp"; done)
  | (refine pen_off' (by assumption) ?_; walk_at "hasc"; done)
  | (refine Ne.symm (pen_off' (by assumption) ?_); walk_at "hasc"; done))
local macro_rules | `(tactic| walk_at "hh") => `(tactic| first
  | assumption
  | (refine get_same (by assumption) ?_; walk_at "hh")
  | (refine get_but (by assumption) (by walk_at "n") ?_; walk_at "hh"))
local macro_rules | `(tactic| walk_at "h") => `(tactic| first
  | ((repeat (first | assumption | (refine get_same (by assumption) ?_) | (refine get_but (by assumption) (by walk_at "n") ?_))); done)
  | walk_at "hh")
local macro_rules | `(tactic| walk_at "r") => `(tactic| repeat (first
  | (refine go ?_)
  | (with_reducible refine rd_mul ?_ ?_)
  | (with_reducible refine rd_mod ?_ ?_)
  | (with_reducible refine rd_fdiv ?_ ?_)
  | (with_reducible refine rd_pow ?_ ?_)
  | (with_reducible refine rd_strI ?_ ?_)
  | (with_reducible refine rd_addS ?_ ?_)
  | (with_reducible refine rd_lenS ?_ ?_)
  | (with_reducible refine rd_slS ?_ ?_)))
local macro_rules | `(tactic| walk_at "R") => `(tactic| repeat (first
  | (refine go ?_)
  | (with_reducible refine new_lstS fun _ _ _ _ _ => ?_)
  | (with_reducible refine new_lst (Nat.le_of_ble_eq_true rfl) fun _ _ _ _ _ => ?_)
  | (with_reducible refine rd_dnewK fun _ _ _ _ _ => ?_)
  | (with_reducible refine new_tup (Nat.le_of_ble_eq_true rfl) fun _ _ _ _ _ => ?_)
  | ((with_reducible refine len_go ?_); first | (refine Or.inl ⟨_, sqL_of (by walk_at "h"), ?_⟩) | (refine Or.inr ⟨_, sqT_of (by walk_at "h"), ?_⟩))
  | ((with_reducible refine slT_go ?_); refine ⟨_, sqL_of (by walk_at "h"), fun _ _ _ _ _ => ?_⟩)
  | ((with_reducible refine slD_go ?_); refine ⟨_, sqL_of (by walk_at "h"), fun _ _ _ _ _ => ?_⟩)
  | ((with_reducible refine slD1_go ?_); refine ⟨_, sqL_of (by walk_at "h"), fun _ _ _ _ _ => ?_⟩)
  | ((with_reducible refine sl_go ?_); refine ⟨_, sqL_of (by walk_at "h"), fun _ _ _ _ _ => ?_⟩)
  | ((with_reducible refine cat_go ?_); refine catS_go (by walk_at "h") (by walk_at "h") ?_ fun _ _ _ _ _ => ?_; rotate_left)
  | ((with_reducible refine cat_go ?_); refine catV_go (by walk_at "h") (by walk_at "h") (Nat.le_of_ble_eq_true rfl) fun _ _ _ _ _ => ?_)
  | ((with_reducible refine cat_go ?_); refine catV_go (by walk_at "h") (by walk_at "h") ?_ fun _ _ _ _ _ => ?_; rotate_left)
  | ((with_reducible refine ixL_go ?_); refine ⟨_, sqL_of (by walk_at "h"), ?_⟩; refine ⟨_, atI_lit, ?_⟩)
  | (with_reducible refine rd_mul ?_ ?_; rotate_left)
  | (with_reducible refine rd_mod ?_ ?_; rotate_left)
  | (with_reducible refine rd_fdiv ?_ ?_; rotate_left)
  | (with_reducible refine rd_pow ?_ ?_; rotate_left)
  | (with_reducible refine rd_strI ?_ ?_; rotate_left)
  | (with_reducible refine rd_addS ?_ ?_; rotate_left)
  | (with_reducible refine rd_lenS ?_ ?_; rotate_left)
  | (with_reducible refine rd_slS ?_ ?_; rotate_left)))

open LamX
/-- a box as data -/
def boxD (bs : List (Str × Int)) : PyData := .dict (bs.map fun p => (.str p.1, .int p.2))
theorem box_dq {K : PySem.W.Frag} {H : Hp} {r : Addr} {ps : List (Str × Int)} (h : H r = some (.dK (kwK (intB ps)))) : Dq K H (.ref r) (boxD ps) := by
  have e1 : (kwK (intB ps)).map (·.2) = ps.map fun p => V.int p.2 := by unfold kwK intB; rw [List.map_map, List.map_map]; rfl
  have all : DqAll K H ((kwK (intB ps)).map (·.2)) (ps.map fun p => PyData.int p.2) := by
    rw [e1]
    clear h e1
    induction ps with
    | nil => exact .nil
    | cons p ps ih => exact .cons (.int _) ih
  have := Dq.dK h all
  have e2 : List.zip ((kwK (intB ps)).map fun p => keyD p.1) (ps.map fun p => PyData.int p.2) = ps.map fun p => (PyData.str p.1, PyData.int p.2) := by
    clear h e1 all this
    induction ps with
    | nil => rfl
    | cons p ps ih =>
      show (keyD (.inr p.1), PyData.int p.2) :: List.zip ((kwK (intB ps)).map fun p => keyD p.1) (ps.map fun p => PyData.int p.2) = _
      rw [ih]
      rfl
  rw [e2] at this
  exact this
theorem rd_reprBox {K : PySem.W.Frag} {H : Hp} {Q : VK} {r : Addr} {ps : List (Str × Int)} (h : H r = some (.dK (kwK (intB ps)))) (g : GoodB ps) (b : ∀ p ∈ ps, p.2.natAbs < 10 ^ 60) (q : Q (.str (boxD ps).shown) H) : rReprQ K [.ref r] H Q := by
  have key : ∀ l : List (Str × Int), (∀ p ∈ l, nameS p.1 = true ∧ p.2.natAbs < 10 ^ 60) → PyData.leavesShortKv 200 (l.map fun p => (.str p.1, .int p.2)) = true ∧ PyData.showableKv (l.map fun p => (.str p.1, .int p.2)) = true ∧ PyData.bulkKv (l.map fun p => (.str p.1, .int p.2)) ≤ l.length * 18 ∧ PyData.depthKv (l.map fun p => (.str p.1, .int p.2)) ≤ 0 := fun l => by
    induction l with
    | nil => intro _; exact ⟨rfl, rfl, Nat.zero_le _, Nat.zero_le _⟩
    | cons p l ih =>
      intro h
      obtain ⟨i1, i2, i3, i4⟩ := ih fun q hq => h q (List.mem_cons_of_mem _ hq)
      obtain ⟨a, b⟩ := h p List.mem_cons_self
      have s1 := smW_str (nameS_bound a).2 (nameS_bound a).1
      have s2 := smW_int (Nat.lt_of_lt_of_le b (Nat.pow_le_pow_right (by decide) (by decide : 60 ≤ 190)))
      refine ⟨?_, ?_, ?_, ?_⟩
      · show (PyData.leavesShort 200 (.str p.1) && PyData.leavesShort 200 (.int p.2) && PyData.leavesShortKv 200 (l.map fun p => (.str p.1, .int p.2))) = true
        rw [s1.l, s2.l, i1]; rfl
      · show (PyData.showable (.str p.1) && PyData.showable (.int p.2) && PyData.showableKv (l.map fun p => (.str p.1, .int p.2))) = true
        rw [s1.s, s2.s, i2]; rfl
      · show PyData.bulk (.str p.1) + PyData.bulk (.int p.2) + 2 + PyData.bulkKv (l.map fun p => (.str p.1, .int p.2)) ≤ _
        have := s1.b; have := s2.b
        rw [List.length_cons, Nat.succ_mul]
        omega
      · show max (max (PyData.depth (.str p.1)) (PyData.depth (.int p.2))) (PyData.depthKv (l.map fun p => (.str p.1, .int p.2))) ≤ 0
        exact Nat.max_le.mpr ⟨Nat.max_le.mpr ⟨s1.d, s2.d⟩, i4⟩
  obtain ⟨i1, i2, i3, i4⟩ := key ps fun p hp => ⟨g.1 p hp, b p hp⟩
  refine ⟨r, boxD ps, rfl, box_dq h, i2, Nat.le_trans (Nat.succ_le_succ i4) (by decide), ?_, q⟩
  have h1 := PyData.shown_le_bulk 200 (by decide) (boxD ps) i1
  have h2 : (boxD ps).bulk ≤ ps.length * 18 := i3
  have h3 := g.2.2
  have e : (sizeLine : Nat) = 16777216 := by decide
  rw [e]
  omega
/-- a def that needs that nothing is being shown -/
structure CalG (P : Program) (w : World) (K : PySem.W.Frag) (mg : Str → Option Value) (base : Heap) (k : Nat) (x : Str) (st : Stmt) (ps : List Str) (sp : Sp) (f : Addr) (fd : FuncData) : Prop where
  F : Fun K x x st f fd
  G : FnG P w K mg base CX0 k f fd ps sp
  g : mg x = some (.ref f)
  b : Binds K fd ps []
def tab3 (P1 P2 : Addr) : List (Addr × Str) := [(P1, "_law_right.<locals>.<lambda>"), (P2, "law.<locals>.<lambda>")]
theorem tabA_mem {P1 P2 : Addr} {q : Str} (h : q = "_law_right.<locals>.<lambda>") : (P1, q) ∈ tab3 P1 P2 := by
  rw [h]; exact List.mem_cons_self
theorem tabB_mem {P1 P2 : Addr} {q : Str} (h : q = "law.<locals>.<lambda>") : (P2, q) ∈ tab3 P1 P2 := by
  rw [h]; exact List.mem_cons_of_mem _ List.mem_cons_self
theorem tabA_uniq {P1 P2 : Addr} (hne : P1 ≠ P2) {q : Str} (h : q = "_law_right.<locals>.<lambda>") : ∀ p ∈ tab3 P1 P2, p.1 = P1 → p.2 = q := fun p hp e => by
  rcases List.mem_cons.mp hp with rfl | hp
  · exact h.symm
  · rw [List.mem_singleton.mp hp] at e; exact absurd e.symm hne
theorem tabB_uniq {P1 P2 : Addr} (hne : P1 ≠ P2) {q : Str} (h : q = "law.<locals>.<lambda>") : ∀ p ∈ tab3 P1 P2, p.1 = P2 → p.2 = q := fun p hp e => by
  rcases List.mem_cons.mp hp with rfl | hp
  · exact absurd e hne
  · rw [List.mem_singleton.mp hp, h]
theorem nrm_rev {bs : List (Str × Int)} (g : GoodB bs) : nrm bs.reverse = nrm bs := good_ext (good_vec _ _) (good_vec _ _) fun n => by
  rw [getV_nrm, getV_nrm]
  by_cases c : n ∈ bs.map (·.1)
  · obtain ⟨p, hp, rfl⟩ := List.mem_map.mp c
    rw [getV_mem g.2.1 (i := p.2) hp, getV_mem (rev_gb g).2.1 (i := p.2) (List.mem_reverse.mpr hp)]
  · rw [getV_none c, getV_none (by rw [List.map_reverse, List.mem_reverse]; exact c)]
theorem getV_setB {ds : List (Str × Int)} {n : Str} {i : Int} (nd : (ds.map (·.1)).Nodup) : getV (setB ds n i) n = i := by
  unfold setB
  by_cases c : n ∈ ds.map (·.1)
  · rw [if_pos c]
    have ek : (ds.map fun p => if p.1 = n then (n, i) else p).map (·.1) = ds.map (·.1) := by
      rw [List.map_map]
      refine List.map_congr_left fun p _ => ?_
      show (if p.1 = n then (n, i) else p).1 = p.1
      by_cases d : p.1 = n
      · rw [if_pos d, d]
      · rw [if_neg d]
    refine getV_mem (by rw [ek]; exact nd) ?_
    obtain ⟨p, hp, e⟩ := List.mem_map.mp c
    exact List.mem_map.mpr ⟨p, hp, if_pos e⟩
  · rw [if_neg c]
    refine getV_mem ?_ (List.mem_append_right _ List.mem_cons_self)
    rw [List.map_append, List.nodup_append]
    refine ⟨nd, List.nodup_cons.mpr ⟨List.not_mem_nil, List.nodup_nil⟩, fun a ha b hb e => ?_⟩
    rw [List.mem_singleton.mp hb] at e
    exact c ((show a = n from e) ▸ ha)
def spVeqX (K : PySem.W.Frag) (C : Addr) : Sp := fun vs H Q E => spVeq C vs H Q E ∨ spVeqF K C vs H Q E
/-- a value that is unlike the vector at r -/
def NeqAt (K : PySem.W.Frag) (C r : Addr) (H : Hp) (x : V) : Prop := (∃ tb, FoX H x tb ∧ PySem.W.notFirst K C tb = true) ∧ ∀ (Q : VK) (E : XK), Q (.bl false) H → spVeqX K C [.ref r, x] H Q E
theorem neq_ty {K : PySem.W.Frag} {C r : Addr} {H : Hp} {x : V} {t : String} (f : FoX H x (.type t)) (ty : TyX K H x (.type t)) (nf : PySem.W.notFirst K C (.type t) = true ∧ PySem.W.kitOne K (.type t) (.ref C) = some false) : NeqAt K C r H x := ⟨⟨_, f, nf.1⟩, fun Q E q => .inr ⟨r, x, _, rfl, ty, nf.2, q⟩⟩
theorem neq_vec {K : PySem.W.Frag} {C r d r2 d2 : Addr} {H : Hp} {ps qs : List (Str × Int)} (v : VecAt C H r d ps) (u : VecAt C H r2 d2 qs) (g1 : Good ps) (g2 : Good qs) (n : ps ≠ qs) : NeqAt K C r H (.ref r2) := ⟨⟨.ref C, .t (.ins u.ins), by simp [PySem.W.notFirst]⟩, fun Q E q => .inl ⟨r, d, r2, d2, ps, qs, rfl, v, u, g1, g2, by rw [decide_eq_false n]; exact q⟩⟩
def spRight3 (P1 P2 : Addr) : Sp := fun vs H Q _ => ∃ (p q D : Addr) (bs : List (Str × Int)) (n : Nat), vs = [.ref p, .ref D] ∧ n ≤ 800000 ∧ PenAt n H p q ∧ H D = some (.dK (kwK (intB bs))) ∧ GoodB bs ∧ bs.length ≤ 8 ∧ (∀ z ∈ bs, z.2.natAbs < 10 ^ 60) ∧ Tabs (tab3 P1 P2) H ∧ ∀ H', PenAt (n + 4) H' p q → Tabs (tab3 P1 P2) H' → Q (.bl true) H'
section
variable {P : Program} {w : World} {K : PySem.W.Frag} {mg : Str → Option Value} {base : Heap} {C CI CN CM P1 P2 c fI fE fS fV pN fN pO fO fX : Addr} {mc : Value} {fdN fdO : FuncData}
theorem ok__law_right {f fR fT fU fW : Addr} {fdR fdT fdU fdW : FuncData} {kV doc pm ct oc : Value} {an od : Option Addr} {osl : Array (Option Value)} (lk : K.lookup f = some ⟨oc, od, .func (PySem.W.fnOf "_law_right" "_law_right" (defArgs s__law_right) (defBody s__law_right) (defScope s__law_right) .none kV doc pm an (.ref c) ct), osl⟩) (hcd : PySem.W.codeIn K (.ref c) "_law_right" = true)
    (T : Tx K mg) (TB : TabB base mg c P1) (hne : P1 ≠ P2) (V_Vector : VcK K mg C) (CR_Vector : ClX.CRead K C mc) (CM_Vector_of : ClX.CMet K C mc "of" pO fO) (CF_Vector_of : FnR P w K mg base CX0 6 fO (spVof C)) (CG_of : FnOk P w K mg base CX0 6 fO fdO ["cls", "numbers"] (spVof C)) (kb_of : KBn K fdO ["cls", "numbers"] 1 ["numbers"] (fun us ws => us ++ ws) (fun us ws => us ++ ws)) (CF_ofX : FnR P w K mg base (L2.CX P w) 6 fO (spVofBad K CI C))
    (N_own : NeF K C) (O_eq : OpF P w K mg base 1 C "__eq__" (spVeq C) fE) (O_eqX : OpF P w K mg base 1 C "__eq__" (spVeqX K C) fE) (O_str : OpF P w K mg base 2 C "__str__" (spVstr C) fS) (P_names : PropOf K C "names" pN fN) (F_names : FnOk P w K mg base CX0 1 fN fdN ["self"] (spVnames C)) (B_names : Binds K fdN ["self"] [])
    (C__law_turned : Cal P w K mg base 1 "_law_turned" s__law_turned ["_law_box_here"] spTurned fT fdT) (C__law_spoilt : Cal P w K mg base 3 "_law_spoilt" s__law_spoilt ["_law_pen_here", "_law_box_here"] (spSpoilt K) fU fdU) (C__law_told_right : CalG P w K mg base 6 "_law_told_right" s__law_told_right ["_law_made", "_law_box_here"] (spTold3 C) fW fdW)
    (F_refused : Fun K "_law_refused" "_law_refused" s__law_refused fR fdR) (b_refused : Binds K fdR ["_law_ask"] []) (g_refused : mg "_law_refused" = some (.ref fR)) (E_NetError : GlC mg "NetError" CN) (E_MissingError : GlC mg "MissingError" CM) (E_InvalidVector : Err0 K mg "InvalidVector" CI [.type "ValueError", .type "Exception", .type "BaseException", .type "object"] "ValueError.__new__")
    (x1 : PySem.W.exmAny K (.ref CI) [.ref CN, .ref CM] = some true) (x3 : PySem.W.kitOne K (.ref CI) (.type "ValueError") = some true) (x4 : PySem.W.kitOne K (.ref CI) (.ref CI) = some true)
    (nf : ∀ t ∈ ["str", "int", "bool", "NoneType", "list", "tuple", "dict"], PySem.W.notFirst K C (.type t) = true ∧ PySem.W.kitOne K (.type t) (.ref C) = some false) :
    FnG P w K mg base CX0 12 f (PySem.W.fnOf "_law_right" "_law_right" (defArgs s__law_right) (defBody s__law_right) (defScope s__law_right) .none kV doc pm an (.ref c) ct) ["_law_pen_here", "_law_box_here"] (spRight3 P1 P2) := by
  refine fn_ofG lk hcd sc__law_right (fun vs H Q E h => ?_) (fun A outer s H vs Q E hrG h => ?_)
  · obtain ⟨p, q, D, bs, n, rfl, _⟩ := h
    rfl
  obtain ⟨p, q, D, bs, n, rfl, hn, hp, hD, g, l8, bd, tT, k⟩ := h
  have hg := hrG.g
  have hr := hrG.r
  have hu := hu_of hr
  have tmem : ∀ {z : Str}, z = "_law_right.<locals>.<lambda>" → (P1, z) ∈ tab3 P1 P2 := fun h => tabA_mem h
  have tuniq : ∀ {z : Str}, z = "_law_right.<locals>.<lambda>" → ∀ p ∈ tab3 P1 P2, p.1 = P1 → p.2 = z := fun h => tabA_uniq hne h
  refine ⟨_, (pss_cons (ps_set (i := 2) sc__law_right.nd rfl (by first | exact Or.inl rfl | exact Or.inr rfl) (pe_callB (cr_reprQ hg hr.units) (by rfl) T.b_repr (by decide +kernel) (pa_cons (pv 1) pa_nil)))
      (pss_cons (ps_asg (pe_tup (pa_cons (ClX.pe_cmeth (pe_glob (v := .ref _) (by rfl) V_Vector.g rfl) CR_Vector CM_Vector_of CF_Vector_of (hr.mono (by decide)) pass0 (pa_cons (pv 1) pa_nil)) (pa_cons (pe_callTy cr_dictD (by rfl) T.b_dict (by decide +kernel) (pa_cons (pv 1) pa_nil)) pa_nil))) (pg_tup rfl (pgs_cons (pg_name (i := 3) sc__law_right.nd rfl (by first | exact Or.inl rfl | exact Or.inr rfl)) (pgs_cons (pg_name (i := 4) sc__law_right.nd rfl (by first | exact Or.inl rfl | exact Or.inr rfl)) pgs_nil))))
      (pss_cons (ps_set (i := 5) sc__law_right.nd rfl (by first | exact Or.inl rfl | exact Or.inr rfl) (pe_cmethN (pe_glob (v := .ref _) (by rfl) V_Vector.g rfl) CR_Vector CM_Vector_of CG_of kb_of (hr.mono (by decide)) pass0 (pk_cons (pe_call C__law_turned.G (hr.mono (by decide)) (by rfl) C__law_turned.g C__law_turned.F.kp C__law_turned.b .nil pass0 (pa_cons (pv 1) pa_nil)) pk_nil)))
      (pss_cons (ps_if (PW.pt (pw_or (pt_cmpR op_ne (pe_callB (cr_reprQ hg hr.units) (by rfl) T.b_repr (by decide +kernel) (pa_cons (pv 1) pa_nil)) (pv 2) (nomark _)) (pw_or1 (pt_not (pt_val (pe_callG C__law_told_right.G (hrG.mono (by decide)) (by rfl) C__law_told_right.g C__law_told_right.F.kp C__law_told_right.b .nil pass0 (pa_cons (pv 3) (pa_cons (pv 1) pa_nil)))))))) (pss_one (ps_ret pe_bl)) pss_nil)
      (pss_cons (ps_if (PW.pt (pw_or (pt_not (pt_cmpR (or_eqO O_eq (hr.mono (by decide)) pass0) (pv 3) (pv 5) (nomark _))) (pw_or1 (pt_cmpR (or_neO N_own O_eq (hr.mono (by decide)) pass0) (pv 3) (pv 5) (nomark _))))) (pss_one (ps_ret pe_bl)) pss_nil)
      (pss_cons (ps_set (i := 6) sc__law_right.nd rfl (by first | exact Or.inl rfl | exact Or.inr rfl) (ClX.pe_cmeth (pe_glob (v := .ref _) (by rfl) V_Vector.g rfl) CR_Vector CM_Vector_of CF_Vector_of (hr.mono (by decide)) pass0 (pa_cons (pv 4) pa_nil)))
      (pss_cons (ps_dput hu (pv 4) pe_str (pe_op op_add pe_int (pe_dget2 hu (pv 4) pe_str pe_int ⟨rfl, rfl, rfl, rfl⟩)) rfl)
      (pss_cons (ps_if (PW.pt (pw_or (pt_cmpR (or_neO N_own O_eq (hr.mono (by decide)) pass0) (pv 6) (pv 3) (nomark _)) (pw_or1 (pt_cmpR (or_eqO O_eq (hr.mono (by decide)) pass0) (pv 6) (ClX.pe_cmeth (pe_glob (v := .ref _) (by rfl) V_Vector.g rfl) CR_Vector CM_Vector_of CF_Vector_of (hr.mono (by decide)) pass0 (pa_cons (pv 4) pa_nil)) (nomark _))))) (pss_one (ps_ret pe_bl)) pss_nil)
      (pss_cons (ps_set (i := 7) sc__law_right.nd rfl (by first | exact Or.inl rfl | exact Or.inr rfl) (pe_lst (pa_cons pe_non (pa_cons pe_int (pa_cons (pv 1) (pa_cons (pe_callTy (cr_strO O_str (hr.mono (by decide)) pass0) (by rfl) T.b_str (by decide +kernel) (pa_cons (pv 3) pa_nil)) (pa_cons (pe_callTy cr_listOf (by rfl) T.b_list (by decide +kernel) (pa_cons (pe_prop (pv 3) V_Vector.cl P_names F_names (hr.mono (by decide)) B_names .nil pass0 rfl) pa_nil)) (pa_cons (ClX.pe_cmeth (pe_glob (v := .ref _) (by rfl) V_Vector.g rfl) CR_Vector CM_Vector_of CF_Vector_of (hr.mono (by decide)) pass0 (pa_cons (pv 4) pa_nil)) (pa_cons (pe_lst (pa_cons (pv 3) pa_nil)) pa_nil)))))))))
      (pss_cons (ps_if (pt_cmpR (op_neD hr.units) (pe_lc (own := [("_law_other", 8)]) rfl sc__law_right.nd (pi_list (pv 7)) (blkOk_by (own := [("_law_other", 8)]) (N := ["_law_pen_here", "_law_box_here", "_law_kept", "_law_made", "_law_lent", "_law_same", "_law_late", "_law_others", "_law_other"]) (sc := defScope s__law_right) (by decide +kernel)) (fun _ _ _ _ _ => (pg_name (i := 8) sc__law_right.nd rfl (by first | exact Or.inl rfl | exact Or.inr rfl))) (fun _ _ _ _ _ => (pts_one (PW.pt (pw_or (pt_cmpR (or_eqX (K := K) rfl O_eqX (hr.mono (by decide)) pass0) (pv 3) (pv 8) (nomark _)) (pw_or1 (pt_not (pt_cmpR (or_neX (K := K) rfl N_own O_eqX (hr.mono (by decide)) pass0) (pv 3) (pv 8) (nomark _)))))))) (fun _ _ _ _ _ => (pv 8))) (pe_lst pa_nil) (nomark _)) (pss_one (ps_ret pe_bl)) pss_nil)
      (pss_one (ps_ret (pe_asks (T := tab3 P1 P2) (k := 9) F_refused b_refused g_refused sc__law_refused rfl (.inl rfl) (fun cdv => gives_refused T E_NetError E_MissingError ⟨E_InvalidVector.g⟩ E_InvalidVector.T x1 x3 x4) (by rfl) TB rfl (tmem (by kernel_rfl)) (tuniq (by kernel_rfl)) (hr.mono (by decide)) (lamS_by (by kernel_rfl)) rfl (fun _ _ _ _ _ => rfl) (fun A outer s H E f c' hr => (ClX.pe_cmeth (pe_glob (v := .ref _) (by rfl) V_Vector.g rfl) CR_Vector CM_Vector_of CF_ofX (hr.mono (by decide)) (passes_call (takes_of rfl rfl rfl rfl) fun _ _ _ _ z => z) (pa_cons (pe_call C__law_spoilt.G (hr.mono (by decide)) (by rfl) C__law_spoilt.g C__law_spoilt.F.kp C__law_spoilt.b .nil pass0 (pa_cons (pv 0) (pa_cons (pv 1) pa_nil))) pa_nil)))))))))))))))), ?_⟩
  walk_at "r"
  refine rd_reprBox hD g bd ?_
  walk_at "r"
  refine ⟨D, bs, rfl, hD, g, fun r1 d1 H1 n1 nd1 s1 v1 => ?_⟩
  walk_at "r"
  refine rd_dictD (.of (s1 _ _ hD)) fun L H2 n2 s2 h2 => ?_
  walk_at "r"
  refine new_tup (by show 2 ≤ sizeLine; decide) fun t3 H3 n3 s3 h3 => ?_
  walk_at "r"
  refine rd_gtup h3 rfl ?_
  walk_at "r"
  have s13 := s1.trans (s2.trans s3)
  refine ⟨rfl, ?_⟩
  walk_at "r"
  refine ⟨D, bs, rfl, s13 _ _ hD, g, fun r4 H4 n4 s4 h4 => ?_⟩
  walk_at "r"
  refine ⟨rfl, r4, bs.reverse, rfl, h4, rev_gb g, fun r5 d5 H5 n5 nd5 s5 v5 => ?_⟩
  rw [nrm_rev g] at v5
  walk_at "r"
  have s05 := s13.trans (s4.trans s5)
  have v15 := v1.keep ((s2.trans s3).trans (s4.trans s5))
  refine rd_reprBox (s05 _ _ hD) g bd ?_
  walk_at "r"
  refine rd_decN (fun c => absurd rfl c) (fun _ => ?_)
  walk_at "r"
  refine ⟨r1, d1, D, bs, rfl, v15, s05 _ _ hD, g, bd, fun H6 s6 => ?_⟩
  walk_at "r"
  have gn : Good (nrm bs) := good_vec _ _
  have v16 := v15.keep s6
  have v56 := v5.keep s6
  refine rd_binO v16.ins v56.ins ⟨_, _, _, _, _, _, rfl, v16, v56, gn, gn, ?_⟩
  rw [decide_eq_true rfl]
  walk_at "r"
  refine rd_neO v16.ins v56.ins ⟨_, _, _, _, _, _, rfl, v16, v56, gn, gn, _, rfl, ?_⟩
  rw [decide_eq_true rfl]
  walk_at "r"
  have h26 := ((s3.trans s4).trans (s5.trans s6)) _ _ h2
  refine ⟨L, bs, rfl, h26, g, fun r7 d7 H7 n7 nd7 s7 v7 => ?_⟩
  walk_at "r"
  have h27 := s7 _ _ h26
  refine dget2_at (.of h27) ?_
  walk_at "r"
  refine dgetd_int (.of h27) ?_
  walk_at "r"
  refine dput_s h27 (by unfold kwK intB; rw [List.length_map, List.length_map]; omega) fun H8 b8 h8 => ?_
  rw [put_setB g.2.1] at h8
  walk_at "r"
  obtain ⟨gm, lm, mm⟩ := setB_facts (n := Str.ofString "a") (i := 7 + getV bs (Str.ofString "a")) g (by omega) (by decide +kernel)
  have L1 : H1 L = none := n2
  have r1L : r1 ≠ L := by obtain ⟨dx, e⟩ := v1.at_; exact ne_of_none e n2
  have d1L : d1 ≠ L := ne_of_none v1.held n2
  have r7L : r7 ≠ L := (ne_of_none h26 n7).symm
  have d7L : d7 ≠ L := (ne_of_none h26 nd7).symm
  have DL : D ≠ L := ne_of_none (s1 _ _ hD) n2
  have Lp := hp.off (s1.free n2)
  have s07 : Same H H7 := (s05.trans s6).trans s7
  have v18 := (v16.keep s7).but b8 r1L d1L
  have v78 := v7.but b8 r7L d7L
  have p8 : PenAt n H8 p q := (hp.keep s07).but b8 Lp.1.symm Lp.2.symm
  have D8 := b8 _ _ DL (s07 _ _ hD)
  have t8 : Tabs (tab3 P1 P2) H8 := (tT.ext s07).but b8 _ h27 (fun ps z => by cases z) fun c q z => by
    unfold LamX.CodeO at z
    cases z
  have gM : Good (nrm (setB bs (Str.ofString "a") (7 + getV bs (Str.ofString "a")))) := good_vec _ _
  have nem : nrm bs ≠ nrm (setB bs (Str.ofString "a") (7 + getV bs (Str.ofString "a"))) := fun z => by
    have e := congrArg (fun ps => getV ps (Str.ofString "a")) z
    have e : getV (nrm bs) (Str.ofString "a") = getV (nrm (setB bs (Str.ofString "a") (7 + getV bs (Str.ofString "a")))) (Str.ofString "a") := e
    rw [getV_nrm, getV_nrm, getV_setB g.2.1] at e
    omega
  refine rd_neO v78.ins v18.ins ⟨_, _, _, _, _, _, rfl, v78, v18, gn, gn, _, rfl, ?_⟩
  rw [decide_eq_true rfl]
  walk_at "r"
  refine ⟨L, _, rfl, h8, gm, fun r9 d9 H9 n9 nd9 s9 v9 => ?_⟩
  walk_at "r"
  refine rd_binO (v78.keep s9).ins v9.ins ⟨_, _, _, _, _, _, rfl, v78.keep s9, v9, gn, gM, ?_⟩
  rw [decide_eq_false nem]
  walk_at "r"
  have v19 := v18.keep s9
  have gbn : GoodB (nrm bs) := nrm_goodB g
  refine rd_strO v19.ins ⟨r1, d1, nrm bs, rfl, v19, gn, gbn, nrm_bd g bd, fun H10 s10 => ⟨_, rfl, ?_⟩⟩
  walk_at "r"
  have v110 := v19.keep s10
  obtain ⟨dxa, eva⟩ := v110.at_
  refine prop_at eva ⟨r1, d1, nrm bs, rfl, v110.rd, fun U H11 n11 s11 h11 => ?_⟩
  walk_at "r"
  refine rd_listOfT (sqT_of h11) fun W H12 n12 s12 h12 => ?_
  walk_at "r"
  have s812 := s9.trans (s10.trans (s11.trans s12))
  have h812 := s812 _ _ h8
  refine ⟨L, _, rfl, h812, gm, fun r13 d13 H13 n13 nd13 s13 v13 => ?_⟩
  walk_at "r"
  refine new_lst (by show 1 ≤ sizeLine; decide) fun W2 H14 n14 s14 h14 => ?_
  walk_at "r"
  refine new_lst (by show 7 ≤ sizeLine; decide) fun M H15 n15 s15 h15 => ?_
  walk_at "r"
  refine ⟨⟨_, sqL_of h15⟩, ?_⟩
  have s815 : Same H8 H15 := s812.trans (s13.trans (s14.trans s15))
  have v115 := v18.keep s815
  refine lcF_any (itw_list (xs := _)) (fun _ => none) (fun H' s => sqL_of (s _ _ h15)) (fun D3 i x y H16 H17 nD3 hi I yy => ?_) fun W3 H16 n16 s16 h16 => ?_
  · obtain ⟨rfl, rfl⟩ := yy
    have sx := I.same
    have v17 := v115.keep sx
    have nq : NeqAt K C r1 H17 y := by
      have hm := List.mem_of_getElem? hi
      simp only [List.mem_cons, List.not_mem_nil, or_false] at hm
      rcases hm with rfl | rfl | rfl | rfl | rfl | rfl | rfl
      · exact neq_ty (.t .non) (.base .non) (nf _ (by decide))
      · exact neq_ty (.t (.int _)) (.base (.int _)) (nf _ (by decide))
      · exact neq_ty (.dK (sx _ _ (s815 _ _ D8))) (.base (.dK (sx _ _ (s815 _ _ D8)))) (nf _ (by decide))
      · exact neq_ty (.t (.str _)) (.base (.str _)) (nf _ (by decide))
      · exact neq_ty (.lst (sx _ _ ((s13.trans (s14.trans s15)) _ _ h12))) (.base (.lst (sx _ _ ((s13.trans (s14.trans s15)) _ _ h12)))) (nf _ (by decide))
      · exact neq_vec v17 ((v13.keep (s14.trans s15)).keep sx) gn gM nem
      · exact neq_ty (.lst (sx _ _ (s15 _ _ h14))) (.base (.lst (sx _ _ (s15 _ _ h14)))) (nf _ (by decide))
    walk_at "r"
    refine ⟨rfl, ?_⟩
    walk_at "r"
    refine ⟨nq.1, rd_getO v17.ins (nq.2 _ _ ?_)⟩
    walk_at "r"
    refine ⟨nq.1, let ⟨dx, e⟩ := v17.at_; ⟨r1, dx, _, rfl, e⟩, nq.2 _ _ ⟨_, rfl, ?_⟩⟩
    walk_at "r"
    exact I.none hi rfl (Same.refl _)
  have e16 : H16 W3 = some (.lst []) := by
    rw [h16]
    exact congrArg (fun l => some (HO.lst l)) (List.filterMap_eq_nil_iff.mpr fun _ _ => rfl)
  walk_at "r"
  refine new_lst (Nat.zero_le _) fun W4 H17 n17 s17 h17 => ?_
  walk_at "r"
  refine ⟨.list [], .list [], .lst (sqL_of (s17 _ _ e16)) .nil, .lst (sqL_of h17) .nil, rfl, rfl, ?_⟩
  walk_at "r"
  have s817 := s815.trans (s16.trans s17)
  have p17 := p8.keep s817
  have t17 := t8.ext s817
  refine ⟨t17, fun H18 x18 t18 => ?_⟩
  unfold TT3
  intro Q2
  walk_at "r"
  refine ⟨p, q, D, bs, n, rfl, by omega, p17.ext x18, x18 _ _ (s817 _ _ D8) (fun _ z => by cases z), g, fun x H19 bad b19 p19 => ?_⟩
  walk_at "r"
  refine ⟨x, rfl, bad, fun H20 s20 => ⟨rfl, rfl, fun H21 s21 => ?_⟩⟩
  exact k H21 ((p19.keep s20).keep s21) (((tabs_pen t18 (p17.ext x18) b19).ext s20).ext s21)
end


end My

namespace My
open PySem PySem.Spec PyProof.Rows L2 EE

local macro_rules | `(tactic| walk_at "sq") => `(tactic| first | assumption | exact sqL_of (by assumption) | exact sqT_of (by assumption))
local macro_rules | `(tactic| walk_at "same") => `(tactic| first
  | assumption
  | exact Same.refl _
  | (refine Same.trans ?_ (by assumption); walk_at "same")
  | (refine same_past ?_ (by assumption) ?_; (walk_at "same"); (walk_at "no")))
local macro_rules | `(tactic| walk_at "no") => `(tactic| first
  | assumption
  | (refine none_same ?_ (by assumption); walk_at "same")
  | (refine none_same (by assumption) ?_; walk_at "no")
  | (refine none_but (by assumption) ?_ ?_; (walk_at "n"); (walk_at "no")))
local macro_rules | `(tactic| walk_at "but") => `(tactic| first
  | assumption
  | exact But.refl _ _
  | (refine But.then ?_ (by assumption); walk_at "but")
  | (refine But.trans ?_ (by assumption); walk_at "but")
  | (refine but_past ?_ (by assumption) ?_; (walk_at "but"); (walk_at "no")))
local macro_rules | `(tactic| walk_at "hasp") => `(tactic| (repeat (first | exact ⟨_, _, by assumption⟩ | (refine hasPen_same (by assumption) ?_))))
local macro_rules | `(tactic| walk_at "hasc") => `(tactic| (repeat (first | exact ⟨_, _, by assumption⟩ | (refine hasCells_same (by assumption) ?_))))
local macro_rules | `(tactic| walk_at "pen") => `(tactic| (repeat (first | assumption | (refine PenAt.keep ?_ (by assumption)))))
local macro_rules | `(tactic| walk_at "has") => `(tactic| first
  | exact ⟨_, by assumption⟩
  | (refine has_same (by assumption) ?_; walk_at "has")
  | (refine has_but (by assumption) ?_ ?_; (walk_at "n"); (walk_at "has")))
local macro_rules | `(tactic| walk_at "n") => `(tactic| first
  | assumption
  | exact Ne.symm (by assumption)
  | (refine ne_free (by assumption) ?_; walk_at "has")
  | (refine ne_free' (by assumption) ?_; walk_at "has")
  | (refine pen_off (by assumption) ?_; walk_at "hasp"; done)
  | (refine Ne.symm (pen_off (by assumption) ?_); walk_at "hasp"; done)
  | (refine pen_off' (by assumption) ?_; walk_at "hasc"; done)
  | (refine Ne.symm (pen_off' (by assumption) ?_); walk_at "hasc"; done))
local macro_rules | `(tactic| walk_at "hh") => `(tactic| first
  | assumption
  | (refine get_same (by assumption) ?_; walk_at "hh")
  | (refine get_but (by assumption) (by walk_at "n") ?_; walk_at "hh"))
local macro_rules | `(tactic| walk_at "h") => `(tactic| first
  | ((repeat (first | assumption | (refine get_same (by assumption) ?_) | (refine get_but (by assumption) (by walk_at "n") ?_))); done)
  | walk_at "hh")
local macro_rules | `(tactic| walk_at "r") => `(tactic| repeat (first
  | (refine go ?_)
  | (with_reducible refine rd_mul ?_ ?_)
  | (with_reducible refine rd_mod ?_ ?_)
  | (with_reducible refine rd_fdiv ?_ ?_)
  | (with_reducible refine rd_pow ?_ ?_)
  | (with_reducible refine rd_strI ?_ ?_)
  | (with_reducible refine rd_addS ?_ ?_)
  | (with_reducible refine rd_lenS ?_ ?_)
  | (with_reducible refine rd_slS ?_ ?_)))
local macro_rules | `(tactic| walk_at "R") => `(tactic| repeat (first
  | (refine go ?_)
  | (with_reducible refine new_lstS fun _ _ _ _ _ => ?_)
  | (with_reducible refine new_lst (Nat.le_of_ble_eq_true rfl) fun _ _ _ _ _ => ?_)
  | (with_reducible refine rd_dnewK fun _ _ _ _ _ => ?_)
  | (with_reducible refine new_tup (Nat.le_of_ble_eq_true rfl) fun _ _ _ _ _ => ?_)
  | ((with_reducible refine len_go ?_); first | (refine Or.inl ⟨_, sqL_of (by walk_at "h"), ?_⟩) | (refine Or.inr ⟨_, sqT_of (by walk_at "h"), ?_⟩))
  | ((with_reducible refine slT_go ?_); refine ⟨_, sqL_of (by walk_at "h"), fun _ _ _ _ _ => ?_⟩)
  | ((with_reducible refine slD_go ?_); refine ⟨_, sqL_of (by walk_at "h"), fun _ _ _ _ _ => ?_⟩)
  | ((with_reducible refine slD1_go ?_); refine ⟨_, sqL_of (by walk_at "h"), fun _ _ _ _ _ => ?_⟩)
  | ((with_reducible refine sl_go ?_); refine ⟨_, sqL_of (by walk_at "h"), fun _ _ _ _ _ => ?_⟩)
  | ((with_reducible refine cat_go ?_); refine catS_go (by walk_at "h") (by walk_at "h") ?_ fun _ _ _ _ _ => ?_; rotate_left)
  | ((with_reducible refine cat_go ?_); refine catV_go (by walk_at "h") (by walk_at "h") (Nat.le_of_ble_eq_true rfl) fun _ _ _ _ _ => ?_)
  | ((with_reducible refine cat_go ?_); refine catV_go (by walk_at "h") (by walk_at "h") ?_ fun _ _ _ _ _ => ?_; rotate_left)
  | ((with_reducible refine ixL_go ?_); refine ⟨_, sqL_of (by walk_at "h"), ?_⟩; refine ⟨_, atI_lit, ?_⟩)
  | (with_reducible refine rd_mul ?_ ?_; rotate_left)
  | (with_reducible refine rd_mod ?_ ?_; rotate_left)
  | (with_reducible refine rd_fdiv ?_ ?_; rotate_left)
  | (with_reducible refine rd_pow ?_ ?_; rotate_left)
  | (with_reducible refine rd_strI ?_ ?_; rotate_left)
  | (with_reducible refine rd_addS ?_ ?_; rotate_left)
  | (with_reducible refine rd_lenS ?_ ?_; rotate_left)
  | (with_reducible refine rd_slS ?_ ?_; rotate_left)))

open LamX
def spLaw (K : PySem.W.Frag) (P1 P2 : Addr) : Sp := fun vs H Q _ => ∃ (a : Addr) (ns : List Int), vs = [.ref a] ∧ SqL K H a (ns.map V.int) ∧ ns.length ≤ 63 ∧ Tabs (tab3 P1 P2) H ∧ ∀ H', Q (.bl true) H'
theorem names_ab {u v : V} : NamesOk ([Str.ofString "a", Str.ofString "b"].zip [u, v]) := ⟨fun q hq => by
    rcases List.mem_cons.mp hq with rfl | hq
    · exact show Str.ofString "a" ≠ Str.ofString "self" by decide +kernel
    · rw [List.mem_singleton.mp hq]; exact show Str.ofString "b" ≠ Str.ofString "self" by decide +kernel, by show [Str.ofString "a", Str.ofString "b"].Nodup; decide +kernel, by show 2 ≤ _; decide⟩
theorem kws_bad {C CI : Addr} {E : XK} {H : Hp} {Q : VK} {i : Int} {v : V} (tv : Th H v) (bad : intT v = false) (k : RzN CI E H) : KwsAt C (spInitVBad CI C) E [Str.ofString "a", Str.ofString "b"] Q [.int i, v] H := by
  refine ⟨rfl, names_ab, newBadV (fun p hp => ?_) (fun p hp => ?_) (by show 2 ≤ 1000; decide) ?_ k⟩
  · rcases List.mem_cons.mp hp with rfl | hp
    · exact .int _
    · rw [List.mem_singleton.mp hp]; exact tv
  · rcases List.mem_cons.mp hp with rfl | hp
    · exact show (Str.ofString "a").length ≤ 1000 ∧ Asc (Str.ofString "a") by decide +kernel
    · rw [List.mem_singleton.mp hp]; exact show (Str.ofString "b").length ≤ 1000 ∧ Asc (Str.ofString "b") by decide +kernel
  · show (_ && ((_ && intT v) && true)) = false
    rw [bad, Bool.and_false, Bool.false_and, Bool.and_false]
section
variable {P : Program} {w : World} {K : PySem.W.Frag} {mg : Str → Option Value} {base : Heap} {C CI CN CM P1 P2 c fI fE fG pO fO pZ fZ : Addr} {mc : Value}
theorem ok_law {f f1 f2 f3 f4 f5 f6 fR : Addr} {fd1 fd2 fd3 fd4 fd5 fd6 fdR : FuncData} {kV doc pm ct oc : Value} {an od : Option Addr} {osl : Array (Option Value)} (lk : K.lookup f = some ⟨oc, od, .func (PySem.W.fnOf "law" "law" (defArgs s_law) (defBody s_law) (defScope s_law) .none kV doc pm an (.ref c) ct), osl⟩) (hcd : PySem.W.codeIn K (.ref c) "law" = true)
    (T : Tx K mg) (TB : TabB base mg c P2) (hne : P1 ≠ P2) (V_Vector : VcK K mg C) (CR_Vector : ClX.CRead K C mc) (CM_Vector_of : ClX.CMet K C mc "of" pO fO) (CF_Vector_of : FnR P w K mg base CX0 6 fO (spVof C)) (CF_ofX : FnR P w K mg base (L2.CX P w) 6 fO (spVofBad K CI C))
    (SM_zero : SMet K C mc "zero" pZ fZ) (CF_zero : FnR P w K mg base CX0 6 fZ (spVzero C)) (MK_Vector : Mk K C fI) (I_Vector : FnKw P w K mg base CX0 4 fI (spInitV C)) (I_VectorX : FnKw P w K mg base (L2.CX P w) 4 fI (spInitVBad CI C)) (O_eq : OpF P w K mg base 1 C "__eq__" (spVeq C) fE) (O_get : OpF P w K mg base 2 C "__getitem__" (spVgetA C) fG)
    (C__law_pen : Cal P w K mg base 1 "_law_pen" s__law_pen ["_law_script"] (spPen K) f1 fd1) (C__law_whole : Cal P w K mg base 3 "_law_whole" s__law_whole ["_law_pen_here"] spWhole f2 fd2) (C__law_pick : Cal P w K mg base 2 "_law_pick" s__law_pick ["_law_pen_here", "_law_some"] spPickL f3 fd3)
    (C__law_box : Cal P w K mg base 4 "_law_box" s__law_box ["_law_pen_here"] spBox3 f4 fd4) (C__law_right : CalG P w K mg base 12 "_law_right" s__law_right ["_law_pen_here", "_law_box_here"] (spRight3 P1 P2) f5 fd5) (C__law_told_right : CalG P w K mg base 6 "_law_told_right" s__law_told_right ["_law_made", "_law_box_here"] (spTold3 C) f6 fd6)
    (F_refused : Fun K "_law_refused" "_law_refused" s__law_refused fR fdR) (b_refused : Binds K fdR ["_law_ask"] []) (g_refused : mg "_law_refused" = some (.ref fR)) (E_NetError : GlC mg "NetError" CN) (E_MissingError : GlC mg "MissingError" CM) (E_InvalidVector : Err0 K mg "InvalidVector" CI [.type "ValueError", .type "Exception", .type "BaseException", .type "object"] "ValueError.__new__")
    (x1 : PySem.W.exmAny K (.ref CI) [.ref CN, .ref CM] = some true) (x3 : PySem.W.kitOne K (.ref CI) (.type "ValueError") = some true) (x4 : PySem.W.kitOne K (.ref CI) (.ref CI) = some true) (xD : PySem.W.kitOne K (.ref C) (.type "dict") = some false) :
    FnG P w K mg base CX0 13 f (PySem.W.fnOf "law" "law" (defArgs s_law) (defBody s_law) (defScope s_law) .none kV doc pm an (.ref c) ct) ["_law_script"] (spLaw K P1 P2) := by
  refine fn_ofG lk hcd sc_law (fun vs H Q E h => ?_) (fun A outer s H vs Q E hrG h => ?_)
  · obtain ⟨a, ns, rfl, _⟩ := h
    rfl
  obtain ⟨a, ns, rfl, hs, hl, tT, k⟩ := h
  have hg := hrG.g
  have hr := hrG.r
  have hu := hu_of hr
  have tmem : ∀ {z : Str}, z = "law.<locals>.<lambda>" → (P2, z) ∈ tab3 P1 P2 := fun h => tabB_mem h
  have tuniq : ∀ {z : Str}, z = "law.<locals>.<lambda>" → ∀ p ∈ tab3 P1 P2, p.1 = P2 → p.2 = z := fun h => tabB_uniq hne h
  refine ⟨_, (pss_cons (ps_set (i := 1) sc_law.nd rfl (by first | exact Or.inl rfl | exact Or.inr rfl) (pe_call C__law_pen.G (hr.mono (by decide)) (by rfl) C__law_pen.g C__law_pen.F.kp C__law_pen.b .nil pass0 (pa_cons (pv 0) pa_nil)))
      (pss_cons (ps_for (by first | exact PassesOwn.never | exact passes_of rfl) rfl (pi_range1 (by rfl) T.b_range (pa_cons pe_int pa_nil)) (pg_name (i := 2) sc_law.nd rfl (by first | exact Or.inl rfl | exact Or.inr rfl))
      (pss_cons (ps_if (pt_not (pt_val (pe_callG C__law_right.G (hrG.mono (by decide)) (by rfl) C__law_right.g C__law_right.F.kp C__law_right.b .nil pass0 (pa_cons (pv 1) (pa_cons (pe_call C__law_box.G (hr.mono (by decide)) (by rfl) C__law_box.g C__law_box.F.kp C__law_box.b .nil pass0 (pa_cons (pv 1) pa_nil)) pa_nil))))) (pss_one (ps_ret pe_bl)) pss_nil)
      (pss_cons (ps_asg (pe_tup (pa_cons (pe_call C__law_whole.G (hr.mono (by decide)) (by rfl) C__law_whole.g C__law_whole.F.kp C__law_whole.b .nil pass0 (pa_cons (pv 1) pa_nil)) (pa_cons (pe_call C__law_whole.G (hr.mono (by decide)) (by rfl) C__law_whole.g C__law_whole.F.kp C__law_whole.b .nil pass0 (pa_cons (pv 1) pa_nil)) (pa_cons (pe_call C__law_pick.G (hr.mono (by decide)) (by rfl) C__law_pick.g C__law_pick.F.kp C__law_pick.b .nil pass0 (pa_cons (pv 1) (pa_cons (pe_lst (pa_cons pe_non (pa_cons pe_bl (pa_cons pe_str (pa_cons (pe_tup (pa_cons pe_int pa_nil)) (pa_cons (pe_lst pa_nil) (pa_cons pe_dnewK pa_nil))))))) pa_nil))) pa_nil)))) (pg_tup rfl (pgs_cons (pg_name (i := 3) sc_law.nd rfl (by first | exact Or.inl rfl | exact Or.inr rfl)) (pgs_cons (pg_name (i := 4) sc_law.nd rfl (by first | exact Or.inl rfl | exact Or.inr rfl)) (pgs_cons (pg_name (i := 5) sc_law.nd rfl (by first | exact Or.inl rfl | exact Or.inr rfl)) pgs_nil)))))
      (pss_cons (ps_if (pt_not (pt_val (pe_callG C__law_told_right.G (hrG.mono (by decide)) (by rfl) C__law_told_right.g C__law_told_right.F.kp C__law_told_right.b .nil pass0 (pa_cons (pe_mkKws (ks := ["b", "a"]) MK_Vector I_Vector (hr.mono (by decide)) (by rfl) V_Vector.g pass0 (pk_cons (pv 4) (pk_cons (pv 3) pk_nil))) (pa_cons (pe_disp (pps_cons pe_str (pv 3) (pps_cons pe_str (pv 4) pps_nil)) (by rfl) (by rfl) (fun z => by cases z) (by decide)) pa_nil))))) (pss_one (ps_ret pe_bl)) pss_nil)
      (pss_one (ps_if (pt_not (pt_val (pe_asks (T := tab3 P1 P2) (k := 9) F_refused b_refused g_refused sc__law_refused rfl (.inl rfl) (fun cdv => gives_refused T E_NetError E_MissingError ⟨E_InvalidVector.g⟩ E_InvalidVector.T x1 x3 x4) (by rfl) TB rfl (tmem (by kernel_rfl)) (tuniq (by kernel_rfl)) (hr.mono (by decide)) (lamS_by (by kernel_rfl)) rfl (fun _ _ _ _ _ => rfl) (fun A outer s H E f c' hr => (pe_mkKws (ks := ["a", "b"]) MK_Vector I_VectorX (hr.mono (by decide)) (by rfl) V_Vector.g (passes_call (takes_of rfl rfl rfl rfl) fun _ _ _ _ z => z) (pk_cons (pv 3) (pk_cons (pv 5) pk_nil))))))) (pss_one (ps_ret pe_bl)) pss_nil))))))
      (pss_cons (ps_for (by first | exact PassesOwn.never | exact passes_of rfl) rfl (pi_list (pe_lst (pa_cons pe_non (pa_cons pe_int (pa_cons pe_bl (pa_cons pe_str (pa_cons pe_str (pa_cons (pe_lst pa_nil) (pa_cons (pe_lst (pa_cons (pe_tup (pa_cons pe_str (pa_cons pe_int pa_nil))) pa_nil)) (pa_cons (pe_tup pa_nil) (pa_cons (pe_tup (pa_cons pe_str (pa_cons pe_int pa_nil))) (pa_cons (pe_mkKws MK_Vector I_Vector (hr.mono (by decide)) (by rfl) V_Vector.g pass0 (pk_cons pe_int pk_nil)) pa_nil)))))))))))) (pg_name (i := 5) sc_law.nd rfl (by first | exact Or.inl rfl | exact Or.inr rfl))
      (pss_one (ps_if (pt_not (pt_val (pe_asks (T := tab3 P1 P2) (k := 9) F_refused b_refused g_refused sc__law_refused rfl (.inl rfl) (fun cdv => gives_refused T E_NetError E_MissingError ⟨E_InvalidVector.g⟩ E_InvalidVector.T x1 x3 x4) (by rfl) TB rfl (tmem (by kernel_rfl)) (tuniq (by kernel_rfl)) (hr.mono (by decide)) (lamS_by (by kernel_rfl)) rfl (fun _ _ _ _ _ => rfl) (fun A outer s H E f c' hr => (ClX.pe_cmeth (pe_glob (v := .ref _) (by rfl) V_Vector.g rfl) CR_Vector CM_Vector_of CF_ofX (hr.mono (by decide)) (passes_call (takes_of rfl rfl rfl rfl) fun _ _ _ _ z => z) (pa_cons (pv 5) pa_nil)))))) (pss_one (ps_ret pe_bl)) pss_nil)))
      (pss_cons (ps_if (pt_cmpR op_ne (pe_getO O_get (hr.mono (by decide)) pass0 (pe_mkKws MK_Vector I_Vector (hr.mono (by decide)) (by rfl) V_Vector.g pass0 (pk_cons pe_int pk_nil)) pe_str) pe_int (nomark _)) (pss_one (ps_ret pe_bl)) pss_nil)
      (pss_one (ps_ret (pe_and (pe_cmpR (or_eqO O_eq (hr.mono (by decide)) pass0) (pe_smeth0 (pe_glob (v := .ref _) (by rfl) V_Vector.g rfl) CR_Vector SM_zero CF_zero (hr.mono (by decide)) pass0) (pe_mkKws MK_Vector I_Vector (hr.mono (by decide)) (by rfl) V_Vector.g pass0 pk_nil) (nomark _)) (pe_and (pe_callG C__law_told_right.G (hrG.mono (by decide)) (by rfl) C__law_told_right.g C__law_told_right.F.kp C__law_told_right.b .nil pass0 (pa_cons (pe_smeth0 (pe_glob (v := .ref _) (by rfl) V_Vector.g rfl) CR_Vector SM_zero CF_zero (hr.mono (by decide)) pass0) (pa_cons pe_dnewK pa_nil))) (pe_one (pe_cmpR (or_eqO O_eq (hr.mono (by decide)) pass0) (ClX.pe_cmeth (pe_glob (v := .ref _) (by rfl) V_Vector.g rfl) CR_Vector CM_Vector_of CF_Vector_of (hr.mono (by decide)) pass0 (pa_cons (pe_disp (pps_cons pe_str pe_int pps_nil) (by rfl) (by rfl) (fun z => by cases z) (by decide)) pa_nil)) (pe_mkKws MK_Vector I_Vector (hr.mono (by decide)) (by rfl) V_Vector.g pass0 pk_nil) (nomark _))))))))))), ?_⟩
  walk_at "r"
  refine ⟨a, ns, rfl, hs, hl, fun p q H1 n1 s1 hp1 => ?_⟩
  walk_at "r"
  refine ⟨by decide, by decide, ?_⟩
  refine for_any itw_range (fun i σ' H' => ∃ v2 v3 v4 v5, σ' = [some (.ref a), some (.ref p), v2, v3, v4, v5] ∧ PenAt (200 * i) H' p q ∧ Tabs (tab3 P1 P2) H') (fun _ _ _ _ => trivial) ⟨none, none, none, none, rfl, hp1, tT.ext s1⟩ (fun i b x σ1 H2 H3 hi I y => ?_) fun σ1 H2 I => ?_
  · obtain ⟨v2, v3, v4, v5, rfl, p2, t2⟩ := I
    obtain ⟨rfl, rfl⟩ := y
    have hi8 : i < 10 := by have := (List.getElem?_eq_some_iff.mp hi).1; rw [List.length_range] at this; exact this
    walk_at "r"
    refine ⟨p, q, _, rfl, by omega, p2, fun D bs H4 nD b4 h4 g l8 bd p4 => ?_⟩
    have t4 := tabs_pen t2 p2 b4
    walk_at "r"
    refine ⟨p, q, D, bs, _, rfl, by omega, p4, h4, g, l8, bd, t4, fun H5 p5 t5 => ?_⟩
    walk_at "r"
    refine ⟨p, q, _, rfl, by omega, p5, fun one H6 ho b6 p6 => ?_⟩
    walk_at "r"
    refine ⟨p, q, _, rfl, by omega, p6, fun two H7 hw b7 p7 => ?_⟩
    walk_at "r"
    have t7 := tabs_pen (tabs_pen t5 p5 b6) p6 b7
    have qa1 := p7
    refine new_tup (by show 1 ≤ sizeLine; decide) fun oa1 Ha1 na1 sa1 ha1 => ?_
    walk_at "r"
    have ea1 : oa1 ≠ p := (qa1.off na1).1
    have Pa2 := p7.keep sa1
    have qa3 := Pa2
    refine new_lst (by show 0 ≤ sizeLine; decide) fun oa3 Ha3 na3 sa3 ha3 => ?_
    walk_at "r"
    have ea3 : oa3 ≠ p := (qa3.off na3).1
    have Pa4 := Pa2.keep sa3
    have qa5 := Pa4
    refine rd_dnewK fun oa5 Ha5 na5 sa5 ha5 => ?_
    walk_at "r"
    have ea5 : oa5 ≠ p := (qa5.off na5).1
    have Pa6 := Pa4.keep sa5
    have qaL := Pa6
    refine new_lst (by show 6 ≤ sizeLine; decide) fun oaL HaL naL saL haL => ?_
    walk_at "r"
    have eaL : oaL ≠ p := (qaL.off naL).1
    have ka1 := (((sa3).trans (sa5)).trans (saL)) _ _ (ha1)
    have ka3 := ((sa5).trans (saL)) _ _ (ha3)
    have ka5 := (saL) _ _ (ha5)
    have Sa := ((((sa1).trans (sa3)).trans (sa5)).trans (saL))
    have Pa := p7.keep Sa
    refine ⟨p, q, oaL, _, _, rfl, haL, eaL, Nat.succ_pos _, by show 6 ≤ 1000; decide, by omega, Pa, fun odd HM hoM bM hpM => ?_⟩
    have odd_ok : Th HM odd ∧ intT odd = false ∧ odd ≠ .ref p := by
      have mva : ∀ {o : Addr} {ho : HO}, o ≠ p → HaL o = some ho → HM o = some ho := fun n e => bM _ _ n e
      simp only [List.mem_append, List.mem_cons, List.not_mem_nil, or_false] at hoM
      rcases hoM with (rfl | rfl | rfl | rfl | rfl | rfl)
      · exact ⟨(scV_th (by decide +kernel)).1, by decide +kernel, fun e => (by cases e)⟩
      · exact ⟨(scV_th (by decide +kernel)).1, by decide +kernel, fun e => (by cases e)⟩
      · exact ⟨(scV_th (by decide +kernel)).1, by decide +kernel, fun e => (by cases e)⟩
      · exact ⟨.tup (mva ea1 ka1), rfl, fun e => ea1 (V.ref.inj e)⟩
      · exact ⟨.lst (mva ea3 ka3), rfl, fun e => ea3 (V.ref.inj e)⟩
      · exact ⟨.dK (mva ea5 ka5), rfl, fun e => ea5 (V.ref.inj e)⟩
    clear hoM
    have tM := tabs_pen (t7.ext Sa) Pa bM
    walk_at "r"
    refine new_tup (by show 3 ≤ sizeLine; decide) fun tp H8 n8 s8 h8 => ?_
    walk_at "r"
    refine rd_gtup h8 rfl ?_
    walk_at "r"
    refine kws_at (ks := [Str.ofString "b", Str.ofString "a"]) (is := [two, one]) rfl ⟨fun z hz => ?_, by show [Str.ofString "b", Str.ofString "a"].Nodup; decide +kernel, by show 2 ≤ 60; decide⟩ fun r d H9 nr nd9 s9 v9 => ?_
    · rcases List.mem_cons.mp hz with rfl | hz
      · exact show nameS (Str.ofString "b") = true by decide +kernel
      · rw [List.mem_singleton.mp hz]; exact show nameS (Str.ofString "a") = true by decide +kernel
    walk_at "r"
    refine rd_disp fun o H10 n10 s10 h10 => ?_
    walk_at "r"
    refine disp_done [(.inr (Str.ofString "a"), .int one), (.inr (Str.ofString "b"), .int two)] h10 rfl (by show 2 ≤ 15; decide) fun H11 b11 h11 => ?_
    have gab : GoodB [(Str.ofString "a", one), (Str.ofString "b", two)] := ⟨fun z hz => by
      rcases List.mem_cons.mp hz with rfl | hz
      · exact show nameS (Str.ofString "a") = true by decide +kernel
      · rw [List.mem_singleton.mp hz]; exact show nameS (Str.ofString "b") = true by decide +kernel, by show [Str.ofString "a", Str.ofString "b"].Nodup; decide +kernel, by show 2 ≤ 60; decide⟩
    have h11 : H11 o = some (.dK (kwK (intB [(Str.ofString "a", one), (Str.ofString "b", two)]))) := by
      rw [h11, show [(Sum.inr (Str.ofString "a"), V.int one), (Sum.inr (Str.ofString "b"), V.int two)] = kwK (intB [(Str.ofString "a", one), (Str.ofString "b", two)]) from rfl, merge_nil gab.2.1]
    have s911 : Same H9 H11 := Same.disp n10 s10 b11
    have v11 := v9.keep s911
    have en : nrm ([Str.ofString "b", Str.ofString "a"].zip [two, one]) = nrm [(Str.ofString "a", one), (Str.ofString "b", two)] := nrm_rev gab
    rw [en] at v11
    walk_at "r"
    refine ⟨r, d, o, _, rfl, v11, h11, gab, fun z hz => ?_, fun H12 s12 => ?_⟩
    · rcases List.mem_cons.mp hz with rfl | hz
      · exact ho
      · rw [List.mem_singleton.mp hz]; exact hw
    walk_at "r"
    have s12M : Same HM H12 := s8.trans (s9.trans (s911.trans s12))
    have p12 := hpM.keep s12M
    have t12 := tM.ext s12M
    refine ⟨t12, fun H13 x13 t13 => ?_⟩
    unfold TT3
    intro Q2
    walk_at "r"
    refine kws_bad (th_ext (odd_ok.1.keep s12M) x13) odd_ok.2.1 fun H14 s14 => ⟨rfl, rfl, fun H15 s15 => ?_⟩
    walk_at "r"
    exact ⟨_, _, _, _, rfl, (((p12.ext x13).keep s14).keep s15).mono (by omega), (t13.ext s14).ext s15⟩
  · obtain ⟨v2, v3, v4, v5, rfl, p2, t2⟩ := I
    walk_at "r"
    refine new_lst (Nat.zero_le _) fun o3 H3 n3 s3 h3 => ?_
    walk_at "r"
    refine new_tup (by show 2 ≤ sizeLine; decide) fun o4 H4 n4 s4 h4 => ?_
    walk_at "r"
    refine new_lst (by show 1 ≤ sizeLine; decide) fun o5 H5 n5 s5 h5 => ?_
    walk_at "r"
    refine new_tup (Nat.zero_le _) fun o6 H6 n6 s6 h6 => ?_
    walk_at "r"
    refine new_tup (by show 2 ≤ sizeLine; decide) fun o7 H7 n7 s7 h7 => ?_
    walk_at "r"
    refine kws_at (ks := [Str.ofString "a"]) (is := [1]) rfl (⟨by decide +kernel, by decide +kernel, by decide⟩ : GoodB [(Str.ofString "a", (1 : Int))]) fun r8 d8 H8 nr8 nd8 s8 v8 => ?_
    walk_at "r"
    refine new_lst (by show 10 ≤ sizeLine; decide) fun M H9 n9 s9 h9 => ?_
    walk_at "r"
    refine ⟨⟨_, sqL_of h9⟩, ?_⟩
    have t9 : Tabs (tab3 P1 P2) H9 := t2.ext (s3.trans (s4.trans (s5.trans (s6.trans (s7.trans (s8.trans s9))))))
    refine for_any (itw_list (xs := _)) (fun i σ' H' => ∃ v5, σ' = [some (.ref a), some (.ref p), v2, v3, v4, v5] ∧ ExtN H9 H' ∧ Tabs (tab3 P1 P2) H') (fun i σ H' ⟨_, _, x, _⟩ => sqL_of (x _ _ h9 (fun _ z => by cases z))) ⟨v5, rfl, (Same.refl _).exN, t9⟩ (fun i b y σ1 H10 H11 hi I yy => ?_) fun σ1 H10 I => ?_
    · obtain ⟨v5, rfl, x10, t10⟩ := I
      obtain ⟨rfl, rfl⟩ := yy
      have bad : BadN K H11 y := by
        refine BadN.ext (H := H9) (.inl ?_) x10
        have hm := List.mem_of_getElem? hi
        simp only [List.mem_cons, List.not_mem_nil, or_false] at hm
        have l3 := ((s4.trans (s5.trans (s6.trans (s7.trans (s8.trans s9)))))) _ _ h3
        have l5 := (s6.trans (s7.trans (s8.trans s9))) _ _ h5
        have l6 := (s7.trans (s8.trans s9)) _ _ h6
        have l7 := (s8.trans s9) _ _ h7
        have nd : ∀ {o : Addr} {u : HO}, H9 o = some u → (∀ kvs, u ≠ .dK kvs) → ∀ a kvs, V.ref o = .ref a → H9 a ≠ some (.dK kvs) := fun {o u} h n a kvs e z => by
          cases e
          rw [h] at z
          exact n kvs (Option.some.inj z)
        rcases hm with rfl | rfl | rfl | rfl | rfl | rfl | rfl | rfl | rfl | rfl
        · exact NoD.th .non fun a kvs e => by cases e
        · exact NoD.th (.int 0) fun a kvs e => by cases e
        · exact NoD.th (.bl true) fun a kvs e => by cases e
        · exact NoD.th (scV_th (by decide +kernel)).1 fun a kvs e => by cases e
        · exact NoD.th (scV_th (by decide +kernel)).1 fun a kvs e => by cases e
        · exact NoD.th (.lst l3) (nd l3 fun _ z => by cases z)
        · exact NoD.th (.lst l5) (nd l5 fun _ z => by cases z)
        · exact NoD.th (.tup l6) (nd l6 fun _ z => by cases z)
        · exact NoD.th (.tup l7) (nd l7 fun _ z => by cases z)
        · intro H' x' Q q
          have v9 := v8.keep s9
          obtain ⟨dx, e⟩ := v9.at_
          exact ⟨_, _, .ref C, .type "dict", false, rfl, .ty _, V_Vector.ty ⟨dx, _, x' _ _ e (fun _ z => by cases z)⟩, xD, q⟩
      walk_at "r"
      refine ⟨t10, fun H13 x13 t13 => ?_⟩
      unfold TT3
      intro Q2
      walk_at "r"
      refine ⟨y, rfl, bad.ext x13, fun H14 s14 => ⟨rfl, rfl, fun H15 s15 => ?_⟩⟩
      walk_at "r"
      exact ⟨_, rfl, ((x10.trans x13).trans s14.exN).trans s15.exN, (t13.ext s14).ext s15⟩
    · obtain ⟨v5, rfl, x10, t10⟩ := I
      walk_at "r"
      have gnil : GoodB ([] : List (Str × Int)) := ⟨fun p h => (by cases h), List.Pairwise.nil, Nat.zero_le _⟩
      have nnil : nrm ([] : List (Str × Int)) = [] := by decide +kernel
      have gn : ∀ bs : List (Str × Int), Good (nrm bs) := fun bs => good_vec _ _
      refine kws_at (ks := [Str.ofString "numbers"]) (is := [3]) rfl (⟨by decide +kernel, by decide +kernel, by decide⟩ : GoodB [(Str.ofString "numbers", (3 : Int))]) fun r1 d1 H11 nr1 nd1 s11 v11 => ?_
      walk_at "r"
      refine rd_getO v11.ins ⟨r1, d1, _, .str (Str.ofString "numbers"), rfl, v11.rd, .str _ (by decide +kernel) (by decide +kernel), fun H12 s12 => ?_⟩
      rw [show getT (nrm ([Str.ofString "numbers"].zip [3])) (.str (Str.ofString "numbers")) = 3 by decide +kernel]
      walk_at "r"
      refine ⟨rfl, rfl, fun r2 d2 H13 nr2 nd2 s13 v13 => ?_⟩
      walk_at "r"
      refine kws_at (ks := []) (is := []) rfl gnil fun r3 d3 H14 nr3 nd3 s14 v14 => ?_
      walk_at "r"
      have v13b : VecAt C H14 r2 d2 (nrm []) := by rw [nnil]; exact v13.keep s14
      refine rd_binO v13b.ins v14.ins ⟨_, _, _, _, _, _, rfl, v13b, v14, gn _, gn _, ?_⟩
      rw [show decide (nrm [] = nrm (([] : List Str).zip ([] : List Int))) = true by decide +kernel]
      walk_at "r"
      refine ⟨rfl, rfl, fun r4 d4 H15 nr4 nd4 s15 v15 => ?_⟩
      walk_at "r"
      refine rd_dnewK fun o5 H16 n16 s16 h16 => ?_
      walk_at "r"
      have v16 : VecAt C H16 r4 d4 (nrm []) := by rw [nnil]; exact v15.keep s16
      refine ⟨r4, d4, o5, [], rfl, v16, h16, gnil, fun p h => (by cases h), fun H17 s17 => ?_⟩
      walk_at "r"
      refine rd_disp fun o6 H18 n18 s18 h18 => ?_
      walk_at "r"
      refine disp_done [(.inr (Str.ofString "a"), .int 0)] h18 rfl (by decide) fun H19 b19 h19 => ?_
      walk_at "r"
      refine ⟨o6, [(Str.ofString "a", 0)], rfl, h19, ⟨by decide +kernel, by decide +kernel, by decide⟩, fun r7 d7 H20 nr7 nd7 s20 v20 => ?_⟩
      walk_at "r"
      refine kws_at (ks := []) (is := []) rfl gnil fun r8 d8 H21 nr8 nd8 s21 v21 => ?_
      walk_at "r"
      have v20b := v20.keep s21
      refine rd_binO v20b.ins v21.ins ⟨_, _, _, _, _, _, rfl, v20b, v21, gn _, gn _, ?_⟩
      rw [show decide (nrm [(Str.ofString "a", 0)] = nrm (([] : List Str).zip ([] : List Int))) = true by decide +kernel]
      exact k _
end


end My

namespace My
open PySem PySem.Spec PyProof.Rows L2 EE LamX
local macro_rules | `(tactic| walk_at "sq") => `(tactic| first | assumption | exact sqL_of (by assumption) | exact sqT_of (by assumption))
local macro_rules | `(tactic| walk_at "same") => `(tactic| first
  | assumption
  | exact Same.refl _
  | (refine Same.trans ?_ (by assumption); walk_at "same")
  | (refine same_past ?_ (by assumption) ?_; (walk_at "same"); (walk_at "no")))
local macro_rules | `(tactic| walk_at "no") => `(tactic| first
  | assumption
  | (refine none_same ?_ (by assumption); walk_at "same")
  | (refine none_same (by assumption) ?_; walk_at "no")
  | (refine none_but (by assumption) ?_ ?_; (walk_at "n"); (walk_at "no")))
local macro_rules | `(tactic| walk_at "but") => `(tactic| first
  | assumption
  | exact But.refl _ _
  | (refine But.then ?_ (by assumption); walk_at "but")
  | (refine But.trans ?_ (by assumption); walk_at "but")
  | (refine but_past ?_ (by assumption) ?_; (walk_at "but"); (walk_at "no")))
local macro_rules | `(tactic| walk_at "hasp") => `(tactic| (repeat (first | exact ⟨_, _, by assumption⟩ | (refine hasPen_same (by assumption) ?_))))
local macro_rules | `(tactic| walk_at "hasc") => `(tactic| (repeat (first | exact ⟨_, _, by assumption⟩ | (refine hasCells_same (by assumption) ?_))))
local macro_rules | `(tactic| walk_at "pen") => `(tactic| (repeat (first | assumption | (refine PenAt.keep ?_ (by assumption)))))
local macro_rules | `(tactic| walk_at "has") => `(tactic| first
  | exact ⟨_, by assumption⟩
  | (refine has_same (by assumption) ?_; walk_at "has")
  | (refine has_but (by assumption) ?_ ?_; (walk_at "n"); (walk_at "has")))
local macro_rules | `(tactic| walk_at "n") => `(tactic| first
  | assumption
  | exact Ne.symm (by assumption)
  | (refine ne_free (by assumption) ?_; walk_at "has")
  | (refine ne_free' (by assumption) ?_; walk_at "has")
  | (refine pen_off (by assumption) ?_; walk_at "hasp"; done)
  | (refine Ne.symm (pen_off (by assumption) ?_); walk_at "hasp"; done)
  | (refine pen_off' (by assumption) ?_; walk_at "hasc"; done)
  | (refine Ne.symm (pen_off' (by assumption) ?_); walk_at "hasc"; done))
local macro_rules | `(tactic| walk_at "hh") => `(tactic| first
  | assumption
  | (refine get_same (by assumption) ?_; walk_at "hh")
  | (refine get_but (by assumption) (by walk_at "n") ?_; walk_at "hh"))
local macro_rules | `(tactic| walk_at "h") => `(tactic| first
  | ((repeat (first | assumption | (refine get_same (by assumption) ?_) | (refine get_but (by assumption) (by walk_at "n") ?_))); done)
  | walk_at "hh")
local macro_rules | `(tactic| walk_at "r") => `(tactic| repeat (first
  | (refine go ?_)
  | (with_reducible refine rd_mul ?_ ?_)
  | (with_reducible refine rd_mod ?_ ?_)
  | (with_reducible refine rd_fdiv ?_ ?_)
  | (with_reducible refine rd_pow ?_ ?_)
  | (with_reducible refine rd_strI ?_ ?_)
  | (with_reducible refine rd_addS ?_ ?_)
  | (with_reducible refine rd_lenS ?_ ?_)
  | (with_reducible refine rd_slS ?_ ?_)))
local macro_rules | `(tactic| walk_at "R") => `(tactic| repeat (first
  | (refine go ?_)
  | (with_reducible refine new_lstS fun _ _ _ _ _ => ?_)
  | (with_reducible refine new_lst (Nat.le_of_ble_eq_true rfl) fun _ _ _ _ _ => ?_)
  | (with_reducible refine rd_dnewK fun _ _ _ _ _ => ?_)
  | (with_reducible refine new_tup (Nat.le_of_ble_eq_true rfl) fun _ _ _ _ _ => ?_)
  | ((with_reducible refine len_go ?_); first | (refine Or.inl ⟨_, sqL_of (by walk_at "h"), ?_⟩) | (refine Or.inr ⟨_, sqT_of (by walk_at "h"), ?_⟩))
  | ((with_reducible refine slT_go ?_); refine ⟨_, sqL_of (by walk_at "h"), fun _ _ _ _ _ => ?_⟩)
  | ((with_reducible refine slD_go ?_); refine ⟨_, sqL_of (by walk_at "h"), fun _ _ _ _ _ => ?_⟩)
  | ((with_reducible refine slD1_go ?_); refine ⟨_, sqL_of (by walk_at "h"), fun _ _ _ _ _ => ?_⟩)
  | ((with_reducible refine sl_go ?_); refine ⟨_, sqL_of (by walk_at "h"), fun _ _ _ _ _ => ?_⟩)
  | ((with_reducible refine cat_go ?_); refine catS_go (by walk_at "h") (by walk_at "h") ?_ fun _ _ _ _ _ => ?_; rotate_left)
  | ((with_reducible refine cat_go ?_); refine catV_go (by walk_at "h") (by walk_at "h") (Nat.le_of_ble_eq_true rfl) fun _ _ _ _ _ => ?_)
  | ((with_reducible refine cat_go ?_); refine catV_go (by walk_at "h") (by walk_at "h") ?_ fun _ _ _ _ _ => ?_; rotate_left)
  | ((with_reducible refine ixL_go ?_); refine ⟨_, sqL_of (by walk_at "h"), ?_⟩; refine ⟨_, atI_lit, ?_⟩)
  | (with_reducible refine rd_mul ?_ ?_; rotate_left)
  | (with_reducible refine rd_mod ?_ ?_; rotate_left)
  | (with_reducible refine rd_fdiv ?_ ?_; rotate_left)
  | (with_reducible refine rd_pow ?_ ?_; rotate_left)
  | (with_reducible refine rd_strI ?_ ?_; rotate_left)
  | (with_reducible refine rd_addS ?_ ?_; rotate_left)
  | (with_reducible refine rd_lenS ?_ ?_; rotate_left)
  | (with_reducible refine rd_slS ?_ ?_; rotate_left)))

theorem kbn_cls {K : PySem.W.Frag} {x qual : Str} {st : Stmt} {f : Addr} {fd : FuncData} {p : Str} (F : Fun K x qual st f fd)
    (h : ∀ (kV doc pm : Value) (an : Option Addr) (cdv ct : Value) (u v : Value), bindArgs (PySem.W.fnOf x qual (defArgs st) (defBody st) (defScope st) .none kV doc pm an cdv ct) ⟨[v], [(p, u)]⟩ = pure [(("cls" : Str), v), (p, u)]) :
    KBn K fd ["cls", p] 1 [p] (fun us ws => us ++ ws) (fun us ws => us ++ ws) := by
  obtain ⟨oc, od, kV, doc, pm, an, cdv, ct, osl, rfl, lk, hcd⟩ := F.ex
  refine ⟨fun s us ws _ l1 l2 => ?_, fun r1 r2 => r1.append r2⟩
  match us, ws, l1, l2 with
  | [v], [w], _, _ => exact .of_eq (h kV doc pm an cdv ct w v)
theorem _root_.L2.FnOk.or {P : Program} {w : World} {K : PySem.W.Frag} {mg : Str → Option Value} {base : Heap} {CX : CXT} {k : Nat} {f : Addr} {fd : FuncData} {ps : List Str} {sp sp' : Sp} (F : FnOk P w K mg base CX k f fd ps sp) (F' : FnOk P w K mg base CX k f fd ps sp') : FnOk P w K mg base CX k f fd ps (fun vs H Q E => sp vs H Q E ∨ sp' vs H Q E) :=
  ⟨fun vs H Q E h => h.elim (F.len vs H Q E) (F'.len vs H Q E), fun A outer s H args us vs Q E hr e b v h => h.elim (fun h => F.run A outer s H args us vs Q E hr e b v h) fun h => F'.run A outer s H args us vs Q E hr e b v h⟩
theorem all_mk {P : Program} {w : World} {K : PySem.W.Frag} {h : Heap} {mg : Str → Option Value} {fa : Addr} (X : K.In h) (G : h.Ns mainGlobals mg) (hfa : mg "law" = some (.ref fa))
    {P1 P2 qR qL CI CN CM : Addr}
    {fis_name : Addr} {odis_name anis_name : Option Addr} {slis_name : Array (Option Value)} {ocis_name kVis_name dcis_name pmis_name ctis_name cdis_name : Value}
    {fis_integer : Addr} {odis_integer anis_integer : Option Addr} {slis_integer : Array (Option Value)} {ocis_integer kVis_integer dcis_integer pmis_integer ctis_integer cdis_integer : Value}
    {fare_names : Addr} {odare_names anare_names : Option Addr} {slare_names : Array (Option Value)} {ocare_names kVare_names dcare_names pmare_names ctare_names cdare_names : Value}
    {fneed_numbers : Addr} {odneed_numbers anneed_numbers : Option Addr} {slneed_numbers : Array (Option Value)} {ocneed_numbers kVneed_numbers dcneed_numbers pmneed_numbers ctneed_numbers cdneed_numbers : Value}
    {C_Vector : Addr}
    {fVector___init__ : Addr} {odVector___init__ anVector___init__ : Option Addr} {slVector___init__ : Array (Option Value)} {ocVector___init__ kVVector___init__ dcVector___init__ pmVector___init__ ctVector___init__ cdVector___init__ : Value}
    {fVector_names : Addr} {odVector_names anVector_names : Option Addr} {slVector_names : Array (Option Value)} {ocVector_names kVVector_names dcVector_names pmVector_names ctVector_names cdVector_names : Value}
    {pOVector_names : Addr} {reVector_names : List Value}
    {fVector___len__ : Addr} {odVector___len__ anVector___len__ : Option Addr} {slVector___len__ : Array (Option Value)} {ocVector___len__ kVVector___len__ dcVector___len__ pmVector___len__ ctVector___len__ cdVector___len__ : Value}
    {fVector___bool__ : Addr} {odVector___bool__ anVector___bool__ : Option Addr} {slVector___bool__ : Array (Option Value)} {ocVector___bool__ kVVector___bool__ dcVector___bool__ pmVector___bool__ ctVector___bool__ cdVector___bool__ : Value}
    {fVector___eq__ : Addr} {odVector___eq__ anVector___eq__ : Option Addr} {slVector___eq__ : Array (Option Value)} {ocVector___eq__ kVVector___eq__ dcVector___eq__ pmVector___eq__ ctVector___eq__ cdVector___eq__ : Value}
    {fVector_of : Addr} {odVector_of anVector_of : Option Addr} {slVector_of : Array (Option Value)} {ocVector_of kVVector_of dcVector_of pmVector_of ctVector_of cdVector_of : Value}
    {pOVector_of : Addr} {reVector_of : List Value}
    {fvector_text : Addr} {odvector_text anvector_text : Option Addr} {slvector_text : Array (Option Value)} {ocvector_text kVvector_text dcvector_text pmvector_text ctvector_text cdvector_text : Value}
    {f_law_pen : Addr} {od_law_pen an_law_pen : Option Addr} {sl_law_pen : Array (Option Value)} {oc_law_pen kV_law_pen dc_law_pen pm_law_pen ct_law_pen cd_law_pen : Value}
    {f_law_draw : Addr} {od_law_draw an_law_draw : Option Addr} {sl_law_draw : Array (Option Value)} {oc_law_draw kV_law_draw dc_law_draw pm_law_draw ct_law_draw cd_law_draw : Value}
    {f_law_pick : Addr} {od_law_pick an_law_pick : Option Addr} {sl_law_pick : Array (Option Value)} {oc_law_pick kV_law_pick dc_law_pick pm_law_pick ct_law_pick cd_law_pick : Value}
    {f_law_word : Addr} {od_law_word an_law_word : Option Addr} {sl_law_word : Array (Option Value)} {oc_law_word kV_law_word dc_law_word pm_law_word ct_law_word cd_law_word : Value}
    {f_law_great : Addr} {od_law_great an_law_great : Option Addr} {sl_law_great : Array (Option Value)} {oc_law_great kV_law_great dc_law_great pm_law_great ct_law_great cd_law_great : Value}
    {f_law_whole : Addr} {od_law_whole an_law_whole : Option Addr} {sl_law_whole : Array (Option Value)} {oc_law_whole kV_law_whole dc_law_whole pm_law_whole ct_law_whole cd_law_whole : Value}
    {f_law_box : Addr} {od_law_box an_law_box : Option Addr} {sl_law_box : Array (Option Value)} {oc_law_box kV_law_box dc_law_box pm_law_box ct_law_box cd_law_box : Value}
    {f_law_turned : Addr} {od_law_turned an_law_turned : Option Addr} {sl_law_turned : Array (Option Value)} {oc_law_turned kV_law_turned dc_law_turned pm_law_turned ct_law_turned cd_law_turned : Value}
    {f_law_refused : Addr} {od_law_refused an_law_refused : Option Addr} {sl_law_refused : Array (Option Value)} {oc_law_refused kV_law_refused dc_law_refused pm_law_refused ct_law_refused cd_law_refused : Value}
    {f_law_spoilt : Addr} {od_law_spoilt an_law_spoilt : Option Addr} {sl_law_spoilt : Array (Option Value)} {oc_law_spoilt kV_law_spoilt dc_law_spoilt pm_law_spoilt ct_law_spoilt cd_law_spoilt : Value}
    {f_law_told_right : Addr} {od_law_told_right an_law_told_right : Option Addr} {sl_law_told_right : Array (Option Value)} {oc_law_told_right kV_law_told_right dc_law_told_right pm_law_told_right ct_law_told_right cd_law_told_right : Value}
    {fR : Addr} {odR anR : Option Addr} {slR : Array (Option Value)} {ocR kVR dcR pmR ctR : Value}
    {ocqR : Value} {odqR : Option Addr} {vsR : Array Value} {slqR : Array (Option Value)}
    {flaw : Addr} {odlaw anlaw : Option Addr} {sllaw : Array (Option Value)} {oclaw kVlaw dclaw pmlaw ctlaw : Value}
    {ocqlaw : Value} {odqlaw : Option Addr} {vslaw : Array Value} {slqlaw : Array (Option Value)}
    {tk0 : Tok}
    {tk1 : Tok}
    {tk2 : Tok}
    {tk3 : Tok}
    {fVector___contains__ : Addr} {odVector___contains__ anVector___contains__ : Option Addr} {slVector___contains__ : Array (Option Value)} {ocVector___contains__ kVVector___contains__ dcVector___contains__ pmVector___contains__ ctVector___contains__ cdVector___contains__ : Value}
    {fVector___getitem__ : Addr} {odVector___getitem__ anVector___getitem__ : Option Addr} {slVector___getitem__ : Array (Option Value)} {ocVector___getitem__ kVVector___getitem__ dcVector___getitem__ pmVector___getitem__ ctVector___getitem__ cdVector___getitem__ : Value}
    {fVector___str__ : Addr} {odVector___str__ anVector___str__ : Option Addr} {slVector___str__ : Array (Option Value)} {ocVector___str__ kVVector___str__ dcVector___str__ pmVector___str__ ctVector___str__ cdVector___str__ : Value}
    {fVector___repr__ : Addr} {odVector___repr__ anVector___repr__ : Option Addr} {slVector___repr__ : Array (Option Value)} {ocVector___repr__ kVVector___repr__ dcVector___repr__ pmVector___repr__ ctVector___repr__ cdVector___repr__ : Value}
    {fVector_zero : Addr} {odVector_zero anVector_zero : Option Addr} {slVector_zero : Array (Option Value)} {ocVector_zero kVVector_zero dcVector_zero pmVector_zero ctVector_zero cdVector_zero : Value}
    {pOVector_zero : Addr} {reVector_zero : List Value}
    (ais_name : PySem.W.nsIn K mainGlobals "is_name" = some (some (.ref fis_name)))
    (ais_integer : PySem.W.nsIn K mainGlobals "is_integer" = some (some (.ref fis_integer)))
    (aare_names : PySem.W.nsIn K mainGlobals "are_names" = some (some (.ref fare_names)))
    (aneed_numbers : PySem.W.nsIn K mainGlobals "need_numbers" = some (some (.ref fneed_numbers)))
    (gCVector : PySem.W.nsIn K mainGlobals "Vector" = some (some (.ref C_Vector)))
    (avector_text : PySem.W.nsIn K mainGlobals "vector_text" = some (some (.ref fvector_text)))
    (a_law_pen : PySem.W.nsIn K mainGlobals "_law_pen" = some (some (.ref f_law_pen)))
    (a_law_draw : PySem.W.nsIn K mainGlobals "_law_draw" = some (some (.ref f_law_draw)))
    (a_law_pick : PySem.W.nsIn K mainGlobals "_law_pick" = some (some (.ref f_law_pick)))
    (a_law_word : PySem.W.nsIn K mainGlobals "_law_word" = some (some (.ref f_law_word)))
    (a_law_great : PySem.W.nsIn K mainGlobals "_law_great" = some (some (.ref f_law_great)))
    (a_law_whole : PySem.W.nsIn K mainGlobals "_law_whole" = some (some (.ref f_law_whole)))
    (a_law_box : PySem.W.nsIn K mainGlobals "_law_box" = some (some (.ref f_law_box)))
    (a_law_turned : PySem.W.nsIn K mainGlobals "_law_turned" = some (some (.ref f_law_turned)))
    (a_law_refused : PySem.W.nsIn K mainGlobals "_law_refused" = some (some (.ref f_law_refused)))
    (a_law_spoilt : PySem.W.nsIn K mainGlobals "_law_spoilt" = some (some (.ref f_law_spoilt)))
    (a_law_told_right : PySem.W.nsIn K mainGlobals "_law_told_right" = some (some (.ref f_law_told_right)))
    (aR : PySem.W.nsIn K mainGlobals "_law_right" = some (some (.ref fR)))
    (alaw : PySem.W.nsIn K mainGlobals "law" = some (some (.ref flaw)))
    (gCN : PySem.W.nsIn K mainGlobals "NetError" = some (some (.ref CN)))
    (gCM : PySem.W.nsIn K mainGlobals "MissingError" = some (some (.ref CM)))
    (gCI : PySem.W.nsIn K mainGlobals "InvalidVector" = some (some (.ref CI)))
    (iVector___init__ : PySem.W.findIn K (.ref C_Vector) "__init__" = some (some (.ref fVector___init__)))
    (oAVector_names : PySem.W.findIn K (.ref C_Vector) "names" = some (some (.ref pOVector_names)))
    (iVector___len__ : PySem.W.findIn K (.ref C_Vector) "__len__" = some (some (.ref fVector___len__)))
    (iVector___bool__ : PySem.W.findIn K (.ref C_Vector) "__bool__" = some (some (.ref fVector___bool__)))
    (iVector___eq__ : PySem.W.findIn K (.ref C_Vector) "__eq__" = some (some (.ref fVector___eq__)))
    (oAVector_of : PySem.W.findCls K (.ref C_Vector) (.type "type") "of" = some (.get (.builtin "classmethod.__get__") (.ref pOVector_of) .none (.ref C_Vector)))
    (iVector___contains__ : PySem.W.findIn K (.ref C_Vector) "__contains__" = some (some (.ref fVector___contains__)))
    (iVector___getitem__ : PySem.W.findIn K (.ref C_Vector) "__getitem__" = some (some (.ref fVector___getitem__)))
    (iVector___str__ : PySem.W.findIn K (.ref C_Vector) "__str__" = some (some (.ref fVector___str__)))
    (iVector___repr__ : PySem.W.findIn K (.ref C_Vector) "__repr__" = some (some (.ref fVector___repr__)))
    (oAVector_zero : PySem.W.findCls K (.ref C_Vector) (.type "type") "zero" = some (.get (.builtin "staticmethod.__get__") (.ref pOVector_zero) .none (.ref C_Vector)))
    (oRVector_names : PySem.W.recIn K pOVector_names "property" = some (.ref fVector_names :: reVector_names))
    (oRVector_of : PySem.W.recIn K pOVector_of "classmethod" = some (.ref fVector_of :: reVector_of))
    (oRVector_zero : PySem.W.recIn K pOVector_zero "staticmethod" = some (.ref fVector_zero :: reVector_zero))
    (lis_name : K.lookup fis_name = some ⟨ocis_name, odis_name, .func (PySem.W.fnOf "is_name" "is_name" (defArgs s_is_name) (defBody s_is_name) (defScope s_is_name) .none kVis_name dcis_name pmis_name anis_name cdis_name ctis_name), slis_name⟩)
    (lis_integer : K.lookup fis_integer = some ⟨ocis_integer, odis_integer, .func (PySem.W.fnOf "is_integer" "is_integer" (defArgs s_is_integer) (defBody s_is_integer) (defScope s_is_integer) .none kVis_integer dcis_integer pmis_integer anis_integer cdis_integer ctis_integer), slis_integer⟩)
    (lare_names : K.lookup fare_names = some ⟨ocare_names, odare_names, .func (PySem.W.fnOf "are_names" "are_names" (defArgs s_are_names) (defBody s_are_names) (defScope s_are_names) .none kVare_names dcare_names pmare_names anare_names cdare_names ctare_names), slare_names⟩)
    (lneed_numbers : K.lookup fneed_numbers = some ⟨ocneed_numbers, odneed_numbers, .func (PySem.W.fnOf "need_numbers" "need_numbers" (defArgs s_need_numbers) (defBody s_need_numbers) (defScope s_need_numbers) .none kVneed_numbers dcneed_numbers pmneed_numbers anneed_numbers cdneed_numbers ctneed_numbers), slneed_numbers⟩)
    (lVector___init__ : K.lookup fVector___init__ = some ⟨ocVector___init__, odVector___init__, .func (PySem.W.fnOf "__init__" "Vector.__init__" (defArgs s_Vector___init__) (defBody s_Vector___init__) (defScope s_Vector___init__) .none kVVector___init__ dcVector___init__ pmVector___init__ anVector___init__ cdVector___init__ ctVector___init__), slVector___init__⟩)
    (lVector_names : K.lookup fVector_names = some ⟨ocVector_names, odVector_names, .func (PySem.W.fnOf "names" "Vector.names" (defArgs s_Vector_names) (defBody s_Vector_names) (defScope s_Vector_names) .none kVVector_names dcVector_names pmVector_names anVector_names cdVector_names ctVector_names), slVector_names⟩)
    (lVector___len__ : K.lookup fVector___len__ = some ⟨ocVector___len__, odVector___len__, .func (PySem.W.fnOf "__len__" "Vector.__len__" (defArgs s_Vector___len__) (defBody s_Vector___len__) (defScope s_Vector___len__) .none kVVector___len__ dcVector___len__ pmVector___len__ anVector___len__ cdVector___len__ ctVector___len__), slVector___len__⟩)
    (lVector___bool__ : K.lookup fVector___bool__ = some ⟨ocVector___bool__, odVector___bool__, .func (PySem.W.fnOf "__bool__" "Vector.__bool__" (defArgs s_Vector___bool__) (defBody s_Vector___bool__) (defScope s_Vector___bool__) .none kVVector___bool__ dcVector___bool__ pmVector___bool__ anVector___bool__ cdVector___bool__ ctVector___bool__), slVector___bool__⟩)
    (lVector___eq__ : K.lookup fVector___eq__ = some ⟨ocVector___eq__, odVector___eq__, .func (PySem.W.fnOf "__eq__" "Vector.__eq__" (defArgs s_Vector___eq__) (defBody s_Vector___eq__) (defScope s_Vector___eq__) .none kVVector___eq__ dcVector___eq__ pmVector___eq__ anVector___eq__ cdVector___eq__ ctVector___eq__), slVector___eq__⟩)
    (lVector_of : K.lookup fVector_of = some ⟨ocVector_of, odVector_of, .func (PySem.W.fnOf "of" "Vector.of" (defArgs s_Vector_of) (defBody s_Vector_of) (defScope s_Vector_of) .none kVVector_of dcVector_of pmVector_of anVector_of cdVector_of ctVector_of), slVector_of⟩)
    (lvector_text : K.lookup fvector_text = some ⟨ocvector_text, odvector_text, .func (PySem.W.fnOf "vector_text" "vector_text" (defArgs s_vector_text) (defBody s_vector_text) (defScope s_vector_text) .none kVvector_text dcvector_text pmvector_text anvector_text cdvector_text ctvector_text), slvector_text⟩)
    (l_law_pen : K.lookup f_law_pen = some ⟨oc_law_pen, od_law_pen, .func (PySem.W.fnOf "_law_pen" "_law_pen" (defArgs s__law_pen) (defBody s__law_pen) (defScope s__law_pen) .none kV_law_pen dc_law_pen pm_law_pen an_law_pen cd_law_pen ct_law_pen), sl_law_pen⟩)
    (l_law_draw : K.lookup f_law_draw = some ⟨oc_law_draw, od_law_draw, .func (PySem.W.fnOf "_law_draw" "_law_draw" (defArgs s__law_draw) (defBody s__law_draw) (defScope s__law_draw) .none kV_law_draw dc_law_draw pm_law_draw an_law_draw cd_law_draw ct_law_draw), sl_law_draw⟩)
    (l_law_pick : K.lookup f_law_pick = some ⟨oc_law_pick, od_law_pick, .func (PySem.W.fnOf "_law_pick" "_law_pick" (defArgs s__law_pick) (defBody s__law_pick) (defScope s__law_pick) .none kV_law_pick dc_law_pick pm_law_pick an_law_pick cd_law_pick ct_law_pick), sl_law_pick⟩)
    (l_law_word : K.lookup f_law_word = some ⟨oc_law_word, od_law_word, .func (PySem.W.fnOf "_law_word" "_law_word" (defArgs s__law_word) (defBody s__law_word) (defScope s__law_word) .none kV_law_word dc_law_word pm_law_word an_law_word cd_law_word ct_law_word), sl_law_word⟩)
    (l_law_great : K.lookup f_law_great = some ⟨oc_law_great, od_law_great, .func (PySem.W.fnOf "_law_great" "_law_great" (defArgs s__law_great) (defBody s__law_great) (defScope s__law_great) .none kV_law_great dc_law_great pm_law_great an_law_great cd_law_great ct_law_great), sl_law_great⟩)
    (l_law_whole : K.lookup f_law_whole = some ⟨oc_law_whole, od_law_whole, .func (PySem.W.fnOf "_law_whole" "_law_whole" (defArgs s__law_whole) (defBody s__law_whole) (defScope s__law_whole) .none kV_law_whole dc_law_whole pm_law_whole an_law_whole cd_law_whole ct_law_whole), sl_law_whole⟩)
    (l_law_box : K.lookup f_law_box = some ⟨oc_law_box, od_law_box, .func (PySem.W.fnOf "_law_box" "_law_box" (defArgs s__law_box) (defBody s__law_box) (defScope s__law_box) .none kV_law_box dc_law_box pm_law_box an_law_box cd_law_box ct_law_box), sl_law_box⟩)
    (l_law_turned : K.lookup f_law_turned = some ⟨oc_law_turned, od_law_turned, .func (PySem.W.fnOf "_law_turned" "_law_turned" (defArgs s__law_turned) (defBody s__law_turned) (defScope s__law_turned) .none kV_law_turned dc_law_turned pm_law_turned an_law_turned cd_law_turned ct_law_turned), sl_law_turned⟩)
    (l_law_refused : K.lookup f_law_refused = some ⟨oc_law_refused, od_law_refused, .func (PySem.W.fnOf "_law_refused" "_law_refused" (defArgs s__law_refused) (defBody s__law_refused) (defScope s__law_refused) .none kV_law_refused dc_law_refused pm_law_refused an_law_refused cd_law_refused ct_law_refused), sl_law_refused⟩)
    (l_law_spoilt : K.lookup f_law_spoilt = some ⟨oc_law_spoilt, od_law_spoilt, .func (PySem.W.fnOf "_law_spoilt" "_law_spoilt" (defArgs s__law_spoilt) (defBody s__law_spoilt) (defScope s__law_spoilt) .none kV_law_spoilt dc_law_spoilt pm_law_spoilt an_law_spoilt cd_law_spoilt ct_law_spoilt), sl_law_spoilt⟩)
    (l_law_told_right : K.lookup f_law_told_right = some ⟨oc_law_told_right, od_law_told_right, .func (PySem.W.fnOf "_law_told_right" "_law_told_right" (defArgs s__law_told_right) (defBody s__law_told_right) (defScope s__law_told_right) .none kV_law_told_right dc_law_told_right pm_law_told_right an_law_told_right cd_law_told_right ct_law_told_right), sl_law_told_right⟩)
    (lR : K.lookup fR = some ⟨ocR, odR, .func (PySem.W.fnOf "_law_right" "_law_right" (defArgs s__law_right) (defBody s__law_right) (defScope s__law_right) .none kVR dcR pmR anR (.ref qR) ctR), slR⟩)
    (llaw : K.lookup flaw = some ⟨oclaw, odlaw, .func (PySem.W.fnOf "law" "law" (defArgs s_law) (defBody s_law) (defScope s_law) .none kVlaw dclaw pmlaw anlaw (.ref qL) ctlaw), sllaw⟩)
    (lVector___contains__ : K.lookup fVector___contains__ = some ⟨ocVector___contains__, odVector___contains__, .func (PySem.W.fnOf "__contains__" "Vector.__contains__" (defArgs s_Vector___contains__) (defBody s_Vector___contains__) (defScope s_Vector___contains__) .none kVVector___contains__ dcVector___contains__ pmVector___contains__ anVector___contains__ cdVector___contains__ ctVector___contains__), slVector___contains__⟩)
    (lVector___getitem__ : K.lookup fVector___getitem__ = some ⟨ocVector___getitem__, odVector___getitem__, .func (PySem.W.fnOf "__getitem__" "Vector.__getitem__" (defArgs s_Vector___getitem__) (defBody s_Vector___getitem__) (defScope s_Vector___getitem__) .none kVVector___getitem__ dcVector___getitem__ pmVector___getitem__ anVector___getitem__ cdVector___getitem__ ctVector___getitem__), slVector___getitem__⟩)
    (lVector___str__ : K.lookup fVector___str__ = some ⟨ocVector___str__, odVector___str__, .func (PySem.W.fnOf "__str__" "Vector.__str__" (defArgs s_Vector___str__) (defBody s_Vector___str__) (defScope s_Vector___str__) .none kVVector___str__ dcVector___str__ pmVector___str__ anVector___str__ cdVector___str__ ctVector___str__), slVector___str__⟩)
    (lVector___repr__ : K.lookup fVector___repr__ = some ⟨ocVector___repr__, odVector___repr__, .func (PySem.W.fnOf "__repr__" "Vector.__repr__" (defArgs s_Vector___repr__) (defBody s_Vector___repr__) (defScope s_Vector___repr__) .none kVVector___repr__ dcVector___repr__ pmVector___repr__ anVector___repr__ cdVector___repr__ ctVector___repr__), slVector___repr__⟩)
    (lVector_zero : K.lookup fVector_zero = some ⟨ocVector_zero, odVector_zero, .func (PySem.W.fnOf "zero" "Vector.zero" (defArgs s_Vector_zero) (defBody s_Vector_zero) (defScope s_Vector_zero) .none kVVector_zero dcVector_zero pmVector_zero anVector_zero cdVector_zero ctVector_zero), slVector_zero⟩)
    (cis_name : PySem.W.codeIn K cdis_name "is_name" = true)
    (kis_name : PySem.W.keepIn K (.ref fis_name) = true)
    (cis_integer : PySem.W.codeIn K cdis_integer "is_integer" = true)
    (kis_integer : PySem.W.keepIn K (.ref fis_integer) = true)
    (care_names : PySem.W.codeIn K cdare_names "are_names" = true)
    (kare_names : PySem.W.keepIn K (.ref fare_names) = true)
    (cneed_numbers : PySem.W.codeIn K cdneed_numbers "need_numbers" = true)
    (kneed_numbers : PySem.W.keepIn K (.ref fneed_numbers) = true)
    (pgVector : PySem.W.plainGet K C_Vector Str.empty = true)
    (hdVector : PySem.W.hasDictIn K C_Vector = true)
    (poVector : PySem.W.plainOver K C_Vector = true)
    (saVector : PySem.W.findIn K (.ref C_Vector) "__setattr__" = some (some (.builtin "object.__setattr__")))
    (mkVector : PySem.W.makesIn K C_Vector = true)
    (kpVector : PySem.W.keepIn K (.ref C_Vector) = true)
    (iaVector : PySem.W.findIn K (.ref C_Vector) "__class__" = some (some (.builtin "object.__class__")))
    (imVector : PySem.W.mroIn K C_Vector (.type "object") = some true)
    (ieVector : PySem.W.kitOne K (.ref C_Vector) (.ref C_Vector) = some true)
    (isg : PySem.W.specialIn K (.builtin "object.__class__") "__get__" = some (some (.builtin "getset_descriptor.__get__")))
    (ist : PySem.W.takesIn K (.builtin "object.__class__") = some true)
    (nVectorheld : PySem.W.findIn K (.ref C_Vector) "held" = some none)
    (rdVector : PySem.W.readsIn K C_Vector (.type "type") = true)
    (rgVector : PySem.W.specialIn K (.ref C_Vector) "__getattribute__" = some (some (.builtin "type.__getattribute__")))
    (sfVector : PySem.W.selfFirst K C_Vector = true)
    (cVector___init__ : PySem.W.codeIn K cdVector___init__ "Vector.__init__" = true)
    (kVector___init__ : PySem.W.keepIn K (.ref fVector___init__) = true)
    (wVector___init__ : PySem.W.isFn K (.ref fVector___init__) = true)
    (cVector_names : PySem.W.codeIn K cdVector_names "Vector.names" = true)
    (kVector_names : PySem.W.keepIn K (.ref fVector_names) = true)
    (oGVector_names : PySem.W.specialIn K (.ref pOVector_names) "__get__" = some (some (.builtin "property.__get__")))
    (oTVector_names : PySem.W.takesIn K (.ref pOVector_names) = some true)
    (cVector___len__ : PySem.W.codeIn K cdVector___len__ "Vector.__len__" = true)
    (kVector___len__ : PySem.W.keepIn K (.ref fVector___len__) = true)
    (wVector___len__ : PySem.W.isFn K (.ref fVector___len__) = true)
    (vVector___len__ : PySem.W.fnIn K fVector___len__ = true)
    (cVector___bool__ : PySem.W.codeIn K cdVector___bool__ "Vector.__bool__" = true)
    (kVector___bool__ : PySem.W.keepIn K (.ref fVector___bool__) = true)
    (wVector___bool__ : PySem.W.isFn K (.ref fVector___bool__) = true)
    (vVector___bool__ : PySem.W.fnIn K fVector___bool__ = true)
    (cVector___eq__ : PySem.W.codeIn K cdVector___eq__ "Vector.__eq__" = true)
    (kVector___eq__ : PySem.W.keepIn K (.ref fVector___eq__) = true)
    (wVector___eq__ : PySem.W.isFn K (.ref fVector___eq__) = true)
    (vVector___eq__ : PySem.W.fnIn K fVector___eq__ = true)
    (cVector_of : PySem.W.codeIn K cdVector_of "Vector.of" = true)
    (kVector_of : PySem.W.keepIn K (.ref fVector_of) = true)
    (vVector_of : PySem.W.fnIn K fVector_of = true)
    (cvector_text : PySem.W.codeIn K cdvector_text "vector_text" = true)
    (kvector_text : PySem.W.keepIn K (.ref fvector_text) = true)
    (c_law_pen : PySem.W.codeIn K cd_law_pen "_law_pen" = true)
    (k_law_pen : PySem.W.keepIn K (.ref f_law_pen) = true)
    (c_law_draw : PySem.W.codeIn K cd_law_draw "_law_draw" = true)
    (k_law_draw : PySem.W.keepIn K (.ref f_law_draw) = true)
    (c_law_pick : PySem.W.codeIn K cd_law_pick "_law_pick" = true)
    (k_law_pick : PySem.W.keepIn K (.ref f_law_pick) = true)
    (c_law_word : PySem.W.codeIn K cd_law_word "_law_word" = true)
    (k_law_word : PySem.W.keepIn K (.ref f_law_word) = true)
    (c_law_great : PySem.W.codeIn K cd_law_great "_law_great" = true)
    (k_law_great : PySem.W.keepIn K (.ref f_law_great) = true)
    (c_law_whole : PySem.W.codeIn K cd_law_whole "_law_whole" = true)
    (k_law_whole : PySem.W.keepIn K (.ref f_law_whole) = true)
    (c_law_box : PySem.W.codeIn K cd_law_box "_law_box" = true)
    (k_law_box : PySem.W.keepIn K (.ref f_law_box) = true)
    (c_law_turned : PySem.W.codeIn K cd_law_turned "_law_turned" = true)
    (k_law_turned : PySem.W.keepIn K (.ref f_law_turned) = true)
    (c_law_refused : PySem.W.codeIn K cd_law_refused "_law_refused" = true)
    (k_law_refused : PySem.W.keepIn K (.ref f_law_refused) = true)
    (c_law_spoilt : PySem.W.codeIn K cd_law_spoilt "_law_spoilt" = true)
    (k_law_spoilt : PySem.W.keepIn K (.ref f_law_spoilt) = true)
    (c_law_told_right : PySem.W.codeIn K cd_law_told_right "_law_told_right" = true)
    (k_law_told_right : PySem.W.keepIn K (.ref f_law_told_right) = true)
    (cR : PySem.W.codeIn K (.ref qR) "_law_right" = true)
    (kR : PySem.W.keepIn K (.ref fR) = true)
    (qlR : K.lookup qR = some ⟨ocqR, odqR, .fields vsR, slqR⟩)
    (claw : PySem.W.codeIn K (.ref qL) "law" = true)
    (klaw : PySem.W.keepIn K (.ref flaw) = true)
    (qllaw : K.lookup qL = some ⟨ocqlaw, odqlaw, .fields vslaw, slqlaw⟩)
    (xCI : exB K CI [.type "ValueError", .type "Exception", .type "BaseException", .type "object"] "ValueError.__new__" = true)
    (qCI : PySem.W.excIn K CI [.type "ValueError", .type "Exception", .type "BaseException", .type "object"] "ValueError.__new__" = true)
    (kCI : PySem.W.keepIn K (.ref CI) = true)
    (neVector : PySem.W.findIn K (.ref C_Vector) "__ne__" = some (some (.builtin "object.__ne__")))
    (noVector : PySem.W.subIn K (.ref C_Vector) (.type "object") = some true)
    (z0 : PySem.W.nsIn K mainGlobals "int" = some none)
    (z1 : PySem.W.nsIn K mainGlobals "len" = some none)
    (z2 : PySem.W.nsIn K mainGlobals "abs" = some none)
    (z3 : PySem.W.nsIn K mainGlobals "str" = some none)
    (z4 : PySem.W.nsIn K mainGlobals "list" = some none)
    (z5 : PySem.W.nsIn K mainGlobals "tuple" = some none)
    (z6 : PySem.W.nsIn K mainGlobals "isinstance" = some none)
    (z7 : PySem.W.nsIn K mainGlobals "all" = some none)
    (z8 : PySem.W.nsIn K mainGlobals "range" = some none)
    (z9 : PySem.W.nsIn K mainGlobals "repr" = some none)
    (z10 : PySem.W.nsIn K mainGlobals "sorted" = some none)
    (z11 : PySem.W.nsIn K mainGlobals "dict" = some none)
    (z12 : PySem.W.nsIn K mainGlobals "bool" = some none)
    (z13 : PySem.W.nsIn K mainGlobals "ValueError" = some none)
    (y0 : PySem.W.nsIn K mainGlobals "LETTERS" = some (some (.str "abcdefghijklmnopqrstuvwxyz" tk0)))
    (y1 : PySem.W.nsIn K mainGlobals "MOST_LETTERS" = some (some (.int 8 tk1)))
    (y2 : PySem.W.nsIn K mainGlobals "OWN" = some (some (.str "self" tk2)))
    (y3 : PySem.W.nsIn K mainGlobals "NOTHING" = some (some (.str "0" tk3)))
    (cVector___contains__ : PySem.W.codeIn K cdVector___contains__ "Vector.__contains__" = true)
    (kVector___contains__ : PySem.W.keepIn K (.ref fVector___contains__) = true)
    (wVector___contains__ : PySem.W.isFn K (.ref fVector___contains__) = true)
    (vVector___contains__ : PySem.W.fnIn K fVector___contains__ = true)
    (cVector___getitem__ : PySem.W.codeIn K cdVector___getitem__ "Vector.__getitem__" = true)
    (kVector___getitem__ : PySem.W.keepIn K (.ref fVector___getitem__) = true)
    (wVector___getitem__ : PySem.W.isFn K (.ref fVector___getitem__) = true)
    (vVector___getitem__ : PySem.W.fnIn K fVector___getitem__ = true)
    (cVector___str__ : PySem.W.codeIn K cdVector___str__ "Vector.__str__" = true)
    (kVector___str__ : PySem.W.keepIn K (.ref fVector___str__) = true)
    (wVector___str__ : PySem.W.isFn K (.ref fVector___str__) = true)
    (vVector___str__ : PySem.W.fnIn K fVector___str__ = true)
    (cVector___repr__ : PySem.W.codeIn K cdVector___repr__ "Vector.__repr__" = true)
    (kVector___repr__ : PySem.W.keepIn K (.ref fVector___repr__) = true)
    (wVector___repr__ : PySem.W.isFn K (.ref fVector___repr__) = true)
    (vVector___repr__ : PySem.W.fnIn K fVector___repr__ = true)
    (cVector_zero : PySem.W.codeIn K cdVector_zero "Vector.zero" = true)
    (kVector_zero : PySem.W.keepIn K (.ref fVector_zero) = true)
    (vxR : vsR[11]? = some (.ref P1))
    (vxlaw : vslaw[11]? = some (.ref P2))
    (x1 : PySem.W.exmAny K (.ref CI) [.ref CN, .ref CM] = some true)
    (x3 : PySem.W.kitOne K (.ref CI) (.type "ValueError") = some true)
    (x4 : PySem.W.kitOne K (.ref CI) (.ref CI) = some true)
    (xD : PySem.W.kitOne K (.ref C_Vector) (.type "dict") = some false)
    (nfstr : PySem.W.notFirst K C_Vector (.type "str") = true)
    (kfstr : PySem.W.kitOne K (.type "str") (.ref C_Vector) = some false)
    (nfint : PySem.W.notFirst K C_Vector (.type "int") = true)
    (kfint : PySem.W.kitOne K (.type "int") (.ref C_Vector) = some false)
    (nfbool : PySem.W.notFirst K C_Vector (.type "bool") = true)
    (kfbool : PySem.W.kitOne K (.type "bool") (.ref C_Vector) = some false)
    (nfNoneType : PySem.W.notFirst K C_Vector (.type "NoneType") = true)
    (kfNoneType : PySem.W.kitOne K (.type "NoneType") (.ref C_Vector) = some false)
    (nflist : PySem.W.notFirst K C_Vector (.type "list") = true)
    (kflist : PySem.W.kitOne K (.type "list") (.ref C_Vector) = some false)
    (nftuple : PySem.W.notFirst K C_Vector (.type "tuple") = true)
    (kftuple : PySem.W.kitOne K (.type "tuple") (.ref C_Vector) = some false)
    (nfdict : PySem.W.notFirst K C_Vector (.type "dict") = true)
    (kfdict : PySem.W.kitOne K (.type "dict") (.ref C_Vector) = some false)
    (pTR : h.get? P1 = some { cls := .none, data := .fields #[] })
    (hxR : PySem.W.codeHdIn K qR P1 = true)
    (pTlaw : h.get? P2 = some { cls := .none, data := .fields #[] })
    (hxlaw : PySem.W.codeHdIn K qL P2 = true)
    (nxR : K.lookup P1 = none)
    (nxlaw : K.lookup P2 = none)
    (hne : P1 ≠ P2) :
    ∃ fd : FuncData, (∀ (s : Shared) (u : Value), BindsTo s fd ⟨[u], []⟩ [("_law_script", u)]) ∧ ∀ base : Heap, K.In base → base.Ns mainGlobals mg → TabB base mg qR P1 → TabB base mg qL P2 → FnG P w K mg base CX0 13 fa fd ["_law_script"] (spLaw K P1 P2) := by
  cases hfa.symm.trans (PySem.W.mg_of X G alaw)
  have T : Tx K mg := ⟨PySem.W.mg_none_of X G z0, PySem.W.mg_none_of X G z1, PySem.W.mg_none_of X G z2, PySem.W.mg_none_of X G z3, PySem.W.mg_none_of X G z4, PySem.W.mg_none_of X G z5, PySem.W.mg_none_of X G z6, PySem.W.mg_none_of X G z7, PySem.W.mg_none_of X G z8, PySem.W.mg_none_of X G z9, PySem.W.mg_none_of X G z10, PySem.W.mg_none_of X G z11, PySem.W.mg_none_of X G z12, PySem.W.mg_none_of X G z13, ⟨_, PySem.W.mg_of X G y0, ⟨_, rfl⟩⟩, ⟨_, PySem.W.mg_of X G y1, ⟨_, rfl⟩⟩, ⟨_, PySem.W.mg_of X G y2, ⟨_, rfl⟩⟩, ⟨_, PySem.W.mg_of X G y3, ⟨_, rfl⟩⟩⟩
  have Fis_name := fun_mk (st := s_is_name) lis_name cis_name kis_name
  have bis_name := Fis_name.binds (ps := ["value"]) fun _ _ _ _ _ _ us hl => match us, hl with | [_], _ => rfl
  have gis_name := PySem.W.mg_of X G ais_name
  have Fis_integer := fun_mk (st := s_is_integer) lis_integer cis_integer kis_integer
  have bis_integer := Fis_integer.binds (ps := ["value"]) fun _ _ _ _ _ _ us hl => match us, hl with | [_], _ => rfl
  have gis_integer := PySem.W.mg_of X G ais_integer
  have Fare_names := fun_mk (st := s_are_names) lare_names care_names kare_names
  have bare_names := Fare_names.binds (ps := ["values"]) fun _ _ _ _ _ _ us hl => match us, hl with | [_], _ => rfl
  have gare_names := PySem.W.mg_of X G aare_names
  have Fneed_numbers := fun_mk (st := s_need_numbers) lneed_numbers cneed_numbers kneed_numbers
  have bneed_numbers := Fneed_numbers.binds (ps := ["numbers"]) fun _ _ _ _ _ _ us hl => match us, hl with | [_], _ => rfl
  have gneed_numbers := PySem.W.mg_of X G aneed_numbers
  have CRVector : ClX.CRead K C_Vector (.type "type") := ⟨rdVector, rgVector⟩
  have FVector_names := fun_mk (st := s_Vector_names) lVector_names cVector_names kVector_names
  have bVector_names := FVector_names.binds (ps := ["self"]) fun _ _ _ _ _ _ us hl => match us, hl with | [_], _ => rfl
  have PVector_names : PropOf K C_Vector "names" pOVector_names fVector_names := ⟨oAVector_names, oGVector_names, oTVector_names, _, oRVector_names⟩
  have FVector___len__ := fun_mk (st := s_Vector___len__) lVector___len__ cVector___len__ kVector___len__
  have bVector___len__ := FVector___len__.binds (ps := ["self"]) fun _ _ _ _ _ _ us hl => match us, hl with | [_], _ => rfl
  have FVector___bool__ := fun_mk (st := s_Vector___bool__) lVector___bool__ cVector___bool__ kVector___bool__
  have bVector___bool__ := FVector___bool__.binds (ps := ["self"]) fun _ _ _ _ _ _ us hl => match us, hl with | [_], _ => rfl
  have FVector___eq__ := fun_mk (st := s_Vector___eq__) lVector___eq__ cVector___eq__ kVector___eq__
  have bVector___eq__ := FVector___eq__.binds (ps := ["self", "other"]) fun _ _ _ _ _ _ us hl => match us, hl with | [_, _], _ => rfl
  have FVector_of := fun_mk (st := s_Vector_of) lVector_of cVector_of kVector_of
  have bVector_of := FVector_of.binds (ps := ["cls", "numbers"]) fun _ _ _ _ _ _ us hl => match us, hl with | [_, _], _ => rfl
  have CMVector_of : ClX.CMet K C_Vector (.type "type") "of" pOVector_of fVector_of := ⟨oAVector_of, ⟨_, oRVector_of⟩, vVector_of⟩
  have Fvector_text := fun_mk (st := s_vector_text) lvector_text cvector_text kvector_text
  have bvector_text := Fvector_text.binds (ps := ["numbers"]) fun _ _ _ _ _ _ us hl => match us, hl with | [_], _ => rfl
  have gvector_text := PySem.W.mg_of X G avector_text
  have F_law_pen := fun_mk (st := s__law_pen) l_law_pen c_law_pen k_law_pen
  have b_law_pen := F_law_pen.binds (ps := ["_law_script"]) fun _ _ _ _ _ _ us hl => match us, hl with | [_], _ => rfl
  have g_law_pen := PySem.W.mg_of X G a_law_pen
  have F_law_draw := fun_mk (st := s__law_draw) l_law_draw c_law_draw k_law_draw
  have b_law_draw := F_law_draw.binds (ps := ["_law_pen_here", "_law_many"]) fun _ _ _ _ _ _ us hl => match us, hl with | [_, _], _ => rfl
  have g_law_draw := PySem.W.mg_of X G a_law_draw
  have F_law_pick := fun_mk (st := s__law_pick) l_law_pick c_law_pick k_law_pick
  have b_law_pick := F_law_pick.binds (ps := ["_law_pen_here", "_law_some"]) fun _ _ _ _ _ _ us hl => match us, hl with | [_, _], _ => rfl
  have g_law_pick := PySem.W.mg_of X G a_law_pick
  have F_law_word := fun_mk (st := s__law_word) l_law_word c_law_word k_law_word
  have b_law_word := F_law_word.binds (ps := ["_law_pen_here"]) fun _ _ _ _ _ _ us hl => match us, hl with | [_], _ => rfl
  have g_law_word := PySem.W.mg_of X G a_law_word
  have F_law_great := fun_mk (st := s__law_great) l_law_great c_law_great k_law_great
  have b_law_great := F_law_great.binds (ps := ["_law_pen_here", "_law_most"]) fun _ _ _ _ _ _ us hl => match us, hl with | [_, _], _ => rfl
  have g_law_great := PySem.W.mg_of X G a_law_great
  have F_law_whole := fun_mk (st := s__law_whole) l_law_whole c_law_whole k_law_whole
  have b_law_whole := F_law_whole.binds (ps := ["_law_pen_here"]) fun _ _ _ _ _ _ us hl => match us, hl with | [_], _ => rfl
  have g_law_whole := PySem.W.mg_of X G a_law_whole
  have F_law_box := fun_mk (st := s__law_box) l_law_box c_law_box k_law_box
  have b_law_box := F_law_box.binds (ps := ["_law_pen_here"]) fun _ _ _ _ _ _ us hl => match us, hl with | [_], _ => rfl
  have g_law_box := PySem.W.mg_of X G a_law_box
  have F_law_turned := fun_mk (st := s__law_turned) l_law_turned c_law_turned k_law_turned
  have b_law_turned := F_law_turned.binds (ps := ["_law_box_here"]) fun _ _ _ _ _ _ us hl => match us, hl with | [_], _ => rfl
  have g_law_turned := PySem.W.mg_of X G a_law_turned
  have F_law_refused := fun_mk (st := s__law_refused) l_law_refused c_law_refused k_law_refused
  have b_law_refused := F_law_refused.binds (ps := ["_law_ask"]) fun _ _ _ _ _ _ us hl => match us, hl with | [_], _ => rfl
  have g_law_refused := PySem.W.mg_of X G a_law_refused
  have F_law_spoilt := fun_mk (st := s__law_spoilt) l_law_spoilt c_law_spoilt k_law_spoilt
  have b_law_spoilt := F_law_spoilt.binds (ps := ["_law_pen_here", "_law_box_here"]) fun _ _ _ _ _ _ us hl => match us, hl with | [_, _], _ => rfl
  have g_law_spoilt := PySem.W.mg_of X G a_law_spoilt
  have F_law_told_right := fun_mk (st := s__law_told_right) l_law_told_right c_law_told_right k_law_told_right
  have b_law_told_right := F_law_told_right.binds (ps := ["_law_made", "_law_box_here"]) fun _ _ _ _ _ _ us hl => match us, hl with | [_, _], _ => rfl
  have g_law_told_right := PySem.W.mg_of X G a_law_told_right
  have FR := fun_mk (st := s__law_right) lR cR kR
  have bR := FR.binds (ps := ["_law_pen_here", "_law_box_here"]) fun _ _ _ _ _ _ us hl => match us, hl with | [_, _], _ => rfl
  have gR := PySem.W.mg_of X G aR
  have Flaw := fun_mk (st := s_law) llaw claw klaw
  have blaw := Flaw.binds (ps := ["_law_script"]) fun _ _ _ _ _ _ us hl => match us, hl with | [_], _ => rfl
  have glaw := PySem.W.mg_of X G alaw
  have N_own : NeF K C_Vector := ⟨neVector, noVector⟩
  have FVector___contains__ := fun_mk (st := s_Vector___contains__) lVector___contains__ cVector___contains__ kVector___contains__
  have bVector___contains__ := FVector___contains__.binds (ps := ["self", "name"]) fun _ _ _ _ _ _ us hl => match us, hl with | [_, _], _ => rfl
  have FVector___getitem__ := fun_mk (st := s_Vector___getitem__) lVector___getitem__ cVector___getitem__ kVector___getitem__
  have bVector___getitem__ := FVector___getitem__.binds (ps := ["self", "name"]) fun _ _ _ _ _ _ us hl => match us, hl with | [_, _], _ => rfl
  have FVector___str__ := fun_mk (st := s_Vector___str__) lVector___str__ cVector___str__ kVector___str__
  have bVector___str__ := FVector___str__.binds (ps := ["self"]) fun _ _ _ _ _ _ us hl => match us, hl with | [_], _ => rfl
  have FVector___repr__ := fun_mk (st := s_Vector___repr__) lVector___repr__ cVector___repr__ kVector___repr__
  have bVector___repr__ := FVector___repr__.binds (ps := ["self"]) fun _ _ _ _ _ _ us hl => match us, hl with | [_], _ => rfl
  have FVector_zero := fun_mk (st := s_Vector_zero) lVector_zero cVector_zero kVector_zero
  have bVector_zero := FVector_zero.binds (ps := []) fun _ _ _ _ _ _ us hl => match us, hl with | [], _ => rfl
  have SM_zero : SMet K C_Vector (.type "type") "zero" pOVector_zero fVector_zero := ⟨oAVector_zero, ⟨_, oRVector_zero⟩, kVector_zero⟩
  refine ⟨PySem.W.fnOf "law" "law" (defArgs s_law) (defBody s_law) (defScope s_law) .none kVlaw dclaw pmlaw anlaw (.ref qL) ctlaw, fun s u => .of_eq rfl, fun base _ _ TBR TBL => ?_⟩
  have cis_name : Cal P w K mg base 1 "is_name" s_is_name ["value"] (spS fun z => .bl (nameS z)) fis_name _ := ⟨Fis_name, ok_is_name Fis_name T, gis_name, bis_name⟩
  have cis_integer : Cal P w K mg base 1 "is_integer" s_is_integer ["value"] spInt1 fis_integer _ := ⟨Fis_integer, ok_is_integer Fis_integer T, gis_integer, bis_integer⟩
  have care_names : Cal P w K mg base 2 "are_names" s_are_names ["values"] spAreNames fare_names _ := ⟨Fare_names, ok_are_names Fare_names T cis_name, gare_names, bare_names⟩
  have cneed_numbers : Cal P w K mg base 3 "need_numbers" s_need_numbers ["numbers"] spNeed fneed_numbers _ := ⟨Fneed_numbers, ok_need_numbers Fneed_numbers T cis_integer care_names, gneed_numbers, bneed_numbers⟩
  have V_Vector : VcK K mg C_Vector := ⟨⟨pgVector, hdVector, poVector, saVector⟩, PySem.W.mg_of X G gCVector, nVectorheld, sfVector, iaVector, isg, ist, imVector, ieVector⟩
  have MK_Vector : Mk K C_Vector fVector___init__ := ⟨mkVector, iVector___init__, wVector___init__, kpVector⟩
  have I_Vector : FnKw P w K mg base CX0 4 fVector___init__ (spInitV C_Vector) := ok_Vector_init lVector___init__ cVector___init__ T V_Vector cneed_numbers
  have F_names : FnOk P w K mg base CX0 1 fVector_names _ ["self"] (spVnames C_Vector) := ok_Vector_names FVector_names T V_Vector
  have O_len : OpF P w K mg base 1 C_Vector "__len__" (spVlen C_Vector) fVector___len__ := ⟨EE.FnOk.r (ok_Vector_len FVector___len__ T V_Vector) bVector___len__, iVector___len__, wVector___len__, vVector___len__⟩
  have O_bool : OpF P w K mg base 1 C_Vector "__bool__" (spVbool C_Vector) fVector___bool__ := ⟨EE.FnOk.r (ok_Vector_bool FVector___bool__ T V_Vector) bVector___bool__, iVector___bool__, wVector___bool__, vVector___bool__⟩
  have O_eq : OpF P w K mg base 1 C_Vector "__eq__" (spVeq C_Vector) fVector___eq__ := ⟨EE.FnOk.r (ok_Vector_eq FVector___eq__ T V_Vector) bVector___eq__, iVector___eq__, wVector___eq__, vVector___eq__⟩
  have CF_of : FnR P w K mg base CX0 6 fVector_of (spVof C_Vector) := EE.FnOk.r (ok_Vector_of FVector_of T V_Vector MK_Vector I_Vector cneed_numbers) bVector_of
  have E_InvalidVector : Err0 K mg "InvalidVector" CI [.type "ValueError", .type "Exception", .type "BaseException", .type "object"] "ValueError.__new__" := ⟨exV xCI, PySem.W.mg_of X G gCI, qCI, kCI⟩
  have E_NetError : GlC mg "NetError" CN := ⟨PySem.W.mg_of X G gCN⟩
  have E_MissingError : GlC mg "MissingError" CM := ⟨PySem.W.mg_of X G gCM⟩
  have cisB : Cal P w K mg base 1 "is_integer" s_is_integer ["value"] (spB intT) fis_integer _ := ⟨Fis_integer, ok_is_integerB Fis_integer T, gis_integer, bis_integer⟩
  have cinB : Cal P w K mg base 1 "is_name" s_is_name ["value"] (spB nameT) fis_name _ := ⟨Fis_name, ok_is_nameB Fis_name T, gis_name, bis_name⟩
  have careB : Cal P w K mg base 2 "are_names" s_are_names ["values"] spAreB fare_names _ := ⟨Fare_names, ok_are_namesB Fare_names T cinB, gare_names, bare_names⟩
  have GNX := ok_need_numbersX (w := w) (base := base) (P := P) Fneed_numbers T E_InvalidVector cisB careB
  have I_VectorX : FnKw P w K mg base (L2.CX P w) 4 fVector___init__ (spInitVBad CI C_Vector) := ok_Vector_initX lVector___init__ cVector___init__ T V_Vector cneed_numbers GNX
  have CF_ofX : FnR P w K mg base (L2.CX P w) 6 fVector_of (spVofBad K CI C_Vector) := EE.FnOk.r (ok_Vector_ofX FVector_of T V_Vector MK_Vector I_Vector cneed_numbers GNX) bVector_of
  have CG_of : FnOk P w K mg base CX0 6 fVector_of _ ["cls", "numbers"] (spVof C_Vector) := ok_Vector_of FVector_of T V_Vector MK_Vector I_Vector cneed_numbers
  have kb_of := kbn_cls (p := "numbers") FVector_of (fun _ _ _ _ _ _ _ _ => rfl)
  have O_inA : OpF P w K mg base 1 C_Vector "__contains__" (spVinA C_Vector) fVector___contains__ := ⟨EE.FnOk.r (ok_Vector_inA FVector___contains__ T V_Vector) bVector___contains__, iVector___contains__, wVector___contains__, vVector___contains__⟩
  have O_getA : OpF P w K mg base 2 C_Vector "__getitem__" (spVgetA C_Vector) fVector___getitem__ := ⟨EE.FnOk.r (ok_Vector_getA FVector___getitem__ T V_Vector O_inA) bVector___getitem__, iVector___getitem__, wVector___getitem__, vVector___getitem__⟩
  have O_eqX : OpF P w K mg base 1 C_Vector "__eq__" (spVeqX K C_Vector) fVector___eq__ := ⟨EE.FnOk.r ((ok_Vector_eq FVector___eq__ T V_Vector).or (ok_Vector_eqF FVector___eq__ T V_Vector)) bVector___eq__, iVector___eq__, wVector___eq__, vVector___eq__⟩
  have cvector_text : Cal P w K mg base 1 "vector_text" s_vector_text ["numbers"] tSp fvector_text _ := ⟨Fvector_text, ok_vector_text Fvector_text T, gvector_text, bvector_text⟩
  have O_str : OpF P w K mg base 2 C_Vector "__str__" (spVstr C_Vector) fVector___str__ := ⟨EE.FnOk.r (ok_Vector_str FVector___str__ T V_Vector cvector_text) bVector___str__, iVector___str__, wVector___str__, vVector___str__⟩
  have O_repr : OpF P w K mg base 2 C_Vector "__repr__" (spVrepr C_Vector) fVector___repr__ := ⟨EE.FnOk.r (ok_Vector_repr FVector___repr__ T V_Vector cvector_text) bVector___repr__, iVector___repr__, wVector___repr__, vVector___repr__⟩
  have CF_zero : FnR P w K mg base CX0 6 fVector_zero (spVzero C_Vector) := EE.FnOk.r (ok_Vector_zero FVector_zero T V_Vector MK_Vector I_Vector) bVector_zero
  have c_law_pen : Cal P w K mg base 1 "_law_pen" s__law_pen ["_law_script"] (spPen K) f_law_pen _ := ⟨F_law_pen, ok__law_pen F_law_pen T, g_law_pen, b_law_pen⟩
  have c_law_draw : Cal P w K mg base 1 "_law_draw" s__law_draw ["_law_pen_here", "_law_many"] spDraw f_law_draw _ := ⟨F_law_draw, ok__law_draw F_law_draw T, g_law_draw, b_law_draw⟩
  have c_law_pick : Cal P w K mg base 2 "_law_pick" s__law_pick ["_law_pen_here", "_law_some"] spPickL f_law_pick _ := ⟨F_law_pick, ok__law_pick F_law_pick T c_law_draw, g_law_pick, b_law_pick⟩
  have c_law_word : Cal P w K mg base 3 "_law_word" s__law_word ["_law_pen_here"] spWordN f_law_word _ := ⟨F_law_word, ok__law_word F_law_word T c_law_draw c_law_pick, g_law_word, b_law_word⟩
  have c_law_great : Cal P w K mg base 2 "_law_great" s__law_great ["_law_pen_here", "_law_most"] spGreat f_law_great _ := ⟨F_law_great, ok__law_great F_law_great T c_law_draw, g_law_great, b_law_great⟩
  have c_law_whole : Cal P w K mg base 3 "_law_whole" s__law_whole ["_law_pen_here"] spWhole f_law_whole _ := ⟨F_law_whole, ok__law_whole F_law_whole T c_law_draw c_law_great, g_law_whole, b_law_whole⟩
  have c_law_box : Cal P w K mg base 4 "_law_box" s__law_box ["_law_pen_here"] spBox3 f_law_box _ := ⟨F_law_box, ok__law_box F_law_box T c_law_draw c_law_word c_law_whole, g_law_box, b_law_box⟩
  have c_law_turned : Cal P w K mg base 1 "_law_turned" s__law_turned ["_law_box_here"] spTurned f_law_turned _ := ⟨F_law_turned, ok__law_turned F_law_turned T, g_law_turned, b_law_turned⟩
  have c_law_spoilt : Cal P w K mg base 3 "_law_spoilt" s__law_spoilt ["_law_pen_here", "_law_box_here"] (spSpoilt K) f_law_spoilt _ := ⟨F_law_spoilt, ok__law_spoilt F_law_spoilt T c_law_draw c_law_pick, g_law_spoilt, b_law_spoilt⟩
  have c_told : CalG P w K mg base 6 "_law_told_right" s__law_told_right ["_law_made", "_law_box_here"] (spTold3 C_Vector) f_law_told_right _ := ⟨F_law_told_right, ok__law_told_right F_law_told_right T V_Vector O_inA O_getA O_len O_bool O_repr PVector_names F_names bVector_names, g_law_told_right, b_law_told_right⟩
  have nf : ∀ t ∈ ["str", "int", "bool", "NoneType", "list", "tuple", "dict"], PySem.W.notFirst K C_Vector (.type t) = true ∧ PySem.W.kitOne K (.type t) (.ref C_Vector) = some false := fun t ht => by
    simp only [List.mem_cons, List.not_mem_nil, or_false] at ht
    rcases ht with rfl | rfl | rfl | rfl | rfl | rfl | rfl
    · exact ⟨nfstr, kfstr⟩
    · exact ⟨nfint, kfint⟩
    · exact ⟨nfbool, kfbool⟩
    · exact ⟨nfNoneType, kfNoneType⟩
    · exact ⟨nflist, kflist⟩
    · exact ⟨nftuple, kftuple⟩
    · exact ⟨nfdict, kfdict⟩
  have c_right : CalG P w K mg base 12 "_law_right" s__law_right ["_law_pen_here", "_law_box_here"] (spRight3 P1 P2) fR _ := ⟨FR, ok__law_right lR cR T TBR hne V_Vector CRVector CMVector_of CF_of CG_of kb_of CF_ofX N_own O_eq O_eqX O_str PVector_names F_names bVector_names c_law_turned c_law_spoilt c_told F_law_refused b_law_refused g_law_refused E_NetError E_MissingError E_InvalidVector x1 x3 x4 nf, gR, bR⟩
  exact ok_law llaw claw T TBL hne V_Vector CRVector CMVector_of CF_of CF_ofX SM_zero CF_zero MK_Vector I_Vector I_VectorX O_eq O_getA c_law_pen c_law_whole c_law_pick c_law_box c_right c_told F_law_refused b_law_refused g_law_refused E_NetError E_MissingError E_InvalidVector x1 x3 x4 xD

end My
open PySem PySem.W PyProof.Rows
set_option maxRecDepth 100000 in
set_option maxHeartbeats 0 in
theorem PySem.Challenge.cw_evenends_k03_vectors_made_holds : PySem.Challenge.rw_evenends_k03_vectors_made.Holds := by
  w_on; o_law; k_head; (case hw => w_witness2)
  k_fill
  refine EE.walk_ofGT (l := PySem.Challenge.rw_evenends_k03_vectors_made) (n := 63) (k := 13) (x := "_law_script") rfl (by decide) rfl ⟨⟨rfl, by decide, by decide⟩, rfl⟩ (fun w h Y => PySem.W.km_in_of Y) ?F
  case F =>
    intro w mg fa h Y KX G hmg
    have hT := PySem.W.km_tabs_of Y
    refine' (fun z => ?fin) (My.all_mk (P := PySem.Challenge.rw_evenends_k03_vectors_made.prog) (w := w) KX G hmg ?ais_name ?ais_integer ?aare_names ?aneed_numbers ?gCVector ?avector_text ?a_law_pen ?a_law_draw ?a_law_pick ?a_law_word ?a_law_great ?a_law_whole ?a_law_box ?a_law_turned ?a_law_refused ?a_law_spoilt ?a_law_told_right ?aR ?alaw ?gCN ?gCM ?gCI ?iVector___init__ ?oAVector_names ?iVector___len__ ?iVector___bool__ ?iVector___eq__ ?oAVector_of ?iVector___contains__ ?iVector___getitem__ ?iVector___str__ ?iVector___repr__ ?oAVector_zero ?oRVector_names ?oRVector_of ?oRVector_zero ?lis_name ?lis_integer ?lare_names ?lneed_numbers ?lVector___init__ ?lVector_names ?lVector___len__ ?lVector___bool__ ?lVector___eq__ ?lVector_of ?lvector_text ?l_law_pen ?l_law_draw ?l_law_pick ?l_law_word ?l_law_great ?l_law_whole ?l_law_box ?l_law_turned ?l_law_refused ?l_law_spoilt ?l_law_told_right ?lR ?llaw ?lVector___contains__ ?lVector___getitem__ ?lVector___str__ ?lVector___repr__ ?lVector_zero ?cis_name ?kis_name ?cis_integer ?kis_integer ?care_names ?kare_names ?cneed_numbers ?kneed_numbers ?pgVector ?hdVector ?poVector ?saVector ?mkVector ?kpVector ?iaVector ?imVector ?ieVector ?isg ?ist ?nVectorheld ?rdVector ?rgVector ?sfVector ?cVector___init__ ?kVector___init__ ?wVector___init__ ?cVector_names ?kVector_names ?oGVector_names ?oTVector_names ?cVector___len__ ?kVector___len__ ?wVector___len__ ?vVector___len__ ?cVector___bool__ ?kVector___bool__ ?wVector___bool__ ?vVector___bool__ ?cVector___eq__ ?kVector___eq__ ?wVector___eq__ ?vVector___eq__ ?cVector_of ?kVector_of ?vVector_of ?cvector_text ?kvector_text ?c_law_pen ?k_law_pen ?c_law_draw ?k_law_draw ?c_law_pick ?k_law_pick ?c_law_word ?k_law_word ?c_law_great ?k_law_great ?c_law_whole ?k_law_whole ?c_law_box ?k_law_box ?c_law_turned ?k_law_turned ?c_law_refused ?k_law_refused ?c_law_spoilt ?k_law_spoilt ?c_law_told_right ?k_law_told_right ?cR ?kR ?qlR ?claw ?klaw ?qllaw ?xCI ?qCI ?kCI ?neVector ?noVector ?z0 ?z1 ?z2 ?z3 ?z4 ?z5 ?z6 ?z7 ?z8 ?z9 ?z10 ?z11 ?z12 ?z13 ?y0 ?y1 ?y2 ?y3 ?cVector___contains__ ?kVector___contains__ ?wVector___contains__ ?vVector___contains__ ?cVector___getitem__ ?kVector___getitem__ ?wVector___getitem__ ?vVector___getitem__ ?cVector___str__ ?kVector___str__ ?wVector___str__ ?vVector___str__ ?cVector___repr__ ?kVector___repr__ ?wVector___repr__ ?vVector___repr__ ?cVector_zero ?kVector_zero ?vxR ?vxlaw ?x1 ?x3 ?x4 ?xD ?nfstr ?kfstr ?nfint ?kfint ?nfbool ?kfbool ?nfNoneType ?kfNoneType ?nflist ?kflist ?nftuple ?kftuple ?nfdict ?kfdict ?pTR ?hxR ?pTlaw ?hxlaw ?nxR ?nxlaw ?hne)
    (case ais_name => k_is)
    (case ais_integer => k_is)
    (case aare_names => k_is)
    (case aneed_numbers => k_is)
    (case gCVector => k_is)
    (case avector_text => k_is)
    (case a_law_pen => k_is)
    (case a_law_draw => k_is)
    (case a_law_pick => k_is)
    (case a_law_word => k_is)
    (case a_law_great => k_is)
    (case a_law_whole => k_is)
    (case a_law_box => k_is)
    (case a_law_turned => k_is)
    (case a_law_refused => k_is)
    (case a_law_spoilt => k_is)
    (case a_law_told_right => k_is)
    (case aR => k_is)
    (case alaw => k_is)
    (case gCN => k_is)
    (case gCM => k_is)
    (case gCI => k_is)
    (case iVector___init__ => k_is)
    (case oAVector_names => k_is)
    (case iVector___len__ => k_is)
    (case iVector___bool__ => k_is)
    (case iVector___eq__ => k_is)
    (case oAVector_of => k_is)
    (case iVector___contains__ => k_is)
    (case iVector___getitem__ => k_is)
    (case iVector___str__ => k_is)
    (case iVector___repr__ => k_is)
    (case oAVector_zero => k_is)
    (case oRVector_names => k_is)
    (case oRVector_of => k_is)
    (case oRVector_zero => k_is)
    (case lis_name => k_is)
    (case lis_integer => k_is)
    (case lare_names => k_is)
    (case lneed_numbers => k_is)
    (case lVector___init__ => k_is)
    (case lVector_names => k_is)
    (case lVector___len__ => k_is)
    (case lVector___bool__ => k_is)
    (case lVector___eq__ => k_is)
    (case lVector_of => k_is)
    (case lvector_text => k_is)
    (case l_law_pen => k_is)
    (case l_law_draw => k_is)
    (case l_law_pick => k_is)
    (case l_law_word => k_is)
    (case l_law_great => k_is)
    (case l_law_whole => k_is)
    (case l_law_box => k_is)
    (case l_law_turned => k_is)
    (case l_law_refused => k_is)
    (case l_law_spoilt => k_is)
    (case l_law_told_right => k_is)
    (case lR => k_is)
    (case llaw => k_is)
    (case lVector___contains__ => k_is)
    (case lVector___getitem__ => k_is)
    (case lVector___str__ => k_is)
    (case lVector___repr__ => k_is)
    (case lVector_zero => k_is)
    (case cis_name => k_is)
    (case kis_name => k_is)
    (case cis_integer => k_is)
    (case kis_integer => k_is)
    (case care_names => k_is)
    (case kare_names => k_is)
    (case cneed_numbers => k_is)
    (case kneed_numbers => k_is)
    (case pgVector => k_is)
    (case hdVector => k_is)
    (case poVector => k_is)
    (case saVector => k_is)
    (case mkVector => k_is)
    (case kpVector => k_is)
    (case iaVector => k_is)
    (case imVector => kernel_rfl)
    (case ieVector => kernel_rfl)
    (case isg => k_is)
    (case ist => k_is)
    (case nVectorheld => k_is)
    (case rdVector => k_is)
    (case rgVector => k_is)
    (case sfVector => kernel_rfl)
    (case cVector___init__ => k_is)
    (case kVector___init__ => k_is)
    (case wVector___init__ => k_is)
    (case cVector_names => k_is)
    (case kVector_names => k_is)
    (case oGVector_names => k_is)
    (case oTVector_names => k_is)
    (case cVector___len__ => k_is)
    (case kVector___len__ => k_is)
    (case wVector___len__ => k_is)
    (case vVector___len__ => k_is)
    (case cVector___bool__ => k_is)
    (case kVector___bool__ => k_is)
    (case wVector___bool__ => k_is)
    (case vVector___bool__ => k_is)
    (case cVector___eq__ => k_is)
    (case kVector___eq__ => k_is)
    (case wVector___eq__ => k_is)
    (case vVector___eq__ => k_is)
    (case cVector_of => k_is)
    (case kVector_of => k_is)
    (case vVector_of => k_is)
    (case cvector_text => k_is)
    (case kvector_text => k_is)
    (case c_law_pen => k_is)
    (case k_law_pen => k_is)
    (case c_law_draw => k_is)
    (case k_law_draw => k_is)
    (case c_law_pick => k_is)
    (case k_law_pick => k_is)
    (case c_law_word => k_is)
    (case k_law_word => k_is)
    (case c_law_great => k_is)
    (case k_law_great => k_is)
    (case c_law_whole => k_is)
    (case k_law_whole => k_is)
    (case c_law_box => k_is)
    (case k_law_box => k_is)
    (case c_law_turned => k_is)
    (case k_law_turned => k_is)
    (case c_law_refused => k_is)
    (case k_law_refused => k_is)
    (case c_law_spoilt => k_is)
    (case k_law_spoilt => k_is)
    (case c_law_told_right => k_is)
    (case k_law_told_right => k_is)
    (case cR => k_is)
    (case kR => k_is)
    (case qlR => k_is)
    (case claw => k_is)
    (case klaw => k_is)
    (case qllaw => k_is)
    (case xCI => kernel_rfl)
    (case qCI => kernel_rfl)
    (case kCI => k_is)
    (case neVector => k_is)
    (case noVector => kernel_rfl)
    (case z0 => k_is)
    (case z1 => k_is)
    (case z2 => k_is)
    (case z3 => k_is)
    (case z4 => k_is)
    (case z5 => k_is)
    (case z6 => k_is)
    (case z7 => k_is)
    (case z8 => k_is)
    (case z9 => k_is)
    (case z10 => k_is)
    (case z11 => k_is)
    (case z12 => k_is)
    (case z13 => k_is)
    (case y0 => k_is)
    (case y1 => k_is)
    (case y2 => k_is)
    (case y3 => k_is)
    (case cVector___contains__ => k_is)
    (case kVector___contains__ => k_is)
    (case wVector___contains__ => k_is)
    (case vVector___contains__ => k_is)
    (case cVector___getitem__ => k_is)
    (case kVector___getitem__ => k_is)
    (case wVector___getitem__ => k_is)
    (case vVector___getitem__ => k_is)
    (case cVector___str__ => k_is)
    (case kVector___str__ => k_is)
    (case wVector___str__ => k_is)
    (case vVector___str__ => k_is)
    (case cVector___repr__ => k_is)
    (case kVector___repr__ => k_is)
    (case wVector___repr__ => k_is)
    (case vVector___repr__ => k_is)
    (case cVector_zero => k_is)
    (case kVector_zero => k_is)
    (case vxR => exact rfl)
    (case vxlaw => exact rfl)
    (case x1 => kernel_rfl)
    (case x3 => kernel_rfl)
    (case x4 => kernel_rfl)
    (case xD => kernel_rfl)
    (case nfstr => kernel_rfl)
    (case kfstr => kernel_rfl)
    (case nfint => kernel_rfl)
    (case kfint => kernel_rfl)
    (case nfbool => kernel_rfl)
    (case kfbool => kernel_rfl)
    (case nfNoneType => kernel_rfl)
    (case kfNoneType => kernel_rfl)
    (case nflist => kernel_rfl)
    (case kflist => kernel_rfl)
    (case nftuple => kernel_rfl)
    (case kftuple => kernel_rfl)
    (case nfdict => kernel_rfl)
    (case kfdict => kernel_rfl)
    (case pTR => first | exact hT _ (List.mem_cons_self) | exact hT _ (List.mem_cons_of_mem _ List.mem_cons_self) | exact hT _ (List.mem_cons_of_mem _ (List.mem_cons_of_mem _ List.mem_cons_self)))
    (case hxR => kernel_rfl)
    (case pTlaw => first | exact hT _ (List.mem_cons_self) | exact hT _ (List.mem_cons_of_mem _ List.mem_cons_self) | exact hT _ (List.mem_cons_of_mem _ (List.mem_cons_of_mem _ List.mem_cons_self)))
    (case hxlaw => kernel_rfl)
    (case nxR => kernel_rfl)
    (case nxlaw => kernel_rfl)
    (case hne => decide)
    case fin =>
      obtain ⟨fd, bd, F⟩ := z
      refine ⟨fd, [(_, _), (_, _)], My.spLaw _ _ _, fun p hp => ?_, fun p hp => ?_, fun p hp => ?_, bd, fun H a ns hl ht hs => ⟨a, ns, rfl, hs, hl, fun p hp => ?_, fun _ => rfl⟩, fun base KB GB TB => F base KB GB (TB _ List.mem_cons_self) (TB _ (List.mem_cons_of_mem _ (List.mem_singleton.mpr rfl)))⟩
      · rcases List.mem_cons.mp hp with z | z
        · cases z
          first | exact hT _ (List.mem_cons_self) | exact hT _ (List.mem_cons_of_mem _ List.mem_cons_self) | exact hT _ (List.mem_cons_of_mem _ (List.mem_cons_of_mem _ List.mem_cons_self))
        · cases List.mem_singleton.mp z
          first | exact hT _ (List.mem_cons_self) | exact hT _ (List.mem_cons_of_mem _ List.mem_cons_self) | exact hT _ (List.mem_cons_of_mem _ (List.mem_cons_of_mem _ List.mem_cons_self))
      · rcases List.mem_cons.mp hp with z | z
        · cases z
          kernel_rfl
        · cases List.mem_singleton.mp z
          kernel_rfl
      · rcases List.mem_cons.mp hp with z | z
        · cases z
          exact PySem.W.codeHd_of_K KX (by kernel_rfl)
        · cases List.mem_singleton.mp z
          exact PySem.W.codeHd_of_K KX (by kernel_rfl)
      · rcases List.mem_cons.mp hp with z | z
        · cases z
          exact ⟨_, ht _ List.mem_cons_self, trivial, fun p' cv hcv => by cases hcv⟩
        · cases List.mem_singleton.mp z
          exact ⟨_, ht _ (List.mem_cons_of_mem _ (List.mem_singleton.mpr rfl)), trivial, fun p' cv hcv => by cases hcv⟩

