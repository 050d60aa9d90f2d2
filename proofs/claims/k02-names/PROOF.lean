import PyProof.Rows.All
import Wide.All
import OpenK.AllK
import Wide.FinOn
import PyProof.ReprRoads
import HandS.ForMost
import HandS.ForExc
import HandS.IsInst
import HandS.StrMore
import HandS.RaiseMore
import HandS.Wide
import HandS.Defaults
import HandS.Codes
import HandS.Evl
import PyProof.Rows.RegStrFacts
import PyProof.Rows.ReprOcc
import PySem.Challenge.RW_evenends_k02_names_and_integers_known
set_option Elab.async false
set_option linter.all false
set_option maxRecDepth 100000
set_option maxHeartbeats 4000000
/-! Own layer: one-step readings, heaps that grow, repr of data, guards. -/
namespace EE
open PySem PySem.Spec PyProof.Rows L2

/-! ### heaps -/
/-- all but what stands at p is as it was -/
def But (p : Addr) (H H' : Hp) : Prop := ∀ b o, b ≠ p → H b = some o → H' b = some o
theorem But.refl (p : Addr) (H : Hp) : But p H H := fun _ _ _ h => h
theorem _root_.L2.Same.but {H H' : Hp} (p : Addr) (s : Same H H') : But p H H' := fun b o _ h => s b o h
theorem But.trans {p : Addr} {H H1 H2 : Hp} (a : But p H H1) (b : But p H1 H2) : But p H H2 := fun c o n h => b c o n (a c o n h)
theorem But.then {p : Addr} {H H1 H2 : Hp} (a : But p H H1) (b : Same H1 H2) : But p H H2 := fun c o n h => b c o (a c o n h)
theorem _root_.L2.Same.thenBut {p : Addr} {H H1 H2 : Hp} (a : Same H H1) (b : But p H1 H2) : But p H H2 := fun c o n h => b c o n (a c o h)
theorem same_new {H : Hp} {p : Addr} {o : HO} (h : H p = none) : Same H (upd H p o) := fun b x e => by
  rw [upd_ne (ne_of_none e h)]
  exact e
theorem but_upd {H : Hp} {p : Addr} {o : HO} : But p H (upd H p o) := fun b x n e => by
  rw [upd_ne n]
  exact e
theorem But.seq {K : PySem.W.Frag} {p a : Addr} {H H' : Hp} {xs : List V} (e : But p H H') (n : a ≠ p) (h : SqL K H a xs) : SqL K H' a xs := by
  rcases h with (h | ⟨o, h⟩) | h
  · exact .inl (.inl (e _ _ n h))
  · exact .inl (.inr ⟨o, e _ _ n h⟩)
  · exact .inr h

/-! ### one step of a reading -/
/-- a new list, a new tuple -/
def NewL (xs : List V) (H : Hp) (Q : VK) : Prop := xs.length ≤ sizeLine ∧ ∀ p, H p = none → Q (.ref p) (upd H p (.lst xs))
def NewT (xs : List V) (H : Hp) (Q : VK) : Prop := xs.length ≤ sizeLine ∧ ∀ p, H p = none → Q (.ref p) (upd H p (.tup xs))
theorem new_lst {xs : List V} {H : Hp} {Q : VK} (hl : xs.length ≤ sizeLine) (h : ∀ p H2, H p = none → Same H H2 → H2 p = some (.lst xs) → Q (.ref p) H2) : NewL xs H Q := ⟨hl, fun p hp => h p _ hp (same_new hp) upd_same⟩
theorem new_tup {xs : List V} {H : Hp} {Q : VK} (hl : xs.length ≤ sizeLine) (h : ∀ p H2, H p = none → Same H H2 → H2 p = some (.tup xs) → Q (.ref p) H2) : NewT xs H Q := ⟨hl, fun p hp => h p _ hp (same_new hp) upd_same⟩
section
variable {K : PySem.W.Frag} {σ : L2.St} {H : Hp} {Q : VK} {D : Ends} {ta tb tc te : TE} {t u : TS} {c d : TT} {r r' : R2} {v w : V}
theorem rd_var {i : Nat} (h : σ[i]? = some (some v)) (q : Q v H) : tVar i σ H Q := ⟨v, h, q⟩
theorem rd_c (q : Q v H) : tC v σ H Q := q
theorem rd_op (h : ta σ H fun x H1 => tb σ H1 fun y H2 => r x y H2 Q) : tOp r ta tb σ H Q := h
theorem rd_un {r : V → Hp → VK → Prop} (h : ta σ H fun x H1 => r x H1 Q) : tUn r ta σ H Q := h
theorem rd_chain (h : ta σ H fun x H1 => tb σ H1 fun y H2 => r x y H2 fun z H3 => ∃ k, z = .bl k ∧ (if k = true then tc σ H3 fun w' H4 => r' y w' H4 Q else Q (.bl false) H3)) : tChain r r' ta tb tc σ H Q := h
theorem rd_seq (h : t { D with nx := u D } σ H) : tSeq t u D σ H := h
theorem rd_asg {g : TG} (h : te σ H fun x H1 => g x σ H1 D.nx) : tAsg te g D σ H := h
theorem rd_name {i : Nat} {Q : L2.St → Hp → Prop} (h : Q (σ.set i (some v)) H) : gName i v σ H Q := h
theorem rd_ret (h : te σ H D.rt) : tRet te D σ H := h
theorem rd_retN (h : D.rt .non H) : tRetN D σ H := h
theorem rd_drop (h : te σ H fun _ H1 => D.nx σ H1) : tDrop te D σ H := h
theorem rd_next (h : D.nx σ H) : tNext D σ H := h
theorem rd_ifS (h : c σ H fun b H1 => if b = true then t D σ H1 else u D σ H1) : tIfS c t u D σ H := h
theorem rd_ifE (h : c σ H fun b H1 => if b = true then ta σ H1 Q else tb σ H1 Q) : tIf c ta tb σ H Q := h
theorem rd_test {Q : Bool → Hp → Prop} (h : te σ H fun x H' => ∃ k, x = .bl k ∧ Q k H') : tTest te σ H Q := h
theorem rd_B {Q : Bool → Hp → Prop} (h : te σ H fun x H' => ∃ k, x = .bl k ∧ Q k H') : tB te σ H Q := h
theorem rd_and {Q : Bool → Hp → Prop} (h : c σ H fun k H1 => if k = true then d σ H1 Q else Q false H1) : tAnd c d σ H Q := h
theorem rd_or {Q : Bool → Hp → Prop} (h : c σ H fun k H1 => if k = true then Q true H1 else d σ H1 Q) : tOr c d σ H Q := h
theorem rd_not {Q : Bool → Hp → Prop} (h : c σ H fun k H1 => Q (!k) H1) : tNot c σ H Q := h
theorem rd_andV (h : ta σ H fun x H1 => ∃ c, x = .bl c ∧ if c = true then tb σ H1 Q else Q (.bl false) H1) : tAndV ta tb σ H Q := h
theorem rd_orV (h : ta σ H fun x H1 => ∃ c, x = .bl c ∧ if c = true then Q (.bl true) H1 else tb σ H1 Q) : tOrV ta tb σ H Q := h
theorem rd_notV (h : ta σ H fun x H1 => ∃ c, x = .bl c ∧ Q (.bl (!c)) H1) : tNotV ta σ H Q := h
theorem rd_nil {Q : List V → Hp → Prop} (h : Q [] H) : tNil σ H Q := h
theorem rd_cons {tr : TA} {Q : List V → Hp → Prop} (h : ta σ H fun x H1 => tr σ H1 fun xs H2 => Q (x :: xs) H2) : tCons ta tr σ H Q := h
theorem rd_call {sp : Sp} {dvs : List V} {E : XK} {tr : TA} (h : tr σ H fun vs H1 => sp (vs ++ dvs) H1 Q E) : tCall sp dvs E tr σ H Q := h
theorem rd_CB {r : List V → Hp → VK → Prop} {tr : TA} (h : tr σ H fun vs H1 => r vs H1 Q) : tCB r tr σ H Q := h
theorem rd_bl {b : Bool} {P : Bool → Prop} (h : P b) : ∃ k, V.bl b = V.bl k ∧ P k := ⟨b, rfl, h⟩
theorem rd_gsub {to ti : TE} {ts : TSet} {Q : L2.St → Hp → Prop} (h : to σ H fun o H1 => ti σ H1 fun i H2 => ts o i v H2 fun H3 => Q σ H3) : gSub to ti ts v σ H Q := h
theorem rd_part {Q : Option Int → Hp → Prop} (h : te σ H fun x H1 => ∃ i, x = .int i ∧ Q (some i) H1) : tPart te σ H Q := h
theorem rd_noPart {Q : Option Int → Hp → Prop} (h : Q none H) : tNoPart σ H Q := h
theorem rd_sl {r : V → Option Int → Option Int → Hp → VK → Prop} {tl th : TO} (h : te σ H fun x H1 => tl σ H1 fun l H2 => th σ H2 fun u H3 => r x l u H3 Q) : tSl r te tl th σ H Q := h
theorem rd_tup {tr : TA} (h : tr σ H fun xs H1 => NewT xs H1 Q) : tTup tr σ H Q := h
theorem rd_lst {tr : TA} (h : tr σ H fun xs H1 => NewL xs H1 Q) : tLst tr σ H Q := h
theorem rd_bm {T : String} {r : V → List V → Hp → VK → Prop} {tr : TA} (h : ta σ H fun x H1 => tyV K T x H1 ∧ tr σ H1 fun xs H2 => r x xs H2 Q) : tBM K T r ta tr σ H Q := h
/-! operators on values -/
theorem rd_I0 {g : Int → Int → V} {i j : Int} (q : Q (g i j) H) : rI0 g (.int i) (.int j) H Q := ⟨i, j, rfl, rfl, q⟩
theorem rd_I {C : Int → Int → Prop} {g : Int → Int → V} {i j : Int} (hc : C i j) (q : Q (g i j) H) : rI C g (.int i) (.int j) H Q := ⟨i, j, rfl, rfl, hc, q⟩
theorem rd_eqI {i j : Int} (q : Q (.bl (decide (i = j))) H) : rEq (.int i) (.int j) H Q := ⟨rfl, by
  have e : decide (V.int i = V.int j) = decide (i = j) := by simp
  rw [e]; exact q⟩
theorem rd_neI {i j : Int} (q : Q (.bl (!decide (i = j))) H) : rNe (.int i) (.int j) H Q := ⟨rfl, by
  have e : decide (V.int i = V.int j) = decide (i = j) := by simp
  rw [e]; exact q⟩
theorem rd_eqS {i j : Str} (q : Q (.bl (decide (i = j))) H) : rEq (.str i) (.str j) H Q := ⟨rfl, by
  have e : decide (V.str i = V.str j) = decide (i = j) := by simp
  rw [e]; exact q⟩
theorem rd_neS {i j : Str} (q : Q (.bl (!decide (i = j))) H) : rNe (.str i) (.str j) H Q := ⟨rfl, by
  have e : decide (V.str i = V.str j) = decide (i = j) := by simp
  rw [e]; exact q⟩
theorem rd_neg {i : Int} (q : Q (.int (-i)) H) : rU (fun i => V.int (-i)) (.int i) H Q := ⟨i, rfl, q⟩
theorem rd_ite {b : Bool} {A B : Prop} (h1 : b = true → A) (h2 : b = false → B) : if b = true then A else B := by
  cases b with
  | true => exact iteT (h1 rfl)
  | false => exact iteF (h2 rfl)
theorem rd_iteT {b : Bool} {A B : Prop} (hb : b = true) (h1 : A) : if b = true then A else B := by rw [hb]; exact iteT h1
theorem rd_iteF {b : Bool} {A B : Prop} (hb : b = false) (h1 : B) : if b = true then A else B := by rw [hb]; exact iteF h1
end

/-! ### guards: repr asks that nothing is being shown. A promise at such places alone -/
structure RoomG (k : Nat) (A : Around) : Prop where
  r : Room k A
  g : A.guards = some []
theorem RoomG.mono {j k : Nat} {A : Around} (r : RoomG k A) (h : j ≤ k) : RoomG j A := ⟨r.r.mono h, r.g⟩
theorem RoomG.deeper {k : Nat} {A : Around} (r : RoomG (k + 1) A) (env : Env) : RoomG k (A.deeper env) := ⟨r.r.deeper env, r.g⟩
section
variable {P : Program} {w : World} {K : PySem.W.Frag} {mg : Str → Option Value} {base : Heap}
/-- the run of a def, as a promise tells it, around A -/
def RunsAt (P : Program) (w : World) (K : PySem.W.Frag) (mg : Str → Option Value) (base : Heap) (CX : CXT) (f : Addr) (fd : FuncData) (ps : List Str) (sp : Sp) (A : Around) : Prop :=
  ∀ (out : List Env) (sh : Shared) (H : Hp) (ar : Args) (ws : List Value) (vs : List V) (Q : VK) (E : XK), Env0 P w K mg base A out sh H → BindsTo sh fd ar (ps.zip ws) → Vals vs ws → sp vs H Q E →
    codeAny (model P w) A (Code.call (Value.ref f) ar) (CR CX out P w H sh Q E) sh
structure FnG (P : Program) (w : World) (K : PySem.W.Frag) (mg : Str → Option Value) (base : Heap) (CX : CXT) (k : Nat) (f : Addr) (fd : FuncData) (ps : List Str) (sp : Sp) : Prop where
  many : ∀ vs H Q E, sp vs H Q E → vs.length = ps.length
  runs : ∀ A : Around, RoomG k A → RunsAt P w K mg base CX f fd ps sp A
theorem FnG.of {CX : CXT} {k : Nat} {f : Addr} {fd : FuncData} {ps : List Str} {sp : Sp} (F : FnOk P w K mg base CX k f fd ps sp) : FnG P w K mg base CX k f fd ps sp :=
  ⟨F.len, fun A g out sh H ar ws vs Q E => F.run A out sh H ar ws vs Q E g.r⟩
/-- what a body's end is to the caller -/
theorem body_end {CX : CXT} {N : List Str} {qual : Str} {scope : Scope} {f : Addr} {cd : Value} {A : Around} {out : List Env} {sh t : Shared} {H : Hp} {Q : VK} {E : XK} {fl : Flow}
    (h : SP (cxOf CX P w K mg base N qual scope f cd A out sh H E) [] { nx := fun _ H' => Q .non H', rt := Q } fl t) : CR CX out P w H sh Q E (.ok (.ret (match fl with | .ret v => v | _ => Value.none))) t := by
  match fl, h with
  | .ret u, ⟨v, _, H1, J, rv, q⟩ => exact ⟨v, H1, J.os, J.bare, J.base, J.hok, rv, q⟩
  | .next, ⟨_, H1, J, q⟩ => exact ⟨.non, H1, J.os, J.bare, J.base, J.hok, rfl, q⟩
  | .brk, ⟨_, _, _, q⟩ => exact q.elim
  | .cont, ⟨_, _, _, q⟩ => exact q.elim
theorem okG {x qual : Str} {st : Stmt} {f : Addr} {fd : FuncData} {N ps : List Str} {k : Nat} {sp : Sp} (F : Fun K x qual st f fd) (S : FnScope N ps (defScope st)) (many : ∀ vs H Q E, sp vs H Q E → vs.length = ps.length)
    (hb : ∀ (cdv : Value) (A : Around) (out : List Env) (sh : Shared) (H : Hp) (vs : List V) (Q : VK) (E : XK), RoomG k (A.deeper (envOfC qual (defScope st) sh.heap.objs.size f cdv)) → sp vs H Q E →
      ∃ t, PSs (cxOf CX0 P w K mg base N qual (defScope st) f cdv A out sh H E).nox (defBody st) t ∧ t { nx := fun _ H' => Q .non H', rt := Q } (start N vs) H) : FnG P w K mg base CX0 (k + 1) f fd ps sp := by
  obtain ⟨_, _, kV, doc, pm, an, cdv, ct, _, rfl, hf, hcode⟩ := F.ex
  refine ⟨many, fun A room out sh H ar ws vs Q E e0 bd rel hp => ?_⟩
  have kin : K.In sh.heap := e0.mod.kin.keeps fun b o z => (e0.bs b o z).1
  have nol := e0.mod.nolimit.keeps (h' := sh.heap) fun b o z => (e0.bs b o z).1
  refine codeAny_call_function room.r.depth (kin _ _ hf) rfl S.co S.gen rfl (PySem.W.codeRec_of kin hcode) (bd _ _ _ _ ?_)
  have kinds : ∀ y ∈ ps.zip ws, (defScope st).names.lookup y.1 = some .local ∨ ((defScope st).names.lookup y.1 = some .cell ∧ ((cellsFrom (sh.heap.objs.size + 1) (defScope st).names []).lookup y.1).isSome = true) := by
    rintro ⟨n, v⟩ hy
    exact (S.par n (List.of_mem_zip hy).1).imp id fun q => ⟨q, PySem.W.cellsFrom_some _ _ _ (Or.inl q)⟩
  refine wpAny_newFunctionEnv_cells S.kind kinds fun env henv t1 x1 => ?_
  cases henv
  refine ⟨nol.keeps x1.toInCall.keep, codeAny_func ?_⟩
  obtain ⟨rd, der, hq⟩ := hb cdv A out sh H vs Q E (room.deeper _) hp
  refine wpAny_mono (der.nox.run [] t1 (start N vs) H _ (inv_start S room.r.hd e0 (many _ _ _ _ hp) rel x1) hq) (fun fl t h => ?_) fun _ _ z => z
  cases fl with
  | ret u => exact body_end h
  | next => exact body_end h
  | brk => exact body_end h
  | cont => exact body_end h
end
section
variable {X : Cx} {CX : CXT} {k : Nat} {f : Addr} {fd : FuncData} {ps : List Str} {sp : Sp} {dvs : List V} {ds : List Value} {E : XK} {x : Str} {p pos : Pos} {e : Expr} {es : List Expr} {t : TA}
/-- f(e, ..), f's promise one at places where nothing is being shown -/
theorem pe_callG (F : FnG X.prog X.w X.K X.mg X.base CX k f fd ps sp) (room : RoomG k X.A) (hg : Gl X x) (hm : X.mg x = some (.ref f)) (hk : PySem.W.keepIn X.K (.ref f) = true) (hb : Binds X.K fd ps ds) (hd : Vals dvs ds) (hx : Passes CX X E)
    (ar : PA X (e :: es) t) (ndb : (x == ("__debug__" : Str)) = false := by decide) (hst : starEach (e :: es) X.env = (false, eval e X.env) :: starEach es X.env := by rfl) (plain : (backTo pos (starEach es X.env)).any (·.1) = false := by rfl) :
    PE X (.Call (.Name x p) (e :: es) [] pos) (tCall sp dvs E t) := ⟨fun pins sh σ H Q I h => by
  refine wpAny_Call_Name_kw (ld_glob I hg hm (PySem.W.callWith_K (h₀ := X.base) I.ok.mod.kin hk (thn (ar.run pos pins sh σ H _ I h) ?_) hst plain) ndb)
  rintro ws t1 ⟨vs, H1, I1, rel, hp⟩
  have rel2 := rel.append hd
  refine ⟨I1.kIn, wpAny_call (codeAny_mono (F.runs X.A room X.stack t1 H1 ⟨ws, []⟩ (ws ++ ds) (vs ++ dvs) Q E I1.env0 (hb t1 ws I1.kIn (rel2.length.symm.trans (F.many _ _ _ _ hp))) rel2 hp) fun r t2 z => ?_)⟩
  match r, z with
  | .error _, z => exact hx pins σ H1 t1 _ t2 I1 z
  | .ok (.ret _), z => exact I1.after z
  | .ok .next, z => exact z.elim
  | .ok .brk, z => exact z.elim
  | .ok .cont, z => exact z.elim⟩
end

/-! ### repr of data -/
theorem call_repr {X : Cx} (hg : X.A.guards = some []) (hu : X.A.units + 64 < cLine) : CallR X (.builtin "repr") (fun xs H Q => ∃ (a : Addr) (d : PyData), xs = [.ref a] ∧ Dp X.K H (.ref a) d ∧ d.showable = true ∧ d.hasDict = false ∧ d.depth ≤ 60 ∧ d.shown.length ≤ sizeLine ∧ Q (.str d.shown) H) := by
  intro pins s σ H xs us Q I r h
  obtain ⟨a, d, rfl, hd, h1, h2, h3, h4, q⟩ := h
  obtain ⟨u, rfl, hu'⟩ := vals1 r
  obtain rfl : u = Value.ref a := hu'
  obtain ⟨as, rr⟩ := Dp.reads I d (.ref a) (.ref a) hd rfl
  refine repr_of_reads' (h₀ := s.heap) rr h1 (fun e => absurd e (by rw [h2]; decide)) hg (by omega) (fun _ _ e => e) (fun h' u' tk k => ?_) h4
  exact ⟨.str _, H, I.kept (t' := tk) k, ⟨_, rfl⟩, q⟩
end EE

namespace EE
open PySem PySem.Spec PyProof.Rows L2
section
variable {K : PySem.W.Frag} {σ : L2.St} {H : Hp} {Q : VK}
theorem rd_add {i j : Int} (q : Q (.int (i + j)) H) : rI0 (fun i j => .int (i + j)) (.int i) (.int j) H Q := ⟨i, j, rfl, rfl, q⟩
theorem rd_sub {i j : Int} (q : Q (.int (i - j)) H) : rI0 (fun i j => .int (i - j)) (.int i) (.int j) H Q := ⟨i, j, rfl, rfl, q⟩
theorem rd_lt {i j : Int} (q : Q (.bl (decide (i < j))) H) : rI0 (fun i j => .bl (decide (i < j))) (.int i) (.int j) H Q := ⟨i, j, rfl, rfl, q⟩
theorem rd_le {i j : Int} (q : Q (.bl (decide (i ≤ j))) H) : rI0 (fun i j => .bl (decide (i ≤ j))) (.int i) (.int j) H Q := ⟨i, j, rfl, rfl, q⟩
theorem rd_gt {i j : Int} (q : Q (.bl (decide (j < i))) H) : rI0 (fun i j => .bl (decide (j < i))) (.int i) (.int j) H Q := ⟨i, j, rfl, rfl, q⟩
theorem rd_ge {i j : Int} (q : Q (.bl (decide (j ≤ i))) H) : rI0 (fun i j => .bl (decide (j ≤ i))) (.int i) (.int j) H Q := ⟨i, j, rfl, rfl, q⟩
theorem rd_mul {i j : Int} (q : Q (.int (i * j)) H) (c : CMul i j) : rI CMul (fun i j => .int (i * j)) (.int i) (.int j) H Q := ⟨i, j, rfl, rfl, c, q⟩
theorem rd_mod {i j : Int} (q : Q (.int (i % j)) H) (c : 0 < j) : rI (fun _ j => 0 < j) (fun i j => .int (i % j)) (.int i) (.int j) H Q := ⟨i, j, rfl, rfl, c, q⟩
theorem rd_fdiv {i j : Int} (q : Q (.int (i / j)) H) (c : CDiv i j) : rI CDiv (fun i j => .int (i / j)) (.int i) (.int j) H Q := ⟨i, j, rfl, rfl, c, q⟩
theorem rd_pow {i j : Int} (q : Q (.int (i ^ j.toNat)) H) (c : CPow i j) : rI CPow (fun i j => .int (i ^ j.toNat)) (.int i) (.int j) H Q := ⟨i, j, rfl, rfl, c, q⟩
theorem rd_ixL {p : Addr} {xs : List V} {i : Int} {v : V} (h : SqL K H p xs) (e : atI xs i = some v) (q : Q v H) : rIxL K (.ref p) (.int i) H Q := ⟨p, xs, i, v, rfl, rfl, h, e, q⟩
theorem rd_setL {p : Addr} {xs : List V} {k : Int} {j : Nat} {v : V} {Q : Hp → Prop} (h : H p = some (.lst xs)) (e : ixN xs.length k = some j) (q : Q (upd H p (.lst (xs.set j v)))) : rSetL (.ref p) (.int k) v H Q := ⟨p, xs, k, j, rfl, rfl, h, e, q⟩
theorem sqL_of {p : Addr} {xs : List V} (h : H p = some (.lst xs)) : SqL K H p xs := .inl (.inl h)
theorem sqT_of {p : Addr} {xs : List V} (h : H p = some (.tup xs)) : SqT K H p xs := .inl (.inl h)
theorem atI_lt {xs : List V} {i : Int} (h0 : 0 ≤ i) (h : i < xs.length) : ∃ (j : Nat) (hj : j < xs.length), (j : Int) = i ∧ atI xs i = some (xs[j]) := by
  refine ⟨i.toNat, by omega, by omega, ?_⟩
  unfold atI ixN
  rw [if_pos h0, if_pos h]
  show xs[i.toNat]? = _
  exact List.getElem?_eq_getElem (by omega)
theorem dp_nil {p : Addr} (h : H p = some (.lst [])) : Dp K H (.ref p) (.list []) := .lst (sqL_of h) .nil
theorem dp_ints : ∀ {ns : List Int}, DpAll K H (ns.map V.int) (ns.map PyData.int)
  | [] => .nil
  | n :: ns => .cons (.int n) dp_ints
end
/-- a pen at p, its cells at q: the index of the next one (at most n), what is left of a great one -/
def PenAt (n : Nat) (H : Hp) (p q : Addr) : Prop := ∃ (ns : List Int) (a r : Int), H p = some (.lst [.ref q, .int a, .int r]) ∧ H q = some (.lst (ns.map V.int)) ∧ 0 ≤ a ∧ a ≤ n ∧ ns.length ≤ 63
theorem PenAt.keep {n : Nat} {H H' : Hp} {p q : Addr} (h : PenAt n H p q) (s : Same H H') : PenAt n H' p q := by
  obtain ⟨ns, a, r, h1, h2, h3⟩ := h
  exact ⟨ns, a, r, s _ _ h1, s _ _ h2, h3⟩
theorem PenAt.mono {n m : Nat} {H : Hp} {p q : Addr} (h : PenAt n H p q) (s : n ≤ m) : PenAt m H p q := by
  obtain ⟨ns, a, r, h1, h2, h3, h4, h5⟩ := h
  exact ⟨ns, a, r, h1, h2, h3, by omega, h5⟩
theorem PenAt.off {n : Nat} {H : Hp} {p q D : Addr} (h : PenAt n H p q) (hD : H D = none) : D ≠ p ∧ D ≠ q := by
  obtain ⟨ns, a, r, h1, h2, h3⟩ := h
  exact ⟨(ne_of_none h1 hD).symm, (ne_of_none h2 hD).symm⟩
theorem PenAt.upd {n : Nat} {H : Hp} {p q D : Addr} {o : HO} (h : PenAt n H p q) (hD : D ≠ p ∧ D ≠ q) : PenAt n (upd H D o) p q := by
  obtain ⟨ns, a, r, h1, h2, h3⟩ := h
  exact ⟨ns, a, r, by rw [upd_ne hD.1.symm]; exact h1, by rw [upd_ne hD.2.symm]; exact h2, h3⟩
def spDraw : Sp := fun vs H Q _ => ∃ (p q : Addr) (many : Int) (n : Nat), vs = [.ref p, .int many] ∧ 0 < many ∧ many < 1073741824 ∧ n ≤ 1000000 ∧ PenAt n H p q ∧
  ∀ (d : Int) (H' : Hp), 0 ≤ d → d < many → But p H H' → PenAt (n + 1) H' p q → Q (.int d) H'
end EE
namespace EE
open PySem PySem.Spec PyProof.Rows L2
theorem canLay_ints : ∀ ns : List Int, PyData.canLayAll0 (ns.map PyData.int) = true
  | [] => rfl
  | n :: ns => by
    show (PyData.canLay0 (.int n) && PyData.canLayAll0 (ns.map PyData.int)) = true
    rw [canLay_ints ns]; rfl
theorem depth_ints : ∀ ns : List Int, PyData.depthAll (ns.map PyData.int) = 0
  | [] => rfl
  | n :: ns => by
    show max (PyData.depth (.int n)) (PyData.depthAll (ns.map PyData.int)) = 0
    rw [depth_ints ns]; rfl
theorem shaped_ints (ns : List Int) : SeqAt.shaped (.list (ns.map PyData.int)) = true := by
  unfold SeqAt.shaped
  have h1 : PyData.canLay0 (.list (ns.map PyData.int)) = true := canLay_ints ns
  have h2 : PyData.depth (.list (ns.map PyData.int)) = 1 := by
    show PyData.depthAll (ns.map PyData.int) + 1 = 1
    rw [depth_ints]
  rw [h1, h2]; rfl
section
variable {K : PySem.W.Frag} {σ : L2.St} {H : Hp} {Q : VK}
/-- ns != [] -/
theorem rd_neNil {q o : Addr} {ns : List Int} (h1 : SqL K H q (ns.map V.int)) (h2 : H o = some (.lst [])) (k : Q (.bl (decide (ns ≠ []))) H) : rNeD K (.ref q) (.ref o) H Q := by
  refine ⟨.list (ns.map PyData.int), .list [], .lst h1 dp_ints, dp_nil h2, shaped_ints ns, rfl, ?_⟩
  cases ns with
  | nil => exact k
  | cons n ns => exact k
theorem sto_lst {p : Addr} {xs : List V} {k : Int} {j : Nat} {v : V} {Q : Hp → Prop} (h : H p = some (.lst xs)) (e : ixN xs.length k = some j) (q : ∀ H1, But p H H1 → H1 p = some (.lst (xs.set j v)) → Q H1) : rSetL (.ref p) (.int k) v H Q := ⟨p, xs, k, j, rfl, rfl, h, e, q _ but_upd upd_same⟩
end
theorem small_sz {n : Nat} (h : n ≤ 1000) : n ≤ sizeLine := Nat.le_of_lt (small1000 h)
end EE

/-! ### relations by name -/
namespace EE
open PySem PySem.Spec PyProof.Rows L2
abbrev LR := List V → Hp → VK → Prop
def rInt1 : LR := fun xs H Q => (∃ i, xs = [.int i] ∧ Q (.int i) H) ∨ ∃ k, xs = [.bl k] ∧ Q (.int (if k then 1 else 0)) H
def rAbs : LR := fun xs H Q => ∃ i, xs = [.int i] ∧ Q (.int (if i < 0 then -i else i)) H
def rLenQ (K : PySem.W.Frag) : LR := fun xs H Q => ∃ p ys, xs = [.ref p] ∧ (SqL K H p ys ∨ SqT K H p ys) ∧ Q (.int ys.length) H
def rLenS : LR := fun xs H Q => ∃ z, xs = [.str z] ∧ z.length ≤ sizeLine ∧ Q (.int z.length) H
def rListOf (K : PySem.W.Frag) : LR := fun xs H Q => ∃ p ys, xs = [.ref p] ∧ (SqL K H p ys ∨ SqT K H p ys) ∧ ∀ l, H l = none → Q (.ref l) (upd H l (.lst ys))
def rTupOf (K : PySem.W.Frag) : LR := fun xs H Q => ∃ p ys, xs = [.ref p] ∧ ((SqL K H p ys ∧ ∀ l, H l = none → Q (.ref l) (upd H l (.tup ys))) ∨ (SqT K H p ys ∧ Q (.ref p) H))
def rStrI : LR := fun xs H Q => ∃ i, xs = [.int i] ∧ i.natAbs.log2 < 1920 ∧ Q (.str (toString i)) H
def rReprD (K : PySem.W.Frag) : LR := fun xs H Q => ∃ (a : Addr) (d : PyData), xs = [.ref a] ∧ Dp K H (.ref a) d ∧ d.showable = true ∧ d.hasDict = false ∧ d.depth ≤ 60 ∧ d.shown.length ≤ sizeLine ∧ Q (.str d.shown) H
def rAddS : R2 := fun x y H Q => ∃ i j, x = .str i ∧ y = .str j ∧ i.length + j.length ≤ sizeLine ∧ Q (.str (i ++ j)) H
def rInS : R2 := fun x y H Q => ∃ (c : Nat) (z : Str), x = .str ⟨#[c]⟩ ∧ y = .str z ∧ Q (.bl (decide (c ∈ z.cps.toList))) H
def rNotInS : R2 := fun x y H Q => ∃ (c : Nat) (z : Str), x = .str ⟨#[c]⟩ ∧ y = .str z ∧ Q (.bl (!decide (c ∈ z.cps.toList))) H
def rIsN : R2 := fun x y H Q => y = .non ∧ Q (.bl (decide (x = .non))) H
def rNotN : R2 := fun x y H Q => y = .non ∧ Q (.bl (!decide (x = .non))) H
section
variable {X : Cx}
theorem cr_int1 : CallR X (.type "int") rInt1 := call_int1
theorem cr_abs : CallR X (.builtin "abs") rAbs := call_abs
theorem cr_lenQ : CallR X (.builtin "len") (rLenQ X.K) := call_len_seq
theorem cr_lenS : CallR X (.builtin "len") rLenS := call_len_str
theorem cr_listOf : CallR X (.type "list") (rListOf X.K) := call_list_of
theorem cr_tupOf : CallR X (.type "tuple") (rTupOf X.K) := call_tuple_of
theorem cr_strI : CallR X (.type "str") rStrI := call_str_int
theorem cr_repr (hg : X.A.guards = some []) (hu : X.A.units + 64 < cLine) : CallR X (.builtin "repr") (rReprD X.K) := call_repr hg hu
theorem or_addS : OpR X (binaryOp .Add) rAddS := op_add_str
theorem or_inS : OpR X (compareOp .In) rInS := op_in_sign
theorem or_notInS : OpR X (compareOp .NotIn) rNotInS := op_notIn_sign
theorem or_isN : OpR X (compareOp .Is) rIsN := op_isN
theorem or_notN : OpR X (compareOp .IsNot) rNotN := op_notN
end
section
variable {K : PySem.W.Frag} {σ : L2.St} {H : Hp} {Q : VK}
theorem rd_int1 {i : Int} (q : Q (.int i) H) : rInt1 [.int i] H Q := .inl ⟨i, rfl, q⟩
theorem rd_int1b {b : Bool} (q : Q (.int (if b then 1 else 0)) H) : rInt1 [.bl b] H Q := .inr ⟨b, rfl, q⟩
theorem rd_abs {i : Int} (q : Q (.int (if i < 0 then -i else i)) H) : rAbs [.int i] H Q := ⟨i, rfl, q⟩
theorem rd_len {p : Addr} {ys : List V} (h : SqL K H p ys) (q : Q (.int ys.length) H) : rLenQ K [.ref p] H Q := ⟨p, ys, rfl, .inl h, q⟩
theorem rd_lenT {p : Addr} {ys : List V} (h : SqT K H p ys) (q : Q (.int ys.length) H) : rLenQ K [.ref p] H Q := ⟨p, ys, rfl, .inr h, q⟩
theorem rd_lenS {z : Str} (q : Q (.int z.length) H) (h : z.length ≤ sizeLine) : rLenS [.str z] H Q := ⟨z, rfl, h, q⟩
theorem rd_strI {i : Int} (q : Q (.str (toString i)) H) (h : i.natAbs.log2 < 1920) : rStrI [.int i] H Q := ⟨i, rfl, h, q⟩
theorem rd_addS {i j : Str} (q : Q (.str (i ++ j)) H) (h : i.length + j.length ≤ sizeLine) : rAddS (.str i) (.str j) H Q := ⟨i, j, rfl, rfl, h, q⟩
theorem rd_inS {c : Nat} {z : Str} (q : Q (.bl (decide (c ∈ z.cps.toList))) H) : rInS (.str ⟨#[c]⟩) (.str z) H Q := ⟨c, z, rfl, rfl, q⟩
theorem rd_notInS {c : Nat} {z : Str} (q : Q (.bl (!decide (c ∈ z.cps.toList))) H) : rNotInS (.str ⟨#[c]⟩) (.str z) H Q := ⟨c, z, rfl, rfl, q⟩
theorem rd_isN {x : V} (q : Q (.bl (decide (x = .non))) H) : rIsN x .non H Q := ⟨rfl, q⟩
theorem rd_notN {x : V} (q : Q (.bl (!decide (x = .non))) H) : rNotN x .non H Q := ⟨rfl, q⟩
end
end EE

namespace EE
open PySem PySem.Spec PyProof.Rows L2
theorem mixOk {m a c1 c2 c3 : Int} (m0 : 0 ≤ m) (m1 : m < 2147483648) (a0 : 0 ≤ a) (a1 : a ≤ 1000000) (h1 : 0 ≤ c1) (h1' : c1 ≤ 1000000) (h2 : 0 ≤ c2) (h2' : c2 ≤ 1000000) (h3 : 0 ≤ c3) (h3' : c3 ≤ 1000000) :
    CPow (m * (2 * a + c1) + c2 * a * a + c3) 3 := by
  refine ⟨by decide, by decide, ?_⟩
  have e1 : m * (2 * a + c1) ≤ 2147483648 * 3000000 := Int.mul_le_mul (by omega) (by omega) (by omega) (by omega)
  have e0 : 0 ≤ m * (2 * a + c1) := Int.mul_nonneg m0 (by omega)
  have f1 : c2 * a ≤ 1000000 * 1000000 := Int.mul_le_mul h2' a1 a0 (by omega)
  have f0 : 0 ≤ c2 * a := Int.mul_nonneg h2 a0
  have g1 : c2 * a * a ≤ (1000000 * 1000000) * 1000000 := Int.mul_le_mul f1 a1 a0 (by omega)
  have g0 : 0 ≤ c2 * a * a := Int.mul_nonneg f0 a0
  omega
theorem mixMul {c2 a : Int} (a0 : 0 ≤ a) (a1 : a ≤ 1000000) (h2 : 0 ≤ c2) (h2' : c2 ≤ 1000000) : CMul (c2 * a) a := by
  have f1 : c2 * a ≤ 1000000 * 1000000 := Int.mul_le_mul h2' a1 a0 (by omega)
  have f0 : 0 ≤ c2 * a := Int.mul_nonneg h2 a0
  exact .inl (by omega)
theorem modLo {x m : Int} (h : 0 < m) : 0 ≤ x % m := Int.emod_nonneg _ (by omega)
theorem modHi {x m : Int} (h : 0 < m) : x % m < m := Int.emod_lt_of_pos _ h
end EE

/-! Own layer: texts, comprehensions, isinstance. -/
namespace EE
open PySem PySem.Spec PyProof.Rows L2
/-! ### texts of plain signs -/
def Asc (z : Str) : Prop := ∀ c ∈ z.cps.toList, c < 128
instance (z : Str) : Decidable (Asc z) := by unfold Asc; infer_instance
theorem Asc.ok {z : Str} (h : Asc z) : PyData.strOk z = true := by
  unfold PyData.strOk
  rw [← Array.all_toList, List.all_eq_true]
  intro c hc
  exact decide_eq_true (Nat.lt_trans (h c hc) (by decide))
theorem asc_append {x y : Str} (hx : Asc x) (hy : Asc y) : Asc (x ++ y) := by
  intro c hc
  have e : (x ++ y).cps.toList = x.cps.toList ++ y.cps.toList := Array.toList_append
  rw [e, List.mem_append] at hc
  rcases hc with hc | hc
  · exact hx c hc
  · exact hy c hc
theorem len_append (x y : Str) : (x ++ y).length = x.length + y.length := Array.size_append
theorem asc_cut {z : Str} (h : Asc z) (lo hi : Option Int) : Asc (cutS z lo hi) := by
  intro c hc
  have e : (cutS z lo hi).cps.toList = (z.cps.toList.drop (HT.sIx z.length 0 lo)).take (HT.sIx z.length z.length hi - HT.sIx z.length 0 lo) := rfl
  rw [e] at hc
  exact h c (List.mem_of_mem_drop (List.mem_of_mem_take hc))
theorem asc_one {c : Nat} (h : c < 128) : Asc ⟨#[c]⟩ := by
  intro d hd
  have e : d = c := by simpa using hd
  omega
theorem asc_join {sep : Str} (hs : Asc sep) : ∀ {ys : List Str}, (∀ y ∈ ys, Asc y) → Asc (Str.join sep ys)
  | [], _ => fun c hc => absurd hc (by show ¬ c ∈ ([] : List Nat); simp)
  | [x], h => h x (by simp)
  | x :: y :: r, h => by
    show Asc (x ++ sep ++ Str.join sep (y :: r))
    exact asc_append (asc_append (h x (by simp)) hs) (asc_join hs fun z hz => h z (List.mem_cons_of_mem _ hz))
theorem len_join (sep : Str) : ∀ ys : List Str, (Str.join sep ys).length ≤ (ys.map (·.length)).sum + ys.length * sep.length
  | [] => Nat.zero_le _
  | [x] => by simp [Str.join]
  | x :: y :: r => by
    show (x ++ sep ++ Str.join sep (y :: r)).length ≤ _
    rw [len_append, len_append]
    have ih := len_join sep (y :: r)
    simp only [List.map_cons, List.sum_cons, List.length_cons] at ih ⊢
    rw [Nat.add_mul (r.length + 1) 1]
    omega
theorem asc_int (i : Int) : Asc (toString i : String) := by
  intro c hc
  have e : (Str.ofString (toString i)).cps.toList = (toString i).toList.map Char.toNat := signs_ofString _
  have hc' : c ∈ (toString i).toList.map Char.toNat := by
    rw [← e]; exact hc
  obtain ⟨ch, h1, rfl⟩ := List.mem_map.mp hc'
  rcases int_sign i ch h1 with h | h
  · unfold Char.isDigit at h
    simp at h
    have := h.2
    show ch.val.toNat < 128
    have h2 : ch.val.toNat ≤ 57 := this
    omega
  · rw [h]; decide
theorem len_int {i : Int} {k : Nat} (hk : 0 < k) (h : i.natAbs < 10 ^ k) : (Str.ofString (toString i)).length ≤ k + 1 := by
  have := int_text_length_le10 hk h
  have e : (Str.ofString (toString i)).length = (toString i).length := by
    show (Str.ofString (toString i)).cps.size = (toString i).length
    rw [← Array.length_toList, signs_ofString, List.length_map]
    rfl
  omega
theorem log2_lt {n k : Nat} (h : n < 2 ^ k) (hk : 0 < k) : n.log2 < k := by
  rcases Nat.eq_zero_or_pos n with e | e
  · subst e; exact hk
  · exact (Nat.log2_lt (by omega)).mpr h
section
variable {K : PySem.W.Frag} {σ : L2.St} {H : Hp} {Q : VK}
theorem rd_slS {z : Str} {lo hi : Option Int} (q : Q (.str (cutS z lo hi)) H) (h : z.length ≤ sizeLine) : rSlS (.str z) lo hi H Q := ⟨z, rfl, h, q⟩
theorem rd_slL {a : Addr} {xs : List V} {lo hi : Option Int} (h : SqL K H a xs) (q : ∀ p H2, H p = none → Same H H2 → H2 p = some (.lst (cutV xs lo hi)) → Q (.ref p) H2) : rSlL K (.ref a) lo hi H Q :=
  ⟨a, xs, rfl, h, fun p hp => q p _ hp (same_new hp) upd_same⟩
theorem rd_listOf {a : Addr} {xs : List V} (h : SqL K H a xs) (q : ∀ p H2, H p = none → Same H H2 → H2 p = some (.lst xs) → Q (.ref p) H2) : rListOf K [.ref a] H Q := ⟨a, xs, rfl, .inl h, fun p hp => q p _ hp (same_new hp) upd_same⟩
theorem rd_listOfT {a : Addr} {xs : List V} (h : SqT K H a xs) (q : ∀ p H2, H p = none → Same H H2 → H2 p = some (.lst xs) → Q (.ref p) H2) : rListOf K [.ref a] H Q := ⟨a, xs, rfl, .inr h, fun p hp => q p _ hp (same_new hp) upd_same⟩
theorem rd_exI {i : Int} {P : Int → Prop} (h : P i) : ∃ j, V.int i = V.int j ∧ P j := ⟨i, rfl, h⟩
theorem rd_ixS {z : Str} {i : Int} {c : Nat} (e : atI z.cps.toList i = some c) (q : Q (.str ⟨#[c]⟩) H) (h : z.length ≤ sizeLine) : rIxS (.str z) (.int i) H Q := ⟨z, i, c, rfl, rfl, h, e, q⟩
/-- join, by name -/
def rJoin (K : PySem.W.Frag) : V → List V → Hp → VK → Prop := fun x xs H Q => ∃ a p, ∃ ys : List Str, x = .str a ∧ xs = [.ref p] ∧ (SqL K H p (ys.map V.str) ∨ SqT K H p (ys.map V.str)) ∧ (ys.map (·.length)).sum + ys.length * a.length ≤ 16777216 ∧ Q (.str (Txt.join a ys)) H
theorem mt_joinN {X : Cx} : MtR X "str.join" (rJoin X.K) := mt_join
theorem rd_M1 {r : V → List V → Hp → VK → Prop} {to te : TE} (h : to σ H fun x H1 => (∃ a, x = .str a) ∧ te σ H1 fun y H2 => r x [y] H2 Q) : tM1 r to te σ H Q := h
theorem rd_M0 {r : V → List V → Hp → VK → Prop} {to : TE} (h : to σ H fun x H1 => (∃ a, x = .str a) ∧ r x [] H1 Q) : tM0 r to σ H Q := h
theorem rd_isS {a : Str} {P : Prop} (h : P) : (∃ b, V.str a = V.str b) ∧ P := ⟨⟨a, rfl⟩, h⟩
theorem rd_joinL {a : Str} {p : Addr} {ys : List Str} (h : H p = some (.lst (ys.map V.str))) (hs : (ys.map (·.length)).sum + ys.length * a.length ≤ 16777216) (q : Q (.str (Str.join a ys)) H) : rJoin K (.str a) [.ref p] H Q := ⟨a, p, ys, rfl, rfl, .inl (sqL_of h), hs, by rw [TL.join_eq]; exact q⟩
/-- isinstance with a built-in class -/
theorem rd_isi {x : V} {a c : String} {b : Bool} (ty : TyX K H x (.type a)) (e : kitB a c = some b) (q : Q (.bl b) H) : rIsi K [x, .ty c] H Q := ⟨x, .ty c, .type a, .type c, b, rfl, .ty c, ty, kit_ty e, q⟩
end
/-! ### comprehensions: what is made so far is a filterMap -/
structure LcI {α : Type} (l : List α) (F : α → Option V) (D : Addr) (H0 : Hp) (i : Nat) (H : Hp) : Prop where
  same : Same H0 H
  at_ : H D = some (.lst ((l.take i).filterMap F))
theorem LcI.zero {α : Type} {l : List α} {F : α → Option V} {D : Addr} {H0 : Hp} (hD : H0 D = none) : LcI l F D H0 0 (upd H0 D (.lst [])) := ⟨same_new hD, upd_same⟩
theorem LcI.some {α : Type} {l : List α} {F : α → Option V} {D : Addr} {H0 H H4 : Hp} {i : Nat} {a : α} {y : V} (I : LcI l F D H0 i H) (hD : H0 D = none) (hi : l[i]? = some a) (hF : F a = some y) (s : Same H H4) (hl : l.length ≤ 1000000) :
    ∃ acc, H4 D = some (.lst acc) ∧ acc.length < sizeLine ∧ LcI l F D H0 (i + 1) (upd H4 D (.lst (acc ++ [y]))) := by
  refine ⟨_, s _ _ I.at_, ?_, ?_, ?_⟩
  · have h1 := List.length_filterMap_le F (l.take i)
    have h2 : (l.take i).length ≤ l.length := by rw [List.length_take]; exact Nat.min_le_right _ _
    exact Nat.lt_of_le_of_lt (Nat.le_trans h1 (Nat.le_trans h2 hl)) (by decide)
  · intro b o e
    rw [upd_ne (ne_of_none e hD)]
    exact s _ _ (I.same _ _ e)
  · rw [upd_same, List.take_add_one, hi, List.filterMap_append]
    simp [hF]
theorem LcI.none {α : Type} {l : List α} {F : α → Option V} {D : Addr} {H0 H H4 : Hp} {i : Nat} {a : α} (I : LcI l F D H0 i H) (hi : l[i]? = .some a) (hF : F a = .none) (s : Same H H4) : LcI l F D H0 (i + 1) H4 := by
  refine ⟨fun b o e => s _ _ (I.same _ _ e), ?_⟩
  rw [s _ _ I.at_, List.take_add_one, hi, List.filterMap_append]
  simp [hF]
theorem LcI.done {α : Type} {l : List α} {F : α → Option V} {D : Addr} {H0 H : Hp} (I : LcI l F D H0 l.length H) : H D = Option.some (HO.lst (l.filterMap F)) := by
  rw [I.at_, List.take_length]
/-- over a text -/
theorem lc_str {x : Str} {g : TG} {tt : TT} {te : TE} {vs : List Nat} {σ : L2.St} {H1 : Hp} {D : Addr} {Qd : Hp → Prop} (Pv : Nat → Hp → Prop) (h0 : Pv 0 (upd H1 D (.lst [])))
    (hs : ∀ i c H, x.cps.toList[i]? = some c → Pv i H → g (.str ⟨#[c]⟩) (wipe σ vs) H fun σ2 H2 => wipe σ2 vs = wipe σ vs ∧ tt σ2 H2 fun b H3 =>
      if b = true then te σ2 H3 fun y H4 => ∃ acc, H4 D = some (.lst acc) ∧ acc.length < sizeLine ∧ Pv (i + 1) (upd H4 D (.lst (acc ++ [y]))) else Pv (i + 1) H3) (hd : ∀ H, Pv x.cps.toList.length H → Qd H) :
    ∃ W : Nat → Nat → Hp → Prop, (∃ m, W 0 m (upd H1 D (.lst []))) ∧ ∀ i m H, W i m H →
      ((Its x).stop i H ∧ Qd H) ∨ ((Its x).go i H ∧ ∃ Nx : Hp → Prop, (∀ H', Nx H' → ∃ m', m' < m ∧ W (i + 1) m' H') ∧ ∀ y H', (Its x).yld i H y H' → g y (wipe σ vs) H' fun σ2 H2 => wipe σ2 vs = wipe σ vs ∧ tt σ2 H2 fun b H3 =>
        if b = true then te σ2 H3 fun y H4 => ∃ acc, H4 D = some (.lst acc) ∧ acc.length < sizeLine ∧ Nx (upd H4 D (.lst (acc ++ [y]))) else Nx H3) := by
  have en : x.cps.toList.length = x.cps.size := Array.length_toList
  refine ⟨fun i m H => m = x.cps.size - i ∧ i ≤ x.cps.size ∧ Pv i H, ⟨x.cps.size, by simp, Nat.zero_le _, h0⟩, ?_⟩
  rintro i m H ⟨rfl, hi, p⟩
  by_cases hlt : i < x.cps.size
  · refine .inr ⟨hlt, Pv (i + 1), fun H' p' => ⟨x.cps.size - (i + 1), by omega, rfl, hlt, p'⟩, fun y H' q => ?_⟩
    obtain ⟨e, c, hc, rfl⟩ := q
    subst e
    exact hs i c H' (by rw [Array.getElem?_toList]; exact hc) p
  · have e : i = x.cps.size := by omega
    subst e
    rw [en] at hd
    exact .inl ⟨Nat.le_refl _, hd H p⟩
section
variable {K : PySem.W.Frag} {σ : L2.St} {H : Hp} {Q : VK}
/-- the comprehension's reading: what is walked, then the loop at a new list -/
def LcAt (g : TG) (tt : TT) (te : TE) (vs : List Nat) (σ : L2.St) (Q : VK) (J : It) (H1 : Hp) : Prop := ∀ D, H1 D = none → ∃ W : Nat → Nat → Hp → Prop, (∃ m, W 0 m (upd H1 D (.lst []))) ∧ ∀ i m H, W i m H →
  (J.stop i H ∧ Q (.ref D) H) ∨ (J.go i H ∧ ∃ Nx : Hp → Prop, (∀ H', Nx H' → ∃ m', m' < m ∧ W (i + 1) m' H') ∧ ∀ x H', J.yld i H x H' → g x (wipe σ vs) H' fun σ2 H2 => wipe σ2 vs = wipe σ vs ∧ tt σ2 H2 fun b H3 =>
    if b = true then te σ2 H3 fun y H4 => ∃ acc, H4 D = some (.lst acc) ∧ acc.length < sizeLine ∧ Nx (upd H4 D (.lst (acc ++ [y]))) else Nx H3)
theorem rd_lc {wi : TI} {g : TG} {tt : TT} {te : TE} {vs : List Nat} (h : wi σ H (LcAt g tt te vs σ Q)) : tLc wi g tt te vs σ H Q := h
theorem rd_iStr {te : TE} {R : It → Hp → Prop} (h : te σ H fun v H1 => ∃ x, v = .str x ∧ R (Its x) H1) : iStr te σ H R := h
theorem rd_exS {z : Str} {P : Str → Prop} (h : P z) : ∃ x, V.str z = .str x ∧ P x := ⟨z, rfl, h⟩
/-- pure: each sign gives a value or none -/
theorem lcat_str {g : TG} {tt : TT} {te : TE} {vs : List Nat} {x : Str} (F : Nat → Option V) (hl : x.length ≤ 1000000)
    (hs : ∀ D i c H', H D = none → x.cps.toList[i]? = some c → LcI x.cps.toList F D H i H' → g (.str ⟨#[c]⟩) (wipe σ vs) H' fun σ2 H2 => wipe σ2 vs = wipe σ vs ∧ tt σ2 H2 fun b H3 =>
      if b = true then te σ2 H3 fun y H4 => ∃ acc, H4 D = some (.lst acc) ∧ acc.length < sizeLine ∧ LcI x.cps.toList F D H (i + 1) (upd H4 D (.lst (acc ++ [y]))) else LcI x.cps.toList F D H (i + 1) H3)
    (hd : ∀ D H', H D = none → Same H H' → H' D = some (.lst (x.cps.toList.filterMap F)) → Q (.ref D) H') : LcAt g tt te vs σ Q (Its x) H := fun D hD =>
  lc_str (LcI x.cps.toList F D H) (LcI.zero hD) (fun i c H' hc I => hs D i c H' hD hc I) fun H' I => hd D H' hD I.same I.done
theorem rd_all {a : Addr} {bs : List Bool} (h : SqL K H a (bs.map V.bl)) (q : Q (.bl (bs.all id)) H) : rAll K [.ref a] H Q := ⟨a, bs, rfl, h, q⟩
theorem rd_any {a : Addr} {bs : List Bool} (h : SqL K H a (bs.map V.bl)) (q : Q (.bl (bs.any id)) H) : rAny K [.ref a] H Q := ⟨a, bs, rfl, h, q⟩
theorem dp_strs : ∀ {zs : List Str}, DpAll K H (zs.map V.str) (zs.map PyData.str)
  | [] => .nil
  | z :: zs => .cons (.str z) dp_strs
theorem dp_bls : ∀ {zs : List Bool}, DpAll K H (zs.map V.bl) (zs.map PyData.bool)
  | [] => .nil
  | z :: zs => .cons (.bl z) dp_bls
end
theorem shaped_flat {ds : List PyData} (h : ∀ d ∈ ds, PyData.canLay0 d = true ∧ PyData.depth d = 0) : SeqAt.shaped (.list ds) = true ∧ SeqAt.shaped (.tuple ds) = true := by
  have h1 : ∀ ds : List PyData, (∀ d ∈ ds, PyData.canLay0 d = true ∧ PyData.depth d = 0) → PyData.canLayAll0 ds = true ∧ PyData.depthAll ds = 0 := by
    intro ds
    induction ds with
    | nil => intro _; exact ⟨rfl, rfl⟩
    | cons d ds ih =>
      intro h
      obtain ⟨i1, i2⟩ := ih fun x hx => h x (List.mem_cons_of_mem _ hx)
      obtain ⟨j1, j2⟩ := h d List.mem_cons_self
      constructor
      · show (PyData.canLay0 d && PyData.canLayAll0 ds) = true
        rw [i1, j1]; rfl
      · show max (PyData.depth d) (PyData.depthAll ds) = 0
        rw [i2, j2]; rfl
  obtain ⟨a, b⟩ := h1 ds h
  constructor
  · unfold SeqAt.shaped
    rw [show PyData.canLay0 (.list ds) = true from a, show PyData.depth (.list ds) = 1 by show PyData.depthAll ds + 1 = 1; rw [b]]
    rfl
  · unfold SeqAt.shaped
    rw [show PyData.canLay0 (.tuple ds) = true from a, show PyData.depth (.tuple ds) = 1 by show PyData.depthAll ds + 1 = 1; rw [b]]
    rfl
section
variable {K : PySem.W.Frag} {σ : L2.St} {H : Hp} {Q : VK}
/-- zs == [] of texts -/
theorem rd_eqNilS {q o : Addr} {zs : List Str} (h1 : SqL K H q (zs.map V.str)) (h2 : H o = some (.lst [])) (ha : ∀ z ∈ zs, Asc z) (k : Q (.bl (decide (zs = []))) H) : rEqD K (.ref q) (.ref o) H Q := by
  refine ⟨.list (zs.map PyData.str), .list [], .lst h1 dp_strs, dp_nil h2, (shaped_flat fun d hd => ?_).1, rfl, ?_⟩
  · obtain ⟨z, hz, rfl⟩ := List.mem_map.mp hd
    exact ⟨(ha z hz).ok, rfl⟩
  · cases zs with
    | nil => exact k
    | cons n ns => exact k
end
end EE
namespace EE
open PySem PySem.Spec PyProof.Rows L2
/-! ### values of the plain kinds -/
def isStrV : V → Bool | .str _ => true | _ => false
def isBoolV : V → Bool | .bl _ => true | _ => false
def isIntV : V → Bool | .int _ => true | .bl _ => true | _ => false
inductive Th (H : Hp) : V → Prop where
  | non : Th H .non
  | bl (b : Bool) : Th H (.bl b)
  | int (i : Int) : Th H (.int i)
  | str (z : Str) (hl : z.length ≤ 1000) (ha : Asc z) : Th H (.str z)
  | lst {a : Addr} {xs : List V} (h : H a = some (.lst xs)) : Th H (.ref a)
  | tup {a : Addr} {xs : List V} (h : H a = some (.tup xs)) : Th H (.ref a)
  | dK {a : Addr} {kvs : List (Key × V)} (h : H a = some (.dK kvs)) : Th H (.ref a)
theorem Th.ty {K : PySem.W.Frag} {H : Hp} {x : V} (h : Th H x) : ∃ t, TyX K H x (.type t) ∧ kitB t "str" = some (isStrV x) ∧ kitB t "int" = some (isIntV x) ∧ kitB t "bool" = some (isBoolV x) := by
  cases h with
  | non => exact ⟨"NoneType", .base .non, (show kitB "NoneType" "str" = some false by decide +kernel), (show kitB "NoneType" "int" = some false by decide +kernel), (show kitB "NoneType" "bool" = some false by decide +kernel)⟩
  | bl b => exact ⟨"bool", .base (.bl b), (show kitB "bool" "str" = some false by decide +kernel), (show kitB "bool" "int" = some true by decide +kernel), (show kitB "bool" "bool" = some true by decide +kernel)⟩
  | int i => exact ⟨"int", .base (.int i), (show kitB "int" "str" = some false by decide +kernel), (show kitB "int" "int" = some true by decide +kernel), (show kitB "int" "bool" = some false by decide +kernel)⟩
  | str z _ _ => exact ⟨"str", .base (.str z), (show kitB "str" "str" = some true by decide +kernel), (show kitB "str" "int" = some false by decide +kernel), (show kitB "str" "bool" = some false by decide +kernel)⟩
  | lst h => exact ⟨"list", .base (.lst h), (show kitB "list" "str" = some false by decide +kernel), (show kitB "list" "int" = some false by decide +kernel), (show kitB "list" "bool" = some false by decide +kernel)⟩
  | tup h => exact ⟨"tuple", .base (.tup h), (show kitB "tuple" "str" = some false by decide +kernel), (show kitB "tuple" "int" = some false by decide +kernel), (show kitB "tuple" "bool" = some false by decide +kernel)⟩
  | dK h => exact ⟨"dict", .base (.dK h), (show kitB "dict" "str" = some false by decide +kernel), (show kitB "dict" "int" = some false by decide +kernel), (show kitB "dict" "bool" = some false by decide +kernel)⟩
theorem Th.keep {H H' : Hp} {x : V} (h : Th H x) (s : Same H H') : Th H' x := by
  cases h with
  | non => exact .non
  | bl b => exact .bl b
  | int i => exact .int i
  | str z a b => exact .str z a b
  | lst h => exact .lst (s _ _ h)
  | tup h => exact .tup (s _ _ h)
  | dK h => exact .dK (s _ _ h)
def offV (p : Addr) : V → Prop | .ref a => a ≠ p | _ => True
theorem Th.but {H H' : Hp} {p : Addr} {x : V} (h : Th H x) (n : offV p x) (s : But p H H') : Th H' x := by
  cases h with
  | non => exact .non
  | bl b => exact .bl b
  | int i => exact .int i
  | str z a b => exact .str z a b
  | lst h => exact .lst (s _ _ n h)
  | tup h => exact .tup (s _ _ n h)
  | dK h => exact .dK (s _ _ n h)
end EE

namespace EE
open PySem PySem.Spec PyProof.Rows L2
section
variable {A B p : Prop}
theorem rd_yes {σ : L2.St} {H : Hp} {Q : Bool → Hp → Prop} (h : Q true H) : tYes σ H Q := h
theorem iteNT (h : B) : if (!true) = true then A else B := iteF h
theorem iteNF (h : A) : if (!false) = true then A else B := iteT h
theorem rd_dec [Decidable p] (h1 : p → A) (h2 : ¬ p → B) : if decide p = true then A else B := by
  by_cases h : p
  · rw [decide_eq_true h]; exact iteT (h1 h)
  · rw [decide_eq_false h]; exact iteF (h2 h)
theorem rd_decN [Decidable p] (h1 : ¬ p → A) (h2 : p → B) : if (!decide p) = true then A else B := by
  by_cases h : p
  · rw [decide_eq_true h]; exact iteF (h2 h)
  · rw [decide_eq_false h]; exact iteT (h1 h)
theorem filterMap_some {α β : Type} (f : α → β) : ∀ l : List α, l.filterMap (fun a => some (f a)) = l.map f
  | [] => rfl
  | a :: l => by
    rw [List.filterMap_cons, filterMap_some f l]
    rfl
end
end EE
namespace EE
open PySem PySem.Spec PyProof.Rows L2
theorem mixL {x m j : Int} (h : 0 < m) (h2 : m < 2147483648) : CMul (x % m) j := .inl ⟨by have := modLo (x := x) h; omega, by have := modHi (x := x) h; omega⟩
theorem cutV_ints (ns : List Int) (lo hi : Option Int) : cutV (ns.map V.int) lo hi = ((ns.drop (HT.sIx ns.length 0 lo)).take (HT.sIx ns.length ns.length hi - HT.sIx ns.length 0 lo)).map V.int := by
  unfold cutV
  rw [List.length_map, List.map_take, List.map_drop]
theorem len_cutI (ns : List Int) (i j : Nat) : ((ns.drop i).take j).length ≤ ns.length := by
  rw [List.length_take, List.length_drop]
  omega
/-- a new pen for the script -/
def spPen (K : PySem.W.Frag) : Sp := fun vs H Q _ => ∃ (a : Addr) (ns : List Int), vs = [.ref a] ∧ SqL K H a (ns.map V.int) ∧ ns.length ≤ 63 ∧ ∀ p q H', H p = none → Same H H' → PenAt 0 H' p q → Q (.ref p) H'
/-- one of a list's items -/
def spPickL : Sp := fun vs H Q _ => ∃ (p q l : Addr) (xs : List V) (n : Nat), vs = [.ref p, .ref l] ∧ H l = some (.lst xs) ∧ l ≠ p ∧ 0 < xs.length ∧ xs.length ≤ 1000 ∧ n ≤ 1000000 ∧ PenAt n H p q ∧
  ∀ x H', x ∈ xs → But p H H' → PenAt (n + 1) H' p q → Q x H'
end EE

/-! Own layer: calls by keywords alone. -/
namespace EE
open PySem PySem.Spec PyProof.Rows L2
section
variable {X : Cx} {CX : CXT} {k n : Nat} {f C : Addr} {fd : FuncData} {ps ks : List Str} {sp : Sp} {E : XK} {x : Str} {p pos : Pos} {e : Expr} {es : List Expr} {kws : List Keyword} {t tk : TA} {g : List Value → List Value → List Value} {gV : List V → List V → List V}
/-- f(k = v, ..) -/
theorem pe_callN0 (F : FnOk X.prog X.w X.K X.mg X.base CX k f fd ps sp) (hr : Room k X.A) (hg : Gl X x) (hm : X.mg x = some (.ref f)) (hk : PySem.W.keepIn X.K (.ref f) = true) (hb : KBn X.K fd ps 0 ks g gV) (hx : Passes CX X E)
    (hkw : PK X kws tk) (hall : (backToKw pos (keywordEach kws X.env)).all (·.1.isSome) = true := by rfl) (hks : (backToKw pos (keywordEach kws X.env)).filterMap (·.1) = ks := by rfl)
    (hdb : (x == ("__debug__" : Str)) = false := by decide)
    (hpl : ((backTo pos (starEach [] X.env)).any (·.1) || (backToKw pos (keywordEach kws X.env)).any (·.1.isNone)) = false := by rfl) :
    PE X (.Call (.Name x p) [] kws pos) (tCallN 0 ks.length sp gV E tNil tk) := by
  refine ⟨fun pins s σ H Q I h => ?_⟩
  refine wpAny_Call_Name_kw (ld_glob I hg hm ?_ hdb)
  refine PySem.W.callWith_KW0 (h₀ := X.base) I.ok.mod.kin hk hall ?_ hpl
  refine thn (hkw.run pos pins s σ H _ I h) fun ws s2 ⟨zs, H2, I2, rz, l1, l2, q2⟩ => ⟨I2.kIn, ?_⟩
  rw [hks]
  exact run_fnN (us := []) (vs := []) F hr hb hx I2 .nil rz rfl l2 q2
end
section
variable {σ : L2.St} {H : Hp} {Q : VK}
theorem rd_callN {n m : Nat} {sp : Sp} {gV : List V → List V → List V} {E : XK} {t tk : TA} (h : t σ H fun vs H1 => tk σ H1 fun zs H2 => vs.length = n ∧ zs.length = m ∧ sp (gV vs zs) H2 Q E) : tCallN n m sp gV E t tk σ H Q := h
theorem rd_iRng1 {ta : TA} {R : It → Hp → Prop} (h : ta σ H fun vs H1 => ∃ j : Int, vs = [.int j] ∧ -(2 ^ 62) ≤ j ∧ j < 2 ^ 62 ∧ R (Itr 0 j.toNat) H1) : iRng1 ta σ H R := h
theorem rd_iRng2 {ta : TA} {R : It → Hp → Prop} (h : ta σ H fun vs H1 => ∃ i j : Int, vs = [.int i, .int j] ∧ (-(2 ^ 62) ≤ i ∧ i < 2 ^ 62 ∧ -(2 ^ 62) ≤ j ∧ j < 2 ^ 62) ∧ R (Itr i (j - i).toNat) H1) : iRng2 ta σ H R := h
theorem rd_exIs {i : Int} {P : Int → Prop} (h : P i) : ∃ j, [V.int i] = [V.int j] ∧ P j := ⟨i, rfl, h⟩
theorem rd_iList {K : PySem.W.Frag} {te : TE} {R : It → Hp → Prop} (h : te σ H fun x H1 => ∃ a, x = .ref a ∧ (∃ xs, SqL K H1 a xs) ∧ R (Itl K a) H1) : iList K te σ H R := h
theorem rd_iTup {K : PySem.W.Frag} {te : TE} {R : It → Hp → Prop} (h : te σ H fun x H1 => ∃ a, x = .ref a ∧ (∃ xs, SqT K H1 a xs) ∧ R (Itt K a) H1) : iTup K te σ H R := h
theorem rd_exR {a : Addr} {P : Addr → Prop} (h : P a) : ∃ b, V.ref a = V.ref b ∧ P b := ⟨a, rfl, h⟩
/-- an item at a drawn place -/
theorem rd_pickL {K : PySem.W.Frag} {p : Addr} {xs : List V} {d : Int} (h : H p = some (.lst xs)) (d0 : 0 ≤ d) (d1 : d < (xs.length : Nat)) (k : ∀ x, x ∈ xs → Q x H) : rIxL K (.ref p) (.int d) H Q := by
  obtain ⟨j, hj, _, hat⟩ := atI_lt d0 d1
  exact rd_ixL (sqL_of h) hat (k _ (List.getElem_mem hj))
/-- a for loop at its walked thing -/
def ForAt (g : TG) (tb : TS) (D : Ends) (σ : L2.St) (J : It) (H1 : Hp) : Prop := ∃ W : Nat → Nat → L2.St → Hp → Prop, (∃ m, W 0 m σ H1) ∧ ∀ i m σ H, W i m σ H →
  (J.stop i H ∧ D.nx σ H) ∨ (J.go i H ∧ ∃ N : L2.St → Hp → Prop, (∀ σ' H', N σ' H' → ∃ m', m' < m ∧ W (i + 1) m' σ' H') ∧ ∀ x H', J.yld i H x H' → g x σ H' fun σ2 H2 => tb { D with nx := N, ct := N, bk := D.nx } σ2 H2)
theorem rd_for {wi : TI} {g : TG} {tb : TS} {D : Ends} (h : wi σ H (ForAt g tb D σ)) : tFor wi g tb D σ H := h
theorem rd_two {A : Prop} {a b : Nat} (h : A) (ha : a = b := by rfl) {c d : Nat} (hc : c = d := by rfl) : a = b ∧ c = d ∧ A := ⟨ha, hc, h⟩
theorem ent_range {n : Nat} {g : TG} {tt : TT} {te : TE} {vs : List Nat} (Pv : Addr → Nat → Hp → Prop) (h0 : ∀ D, H D = none → Pv D 0 (upd H D (.lst [])))
    (hs : ∀ D i H', H D = none → i < n → Pv D i H' → g (.int (0 + i)) (wipe σ vs) H' fun σ2 H2 => wipe σ2 vs = wipe σ vs ∧ tt σ2 H2 fun b H3 =>
      if b = true then te σ2 H3 fun y H4 => ∃ acc, H4 D = some (.lst acc) ∧ acc.length < sizeLine ∧ Pv D (i + 1) (upd H4 D (.lst (acc ++ [y]))) else Pv D (i + 1) H3)
    (hd : ∀ D H', H D = none → Pv D n H' → Q (.ref D) H') : LcAt g tt te vs σ Q (Itr 0 n) H := fun D hD =>
  lc_range (lo := 0) (Pv D) (h0 D hD) (fun i H' hi I => hs D i H' hD hi I) fun H' I => hd D H' hD I
end
/-- a def that others call: where it stands, its promise -/
structure Cal (P : Program) (w : World) (K : PySem.W.Frag) (mg : Str → Option Value) (base : Heap) (k : Nat) (x : Str) (st : Stmt) (ps : List Str) (sp : Sp) (f : Addr) (fd : FuncData) : Prop where
  F : Fun K x x st f fd
  G : FnOk P w K mg base CX0 k f fd ps sp
  g : mg x = some (.ref f)
  b : Binds K fd ps []
/-- the binding of one keyword to the one parameter -/
theorem kbn_one {K : PySem.W.Frag} {x qual : Str} {st : Stmt} {f : Addr} {fd : FuncData} {p : Str} (F : Fun K x qual st f fd)
    (h : ∀ (kV doc pm : Value) (an : Option Addr) (cdv ct : Value) (u : Value), bindArgs (PySem.W.fnOf x qual (defArgs st) (defBody st) (defScope st) .none kV doc pm an cdv ct) ⟨[], [(p, u)]⟩ = pure [(p, u)]) :
    KBn K fd [p] 0 [p] (fun us ws => us ++ ws) (fun us ws => us ++ ws) := by
  obtain ⟨oc, od, kV, doc, pm, an, cdv, ct, osl, rfl, lk, hcd⟩ := F.ex
  refine ⟨fun s us ws _ l1 l2 => ?_, fun r1 r2 => r1.append r2⟩
  match us, ws, l1, l2 with
  | [], [w], _, _ => exact .of_eq (h kV doc pm an cdv ct w)
end EE

namespace EE
open PySem PySem.Spec PyProof.Rows L2
theorem but_new {D p : Addr} {H H' : Hp} {o : HO} (hD : H D = none) (n : D ≠ p) : But D H' (upd H' D o) := but_upd
/-- a change at an address that was new ahead is no change of what stood there -/
theorem But.grow {D p : Addr} {H0 H : Hp} {o : HO} (hD : H0 D = none) (h : But p H0 H) : But p H0 (upd H D o) := fun b u n e => by
  rw [upd_ne (ne_of_none e hD)]
  exact h b u n e
theorem Same.grow {D : Addr} {H0 H : Hp} {o : HO} (hD : H0 D = none) (h : Same H0 H) : Same H0 (upd H D o) := fun b u e => by
  rw [upd_ne (ne_of_none e hD)]
  exact h b u e
theorem lets_at {d : Int} (d0 : 0 ≤ d) (d1 : d < 26) : ∃ c, atI (Str.ofString "abcdefghijklmnopqrstuvwxyz").cps.toList d = some c ∧ c < 128 := by
  have e : (Str.ofString "abcdefghijklmnopqrstuvwxyz").cps.toList = (List.range 26).map (· + 97) := by decide +kernel
  rw [e]
  unfold atI ixN
  rw [if_pos d0, if_pos (by rw [List.length_map, List.length_range]; exact d1)]
  refine ⟨d.toNat + 97, ?_, by omega⟩
  show ((List.range 26).map (· + 97))[d.toNat]? = _
  rw [List.getElem?_map, List.getElem?_range (by omega)]
  rfl
end EE

namespace EE
open PySem PySem.Spec PyProof.Rows L2
section
variable {K : PySem.W.Frag} {σ : L2.St} {H : Hp} {Q : VK}
theorem rd_dnewK (h : ∀ p H2, H p = none → Same H H2 → H2 p = some (.dK []) → Q (.ref p) H2) : tDNewK σ H Q := fun p hp => h p _ hp (same_new hp) upd_same
/-- a displayed dict behind its pairs -/
def DispAt (p : Addr) (ps : List (V × V)) (H : Hp) (Q : VK) : Prop := H p = some (.dK []) ∧ ∃ kvs : List (Key × V), ps = kvs.map (fun kv => (kV kv.1, kv.2)) ∧ kvs.length ≤ 15 ∧ Q (.ref p) (upd H p (.dK (mergeK [] kvs)))
theorem rd_disp {trs : List (TE × TE)} (h : ∀ p H1, H p = none → Same H H1 → H1 p = some (.dK []) → tPairs trs σ H1 fun ps H2 => DispAt p ps H2 Q) : tDisp trs σ H Q := fun p hp => h p _ hp (same_new hp) upd_same
theorem rd_pnil {R : List (V × V) → Hp → Prop} (h : R [] H) : tPairs [] σ H R := h
theorem rd_pcons {tk tv : TE} {r : List (TE × TE)} {R : List (V × V) → Hp → Prop} (h : tk σ H fun x H1 => tv σ H1 fun y H2 => tPairs r σ H2 fun ps H3 => R ((x, y) :: ps) H3) : tPairs ((tk, tv) :: r) σ H R := h
theorem disp_done {p : Addr} {ps : List (V × V)} (kvs : List (Key × V)) (h : H p = some (.dK [])) (e : ps = kvs.map (fun kv => (kV kv.1, kv.2))) (l : kvs.length ≤ 15) (q : ∀ H3, But p H H3 → H3 p = some (.dK (mergeK [] kvs)) → Q (.ref p) H3) : DispAt p ps H Q := ⟨h, kvs, e, l, q _ but_upd upd_same⟩
theorem _root_.L2.Same.disp {p : Addr} {H H1 H2 : Hp} (n : H p = none) (s : Same H H1) (e : But p H1 H2) : Same H H2 := fun b o h => e _ _ (ne_of_none h n) (s _ _ h)
theorem two_bools (b : Bool) : (PyData.list [.bool b, .bool b]).shown.length ≤ sizeLine := by cases b <;> decide +kernel
theorem dp_two {a : Addr} {b c : Bool} (h : H a = some (.lst [.bl b, .bl c])) : Dp K H (.ref a) (.list [.bool b, .bool c]) := .lst (sqL_of h) (.cons (.bl b) (.cons (.bl c) .nil))
theorem rd_rep {l : Addr} {k : Int} {xs : List V} (h : H l = some (.lst xs)) (k0 : 0 ≤ k) (k1 : k ≤ 1000) (hx : xs.length ≤ 1000) (q : ∀ p H2, H p = none → Same H H2 → H2 p = some (.lst (List.replicate k.toNat xs).flatten) → Q (.ref p) H2) : rRep (.ref l) (.int k) H Q := by
  refine ⟨l, k, xs, rfl, rfl, h, by omega, by omega, ?_, fun p hp => q p _ hp (same_new hp) upd_same⟩
  have : xs.length * k.toNat ≤ 1000 * 1000 := Nat.mul_le_mul hx (by omega)
  exact Nat.le_trans this (by decide)
theorem rd_cat {l b : Addr} {xs zs : List V} (h1 : H l = some (.lst xs)) (h2 : H b = some (.lst zs)) (hl : xs.length + zs.length ≤ 100000) (q : ∀ p H2, H p = none → Same H H2 → H2 p = some (.lst (xs ++ zs)) → Q (.ref p) H2) : rCat (.ref l) (.ref b) H Q :=
  ⟨l, b, xs, zs, rfl, rfl, h1, h2, Nat.le_trans hl (by decide), fun p hp => q p _ hp (same_new hp) upd_same⟩
theorem rd_repr {a : Addr} {d : PyData} (h : Dp K H (.ref a) d) (h1 : d.showable = true) (h2 : d.hasDict = false) (h3 : d.depth ≤ 60) (h4 : d.shown.length ≤ sizeLine) (q : Q (.str d.shown) H) : rReprD K [.ref a] H Q := ⟨a, d, rfl, h, h1, h2, h3, h4, q⟩
theorem rd_eqD {x y : V} {d e : PyData} (h1 : Dp K H x d) (h2 : Dp K H y e) (s1 : SeqAt.shaped d = true) (s2 : SeqAt.shaped e = true) (q : Q (.bl (PyData.eqv d e)) H) : rEqD K x y H Q := ⟨d, e, h1, h2, s1, s2, q⟩
theorem rd_neD {x y : V} {d e : PyData} (h1 : Dp K H x d) (h2 : Dp K H y e) (s1 : SeqAt.shaped d = true) (s2 : SeqAt.shaped e = true) (q : Q (.bl (!PyData.eqv d e)) H) : rNeD K x y H Q := ⟨d, e, h1, h2, s1, s2, q⟩
theorem lcat_tup {g : TG} {tt : TT} {te : TE} {vs : List Nat} {a : Addr} {xs : List V} (F : V → Option V) (hl : xs.length ≤ 1000000) (hx : H a = some (.tup xs))
    (hs : ∀ D i x H', H D = none → xs[i]? = some x → LcI xs F D H i H' → g x (wipe σ vs) H' fun σ2 H2 => wipe σ2 vs = wipe σ vs ∧ tt σ2 H2 fun b H3 =>
      if b = true then te σ2 H3 fun y H4 => ∃ acc, H4 D = some (.lst acc) ∧ acc.length < sizeLine ∧ LcI xs F D H (i + 1) (upd H4 D (.lst (acc ++ [y]))) else LcI xs F D H (i + 1) H3)
    (hd : ∀ D H', H D = none → Same H H' → H' D = some (.lst (xs.filterMap F)) → Q (.ref D) H') : LcAt g tt te vs σ Q (Itt K a) H := fun D hD =>
  lc_tup (K := K) (xs := xs) (LcI xs F D H) (LcI.zero hD) (fun i H' _ I => sqT_of (I.same _ _ hx)) (fun i x H' hc I => hs D i x H' hD hc I) fun H' I => hd D H' hD I.same I.done
theorem lcat_list {g : TG} {tt : TT} {te : TE} {vs : List Nat} {a : Addr} {xs : List V} (F : V → Option V) (hl : xs.length ≤ 1000000) (hx : H a = some (.lst xs))
    (hs : ∀ D i x H', H D = none → xs[i]? = some x → LcI xs F D H i H' → g x (wipe σ vs) H' fun σ2 H2 => wipe σ2 vs = wipe σ vs ∧ tt σ2 H2 fun b H3 =>
      if b = true then te σ2 H3 fun y H4 => ∃ acc, H4 D = some (.lst acc) ∧ acc.length < sizeLine ∧ LcI xs F D H (i + 1) (upd H4 D (.lst (acc ++ [y]))) else LcI xs F D H (i + 1) H3)
    (hd : ∀ D H', H D = none → Same H H' → H' D = some (.lst (xs.filterMap F)) → Q (.ref D) H') : LcAt g tt te vs σ Q (Itl K a) H := fun D hD =>
  lc_list (K := K) (xs := xs) (LcI xs F D H) (LcI.zero hD) (fun i H' _ I => sqL_of (I.same _ _ hx)) (fun i x H' hc I => hs D i x H' hD hc I) fun H' I => hd D H' hD I.same I.done
end
end EE

/-! Own layer: the end of a law whose def has a promise at places where nothing is being shown. -/
namespace EE
open PySem PySem.Spec PyProof.Rows L2
section
variable {P : Program} {w : World} {K : PySem.W.Frag} {mg mb : Str → Option Value} {CX : CXT} {k : Nat} {fa a : Addr} {fd : FuncData} {x : Str} {sp : Sp} {S : Shared} {us : List Value} {ns : List Int}
/-- the heap that tracks the script alone (nothing, if the module holds it) -/
def scrH (K : PySem.W.Frag) (a : Addr) (us : List Value) (ns : List Int) : Hp := fun b => if b = a ∧ K.lookup a = none then some (.frz { cls := .type "list", data := .seq us.toArray } (.lst (ns.map V.int))) else none
theorem scrH_some {b : Addr} {u : HO} (h : scrH K a us ns b = some u) : b = a ∧ K.lookup a = none ∧ u = .frz { cls := .type "list", data := .seq us.toArray } (.lst (ns.map V.int)) := by
  unfold scrH at h
  by_cases c : b = a ∧ K.lookup a = none
  · rw [if_pos c] at h
    exact ⟨c.1, c.2, (Option.some.inj h).symm⟩
  · rw [if_neg c] at h
    cases h
theorem scrH_only : Only (scrH K a us ns) := fun b => by
  cases q : scrH K a us ns b with
  | none => exact Or.inl rfl
  | some u =>
    obtain ⟨_, _, rfl⟩ := scrH_some q
    exact Or.inr ⟨_, _, rfl⟩
theorem end_law (kin : K.In S.heap) (gl : S.heap.Ns mainGlobals mg) (bl : S.heap.Ns builtinsNs mb) (bb : ∀ y : Str, y ≠ "__name__" → mb y = bootBuiltins y) (nol : S.heap.NoLimit) (gens : S.gens = #[])
    (scr : S.heap.get? a = some { cls := .type "list", data := .seq us.toArray }) (are : IntsAre us ns) (few : ns.length ≤ sizeLine) (room : RoomG k callerA)
    (F : ∀ base : Heap, K.In base → base.Ns mainGlobals mg → FnG P w K mg base CX k fa fd [x] sp) (bd : ∀ (t : Shared) (u : Value), BindsTo t fd ⟨[u], []⟩ [(x, u)])
    (hsp : ∀ H : Hp, Only H → SqL K H a (ns.map V.int) → sp [.ref a] H (fun v _ => v = .bl true) fun _ _ _ => False) (out : ∀ H e t, CX [] H S (fun _ _ _ => False) e t → False) :
    codeAny (model P w) callerA (Code.call (Value.ref fa) ⟨[.ref a], []⟩) (fun r t => r = .ok (.ret (.bool true)) ∧ OldK S.heap t.heap ∧ t.os = S.os ∧ AllBare t.gens) S := by
  have rel := vals_ints are
  have lens : us.length = ns.length := are.length
  let H := scrH K a us ns
  have one : ∀ {b : Addr} {u : HO}, H b = some u → b = a ∧ K.lookup a = none ∧ u = .frz { cls := .type "list", data := .seq us.toArray } (.lst (ns.map V.int)) := fun h => scrH_some h
  have ok : HOk P w H S.heap := fun b u h => by
    obtain ⟨rfl, _, rfl⟩ := one h
    exact ⟨scr, (by rw [List.length_map]; exact few), us, 0, rel, scr⟩
  -- dicts are not the script
  have ns_of : ∀ {b : Addr} {m : Str → Option Value}, S.heap.Ns b m → (hidT S.heap H).Ns b m := by
    rintro b m ⟨o, es, ep, e, d, r⟩
    refine ⟨o, es, ep, hidT_get e ?_, d, r⟩
    cases q : H b with
    | none => rfl
    | some u =>
      obtain ⟨rfl, _, _⟩ := one q
      rw [scr] at e
      cases e
      cases (show Data.seq us.toArray _ = Data.dict es ep from d)
  have kin0 : K.In (hidT S.heap H) := fun b o e => hidT_get (kin b o e) (by
    cases q : H b with
    | none => rfl
    | some u =>
      obtain ⟨rfl, nk, _⟩ := one q
      rw [nk] at e
      cases e)
  have gl0 := ns_of gl
  obtain ⟨mc, l1, l2⟩ := nol
  have e0 : Env0 P w K mg (hidT S.heap H) callerA [] S H := by
    refine ⟨rfl, ⟨kin0, gl0, ⟨mb, ns_of bl, bb⟩, ⟨mc, ns_of l1, l2⟩⟩, fun b o e => of_hidT e, ?_, trivial, ?_, ok, AllBare.of_eq gens⟩
    · rw [hidT_size]
      exact Nat.le_refl _
    · intro b hb
      cases (show b ∈ ([] : List Addr) from hb)
  have sq : SqL K H a (ns.map V.int) := by
    cases hk : K.lookup a with
    | none => exact Or.inl (Or.inr ⟨_, if_pos ⟨rfl, hk⟩⟩)
    | some o =>
      have e := kin a o hk
      rw [scr] at e
      cases e
      exact Or.inr ⟨_, us.toArray, _, hk, rfl, rfl, rfl, (by rw [List.size_toArray, lens]; exact few), (by simpa using rel)⟩
  refine codeAny_mono ((F _ kin0 gl0).runs callerA room [] S H ⟨[.ref a], []⟩ [.ref a] [.ref a] _ _ e0 (bd S (.ref a)) (Paired.cons rfl .nil) (hsp H scrH_only sq)) fun r t h => ?_
  match r, h with
  | .error e, h => exact (out H e t h).elim
  | .ok .next, h => exact h.elim
  | .ok .brk, h => exact h.elim
  | .ok .cont, h => exact h.elim
  | .ok (.ret u), ⟨v, H1, os, bare, un, ok1, rv, q⟩ =>
    have q1 : v = .bl true := q
    subst q1
    cases (show u = Value.bool true from rv)
    refine ⟨rfl, OldK.of_keep fun b o e => ?_, os, bare⟩
    cases z : H b with
    | none => exact un.keep b o e z (fun m => nomatch (show b ∈ ([] : List Addr) from m)) (fun m => nomatch m)
    | some u =>
      obtain ⟨rfl, _, rfl⟩ := one z
      obtain ⟨e2, _⟩ := ok1 b _ (un.frzs b _ _ z)
      rw [scr] at e
      cases e
      exact e2
end
/-- the goal that k_head leaves, from the law's promise -/
theorem walk_ofG {l : PySem.W.OpenLaw} {n k : Nat} {q : Program} {loose : List Str} {XP : (Str → Option Value) → Heap → Prop} {YP : World → Heap → Prop} {d : DefRec} {K : Params → PySem.W.Frag} {sp : PySem.W.Frag → Sp} {x : Str}
    (hn : l.most = some n) (hn2 : n ≤ sizeLine) (hdf : d.params.defaults = []) (room : RoomG k callerA) (hY : ∀ (w : World) (h : Heap), YP w h → (K w.params).In h)
    (F : ∀ (w : World) (mg : Str → Option Value) (fa : Addr) (h : Heap), (K w.params).In h → h.Ns mainGlobals mg → mg d.name = some (.ref fa) →
      ∃ fd : FuncData, (∀ (s : Shared) (u : Value), BindsTo s fd ⟨[u], []⟩ [(x, u)]) ∧ ∀ base : Heap, (K w.params).In base → base.Ns mainGlobals mg → FnG l.prog w (K w.params) mg base CX0 k fa fd [x] (sp (K w.params)))
    (hsp : ∀ (K : PySem.W.Frag) (H : Hp) (a : Addr) (ns : List Int), ns.length ≤ n → Only H → SqL K H a (ns.map V.int) → sp K [.ref a] H (fun v _ => v = .bl true) fun _ _ _ => False) :
    PySem.W.WalkO q loose XP YP l.row.toRowW d [] (fun f vs => PySem.call f vs) :=
  Att.attach_call hn hdf fun w s0 s1 mg mb fa o pm cd doc a us ns G Y ho hd hcd hmg hobj hints hlen hg => by
    have kin := hY w _ Y
    obtain ⟨fd, bd, hF⟩ := F w mg fa _ kin G.T.g hmg
    exact end_law kin G.T.g G.T.b G.T.builtins G.T.nolimit hg hobj hints (Nat.le_trans hlen hn2) room hF bd (fun H ho hs => hsp (K w.params) H a ns hlen ho hs) fun _ _ _ z => z
end EE

namespace My
open PySem PySem.Spec PyProof.Rows L2 EE
def topS (i : Nat) : Stmt := PySem.Challenge.pw_evenends_k02_names_and_integers_known.main.body.getD i (.Pass ⟨0, 0, 0, 0⟩)
abbrev s_is_name : Stmt := (topS 4)
abbrev s_is_integer : Stmt := (topS 5)
abbrev s__law_pen : Stmt := (topS 7)
abbrev s__law_draw : Stmt := (topS 8)
abbrev s__law_pick : Stmt := (topS 9)
abbrev s__law_word : Stmt := (topS 10)
abbrev s__law_bent : Stmt := (topS 11)
abbrev s__law_is_word : Stmt := (topS 12)
abbrev s__law_is_whole : Stmt := (topS 13)
abbrev s__law_great : Stmt := (topS 14)
abbrev s_law : Stmt := (topS 15)
theorem sc_is_name : FnScope ["value", "sign"] ["value"] (defScope s_is_name) := ⟨rfl, rfl, rfl, by decide +kernel, rfl, by decide +kernel, by decide +kernel⟩
theorem sc_is_integer : FnScope ["value"] ["value"] (defScope s_is_integer) := ⟨rfl, rfl, rfl, by decide +kernel, rfl, by decide +kernel, by decide +kernel⟩
theorem sc__law_pen : FnScope ["_law_script"] ["_law_script"] (defScope s__law_pen) := ⟨rfl, rfl, rfl, by decide +kernel, rfl, by decide +kernel, by decide +kernel⟩
theorem sc__law_draw : FnScope ["_law_pen_here", "_law_many", "_law_digit", "_law_at", "_law_cell", "_law_great_here", "_law_mixed"] ["_law_pen_here", "_law_many"] (defScope s__law_draw) := ⟨rfl, rfl, rfl, by decide +kernel, rfl, by decide +kernel, by decide +kernel⟩
theorem sc__law_pick : FnScope ["_law_pen_here", "_law_some"] ["_law_pen_here", "_law_some"] (defScope s__law_pick) := ⟨rfl, rfl, rfl, by decide +kernel, rfl, by decide +kernel, by decide +kernel⟩
theorem sc__law_word : FnScope ["_law_pen_here", "_law_letters", "_law_many", "_law_k"] ["_law_pen_here"] (defScope s__law_word) := ⟨rfl, rfl, rfl, by decide +kernel, rfl, by decide +kernel, by decide +kernel⟩
theorem sc__law_bent : FnScope ["_law_pen_here", "_law_word_here", "_law_at", "_law_sign"] ["_law_pen_here", "_law_word_here"] (defScope s__law_bent) := ⟨rfl, rfl, rfl, by decide +kernel, rfl, by decide +kernel, by decide +kernel⟩
theorem sc__law_is_word : FnScope ["_law_thing", "_law_sign"] ["_law_thing"] (defScope s__law_is_word) := ⟨rfl, rfl, rfl, by decide +kernel, rfl, by decide +kernel, by decide +kernel⟩
theorem sc__law_is_whole : FnScope ["_law_thing"] ["_law_thing"] (defScope s__law_is_whole) := ⟨rfl, rfl, rfl, by decide +kernel, rfl, by decide +kernel, by decide +kernel⟩
theorem sc__law_great : FnScope ["_law_pen_here", "_law_most", "_law_found", "_law_turn"] ["_law_pen_here", "_law_most"] (defScope s__law_great) := ⟨rfl, rfl, rfl, by decide +kernel, rfl, by decide +kernel, by decide +kernel⟩
theorem sc_law : FnScope ["_law_script", "_law_pen_here", "_law_turn", "_law_great_here", "_law_odd", "_law_word_here", "_law_thing", "_law_few"] ["_law_script"] (defScope s_law) := ⟨rfl, rfl, rfl, by decide +kernel, rfl, by decide +kernel, by decide +kernel⟩
local macro_rules | `(tactic| walk_at "sq") => `(tactic| first | assumption | exact sqL_of (by assumption) | exact sqT_of (by assumption))
local macro_rules | `(tactic| walk_at "r") => `(tactic| first
  | ((with_reducible show tVar _ _ _ _); refine ⟨_, rfl, ?_⟩)
  | (with_reducible refine rd_c ?_)
  | (with_reducible refine rd_op ?_)
  | (with_reducible refine rd_yes ?_)
  | (with_reducible refine iteT ?_)
  | (with_reducible refine iteF ?_)
  | (with_reducible refine iteNT ?_)
  | (with_reducible refine iteNF ?_)
  | (with_reducible refine rd_seq ?_)
  | (with_reducible refine rd_asg ?_)
  | (with_reducible refine rd_name ?_)
  | (with_reducible refine rd_ret ?_)
  | (with_reducible refine rd_retN ?_)
  | (with_reducible refine rd_drop ?_)
  | (with_reducible refine rd_next ?_)
  | (with_reducible refine rd_ifS ?_)
  | (with_reducible refine rd_ifE ?_)
  | (with_reducible refine rd_test ?_)
  | (with_reducible refine rd_B ?_)
  | (with_reducible refine rd_and ?_)
  | (with_reducible refine rd_or ?_)
  | (with_reducible refine rd_not ?_)
  | (with_reducible refine rd_andV ?_)
  | (with_reducible refine rd_orV ?_)
  | (with_reducible refine rd_notV ?_)
  | (with_reducible refine rd_nil ?_)
  | (with_reducible refine rd_cons ?_)
  | (with_reducible refine rd_call ?_)
  | (with_reducible refine rd_CB ?_)
  | (with_reducible refine rd_chain ?_)
  | (with_reducible refine rd_gsub ?_)
  | (with_reducible refine rd_part ?_)
  | (with_reducible refine rd_noPart ?_)
  | (with_reducible refine rd_sl ?_)
  | (with_reducible refine rd_tup ?_)
  | (with_reducible refine rd_lst ?_)
  | (with_reducible refine rd_bl ?_)
  | (with_reducible refine rd_exI ?_)
  | (with_reducible refine rd_exIs ?_)
  | (with_reducible refine rd_exR ?_)
  | (with_reducible refine rd_iRng1 ?_)
  | (with_reducible refine rd_iRng2 ?_)
  | (with_reducible refine rd_iList ?_)
  | (with_reducible refine rd_iTup ?_)
  | (with_reducible refine rd_callN ?_)
  | (with_reducible refine rd_pnil ?_)
  | (with_reducible refine rd_pcons ?_)
  | (with_reducible refine rd_exS ?_)
  | (with_reducible refine rd_isS ?_)
  | (with_reducible refine rd_add ?_)
  | (with_reducible refine rd_sub ?_)
  | (with_reducible refine rd_lt ?_)
  | (with_reducible refine rd_le ?_)
  | (with_reducible refine rd_gt ?_)
  | (with_reducible refine rd_ge ?_)
  | (with_reducible refine rd_eqI ?_)
  | (with_reducible refine rd_neI ?_)
  | (with_reducible refine rd_eqS ?_)
  | (with_reducible refine rd_neS ?_)
  | (with_reducible refine rd_mul ?_ ?_)
  | (with_reducible refine rd_mod ?_ ?_)
  | (with_reducible refine rd_fdiv ?_ ?_)
  | (with_reducible refine rd_pow ?_ ?_)
  | (with_reducible refine rd_int1 ?_)
  | (with_reducible refine rd_int1b ?_)
  | (with_reducible refine rd_abs ?_)
  | (with_reducible refine rd_strI ?_ ?_)
  | (with_reducible refine rd_addS ?_ ?_)
  | (with_reducible refine rd_inS ?_)
  | (with_reducible refine rd_notInS ?_)
  | (with_reducible refine rd_isN ?_)
  | (with_reducible refine rd_notN ?_)
  | (with_reducible refine rd_lenS ?_ ?_)
  | (with_reducible refine rd_slS ?_ ?_)
  | (with_reducible refine rd_lc ?_)
  | (with_reducible refine rd_for ?_)
  | (with_reducible refine rd_iStr ?_)
  | (with_reducible refine rd_M1 ?_)
  | (with_reducible refine rd_M0 ?_)
  | (with_reducible refine rd_un ?_)
  | (with_reducible refine rd_neg ?_))

structure Tx (K : PySem.W.Frag) (mg : Str → Option Value) : Prop where
  b_int : mg "int" = none
  b_len : mg "len" = none
  b_abs : mg "abs" = none
  b_str : mg "str" = none
  b_bool : mg "bool" = none
  b_list : mg "list" = none
  b_isinstance : mg "isinstance" = none
  b_all : mg "all" = none
  b_range : mg "range" = none
  b_repr : mg "repr" = none
  c_LETTERS : ∃ u, mg "LETTERS" = some u ∧ RelV (.str "abcdefghijklmnopqrstuvwxyz") u
  c_MOST_LETTERS : ∃ u, mg "MOST_LETTERS" = some u ∧ RelV (.int 8) u
  c_OWN : ∃ u, mg "OWN" = some u ∧ RelV (.str "self") u
def lets : Str := "abcdefghijklmnopqrstuvwxyz"
def nameS (z : Str) : Bool := decide (1 ≤ z.length ∧ z.length ≤ 8 ∧ z ≠ "self") && z.cps.toList.all (fun c => decide (c ∈ lets.cps.toList))
def nameV : V → Bool | .str z => nameS z | _ => false
def intV (x : V) : Bool := isIntV x && !isBoolV x
/-- a def of one value that tells a truth and changes nothing -/
def spV (f : V → Bool) : Sp := fun vs H Q _ => ∃ x, vs = [x] ∧ Th H x ∧ ∀ H', Same H H' → Q (.bl (f x)) H'
section
variable {P : Program} {w : World} {K : PySem.W.Frag} {mg : Str → Option Value} {base : Heap}
theorem ok_is_name {f : Addr} {fd : FuncData} (F : Fun K "is_name" "is_name" s_is_name f fd) (T : Tx K mg) : FnOk P w K mg base CX0 1 f fd ["value"] (spV nameV) := by
  refine F.ok sc_is_name (fun vs H Q E h => ?_) (fun cdv A outer s H vs Q E hr h => ?_)
  · obtain ⟨x, rfl, _⟩ := h
    rfl
  · obtain ⟨x, rfl, hx, k⟩ := h
    refine ⟨_, (pss_cons (ps_if (PW.pt (pw_or (pt_not (pt_val (pe_callB call_isi (by rfl) T.b_isinstance (by decide +kernel) (pa_cons (pv 0) (pa_cons (pe_bltn (v := .ty "str") (by rfl) T.b_str (by decide +kernel) rfl) pa_nil))))) (pw_or (pt_not (pt_chain op_le op_le pe_int (pe_callB cr_lenS (by rfl) T.b_len (by decide +kernel) (pa_cons (pv 0) pa_nil)) (C8.pe_gc (by rfl) T.c_MOST_LETTERS))) (pw_or1 (pt_cmpR op_eq (pv 0) (C8.pe_gc (by rfl) T.c_OWN) (nomark _)))))) (pss_one (ps_ret pe_bl)) pss_nil)
      (pss_one (ps_ret (pe_callB (cr_all rfl) (by rfl) T.b_all (by decide +kernel) (pa_cons (pe_lc (own := [("sign", 1)]) rfl sc_is_name.nd (pi_str (pv 0)) (blkOk_by (own := [("sign", 1)]) (N := ["value", "sign"]) (sc := defScope s_is_name) (by decide +kernel)) (fun _ _ _ _ _ => (pg_name (i := 1) sc_is_name.nd rfl (by first | exact Or.inl rfl | exact Or.inr rfl))) (fun _ _ _ _ _ => pts_nil) (fun _ _ _ _ _ => (pe_cmpR or_inS (pv 1) (C8.pe_gc (by rfl) T.c_LETTERS) rfl))) pa_nil))))), ?_⟩
    obtain ⟨t, ty, e1, _, _⟩ := hx.ty (K := K)
    repeat walk_at "r"
    refine rd_isi ty e1 ?_
    repeat walk_at "r"
    cases hx with
    | str z hl ha =>
      refine rd_iteF rfl ?_
      repeat walk_at "r"
      · refine rd_dec (fun c1 => ?_) (fun c1 => ?_)
        · repeat walk_at "r"
          refine rd_decN (fun c2 => ?_) (fun c2 => ?_)
          · repeat walk_at "r"
            have e : nameV (.str z) = false := by
              show nameS z = false
              unfold nameS
              rw [decide_eq_false (by omega), Bool.false_and]
            rw [← e]
            exact k _ (Same.refl _)
          · repeat walk_at "r"
            refine rd_dec (fun c3 => ?_) (fun c3 => ?_)
            · repeat walk_at "r"
              have e : nameV (.str z) = false := by
                show nameS z = false
                unfold nameS
                rw [decide_eq_false (fun q => q.2.2 c3), Bool.false_and]
              rw [← e]
              exact k _ (Same.refl _)
            · repeat walk_at "r"
              refine lcat_str (fun c => some (V.bl (decide (c ∈ lets.cps.toList)))) (by omega) (fun D i c H' hD hc I => ?_) (fun D H' hD sm hl2 => ?_)
              · repeat walk_at "r"
                refine ⟨rfl, ?_⟩
                repeat walk_at "r"
                exact I.some hD hc rfl (Same.refl _) (by rw [Array.length_toList]; exact Nat.le_trans hl (by decide))
              · repeat walk_at "r"
                rw [filterMap_some (fun c => V.bl (decide (c ∈ lets.cps.toList)))] at hl2
                refine rd_all (bs := z.cps.toList.map fun c => decide (c ∈ lets.cps.toList)) (sqL_of (by rw [List.map_map]; exact hl2)) ?_
                have e : nameV (.str z) = (z.cps.toList.map fun c => decide (c ∈ lets.cps.toList)).all id := by
                  show nameS z = _
                  unfold nameS
                  rw [decide_eq_true ⟨by omega, by omega, c3⟩, Bool.true_and, List.all_map]
                  rfl
                rw [← e]
                exact k _ sm
        · repeat walk_at "r"
          have e : nameV (.str z) = false := by
            show nameS z = false
            unfold nameS
            rw [decide_eq_false (by omega), Bool.false_and]
          rw [← e]
          exact k _ (Same.refl _)
      · exact small_sz hl
    | _ =>
      refine rd_iteT rfl ?_
      repeat walk_at "r"
      exact k _ (Same.refl _)

theorem ok_is_integer {f : Addr} {fd : FuncData} (F : Fun K "is_integer" "is_integer" s_is_integer f fd) (T : Tx K mg) : FnOk P w K mg base CX0 1 f fd ["value"] (spV intV) := by
  refine F.ok sc_is_integer (fun vs H Q E h => ?_) (fun cdv A outer s H vs Q E hr h => ?_)
  · obtain ⟨x, rfl, _⟩ := h
    rfl
  · obtain ⟨x, rfl, hx, k⟩ := h
    refine ⟨_, (pss_one (ps_ret (pe_and (pe_callB call_isi (by rfl) T.b_isinstance (by decide +kernel) (pa_cons (pv 0) (pa_cons (pe_bltn (v := .ty "int") (by rfl) T.b_int (by decide +kernel) rfl) pa_nil))) (pe_one (pe_not (pe_callB call_isi (by rfl) T.b_isinstance (by decide +kernel) (pa_cons (pv 0) (pa_cons (pe_bltn (v := .ty "bool") (by rfl) T.b_bool (by decide +kernel) rfl) pa_nil)))))))), ?_⟩
    obtain ⟨t, ty, _, e1, e2⟩ := hx.ty (K := K)
    repeat walk_at "r"
    refine rd_isi ty e1 ?_
    repeat walk_at "r"
    refine rd_ite (fun c => ?_) (fun c => ?_)
    · repeat walk_at "r"
      refine rd_isi ty e2 ?_
      repeat walk_at "r"
      have e : intV x = !isBoolV x := by unfold intV; rw [c]; rfl
      rw [← e]
      exact k _ (Same.refl _)
    · have e : intV x = false := by unfold intV; rw [c]; rfl
      rw [← e]
      exact k _ (Same.refl _)
theorem ok__law_is_whole {f : Addr} {fd : FuncData} (F : Fun K "_law_is_whole" "_law_is_whole" s__law_is_whole f fd) (T : Tx K mg) : FnOk P w K mg base CX0 1 f fd ["_law_thing"] (spV intV) := by
  refine F.ok sc__law_is_whole (fun vs H Q E h => ?_) (fun cdv A outer s H vs Q E hr h => ?_)
  · obtain ⟨x, rfl, _⟩ := h
    rfl
  · obtain ⟨x, rfl, hx, k⟩ := h
    refine ⟨_, (pss_one (ps_ret (pe_and (pe_callB call_isi (by rfl) T.b_isinstance (by decide +kernel) (pa_cons (pv 0) (pa_cons (pe_bltn (v := .ty "int") (by rfl) T.b_int (by decide +kernel) rfl) pa_nil))) (pe_one (pe_not (pe_callB call_isi (by rfl) T.b_isinstance (by decide +kernel) (pa_cons (pv 0) (pa_cons (pe_bltn (v := .ty "bool") (by rfl) T.b_bool (by decide +kernel) rfl) pa_nil)))))))), ?_⟩
    obtain ⟨t, ty, _, e1, e2⟩ := hx.ty (K := K)
    repeat walk_at "r"
    refine rd_isi ty e1 ?_
    repeat walk_at "r"
    refine rd_ite (fun c => ?_) (fun c => ?_)
    · repeat walk_at "r"
      refine rd_isi ty e2 ?_
      repeat walk_at "r"
      have e : intV x = !isBoolV x := by unfold intV; rw [c]; rfl
      rw [← e]
      exact k _ (Same.refl _)
    · have e : intV x = false := by unfold intV; rw [c]; rfl
      rw [← e]
      exact k _ (Same.refl _)
theorem ok__law_is_word {f : Addr} {fd : FuncData} (F : Fun K "_law_is_word" "_law_is_word" s__law_is_word f fd) (T : Tx K mg) : FnOk P w K mg base CX0 1 f fd ["_law_thing"] (spV nameV) := by
  refine F.ok sc__law_is_word (fun vs H Q E h => ?_) (fun cdv A outer s H vs Q E hr h => ?_)
  · obtain ⟨x, rfl, _⟩ := h
    rfl
  · obtain ⟨x, rfl, hx, k⟩ := h
    refine ⟨_, (pss_cons (ps_if (PW.pt (pw_or (pt_not (pt_val (pe_callB call_isi (by rfl) T.b_isinstance (by decide +kernel) (pa_cons (pv 0) (pa_cons (pe_bltn (v := .ty "str") (by rfl) T.b_str (by decide +kernel) rfl) pa_nil))))) (pw_or (pt_not (pt_chain op_lt op_lt pe_int (pe_callB cr_lenS (by rfl) T.b_len (by decide +kernel) (pa_cons (pv 0) pa_nil)) pe_int)) (pw_or1 (pt_cmpR op_eq (pv 0) pe_str (nomark _)))))) (pss_one (ps_ret pe_bl)) pss_nil)
      (pss_one (ps_ret (pe_cmpR (op_eqD hr.units) (pe_lc (own := [("_law_sign", 1)]) rfl sc__law_is_word.nd (pi_str (pv 0)) (blkOk_by (own := [("_law_sign", 1)]) (N := ["_law_thing", "_law_sign"]) (sc := defScope s__law_is_word) (by decide +kernel)) (fun _ _ _ _ _ => (pg_name (i := 1) sc__law_is_word.nd rfl (by first | exact Or.inl rfl | exact Or.inr rfl))) (fun _ _ _ _ _ => (pts_one (pt_cmpR or_notInS (pv 1) pe_str rfl))) (fun _ _ _ _ _ => (pv 1))) (pe_lst pa_nil) (nomark _))))), ?_⟩
    obtain ⟨t, ty, e1, _, _⟩ := hx.ty (K := K)
    repeat walk_at "r"
    refine rd_isi ty e1 ?_
    repeat walk_at "r"
    cases hx with
    | str z hl ha =>
      refine rd_iteF rfl ?_
      have bad : ¬ (1 ≤ z.length ∧ z.length ≤ 8 ∧ z ≠ "self") → nameV (.str z) = false := fun q => by
        show nameS z = false
        unfold nameS
        rw [decide_eq_false q, Bool.false_and]
      repeat walk_at "r"
      · refine rd_dec (fun c1 => ?_) (fun c1 => ?_)
        · repeat walk_at "r"
          refine rd_decN (fun c2 => ?_) (fun c2 => ?_)
          · repeat walk_at "r"
            rw [← bad (by omega)]
            exact k _ (Same.refl _)
          · repeat walk_at "r"
            refine rd_dec (fun c3 => ?_) (fun c3 => ?_)
            · repeat walk_at "r"
              rw [← bad (fun q => q.2.2 c3)]
              exact k _ (Same.refl _)
            · repeat walk_at "r"
              refine lcat_str (fun c => if c ∈ lets.cps.toList then none else some (V.str ⟨#[c]⟩)) (by omega) (fun D i c H' hD hc I => ?_) (fun D H' hD sm hl2 => ?_)
              · repeat walk_at "r"
                refine ⟨rfl, ?_⟩
                repeat walk_at "r"
                refine rd_decN (fun c4 => ?_) (fun c4 => ?_)
                · repeat walk_at "r"
                  exact I.some hD hc (if_neg c4) (Same.refl _) (by rw [Array.length_toList]; exact Nat.le_trans hl (by decide))
                · exact I.none hc (if_pos c4) (Same.refl _)
              · repeat walk_at "r"
                refine new_lst (by decide) fun o H2 ho so o2 => ?_
                have hm : z.cps.toList.filterMap (fun c => if c ∈ lets.cps.toList then none else some (V.str ⟨#[c]⟩)) = (z.cps.toList.filterMap fun c => if c ∈ lets.cps.toList then none else some (⟨#[c]⟩ : Str)).map V.str := by
                  rw [List.map_filterMap]
                  congr 1
                  funext c
                  by_cases hc : c ∈ lets.cps.toList
                  · rw [if_pos hc, if_pos hc]; rfl
                  · rw [if_neg hc, if_neg hc]; rfl
                rw [hm] at hl2
                refine rd_eqNilS (sqL_of (so _ _ hl2)) o2 (fun y hy => ?_) ?_
                · obtain ⟨c, hc, e⟩ := List.mem_filterMap.mp hy
                  by_cases hcl : c ∈ lets.cps.toList
                  · rw [if_pos hcl] at e; cases e
                  · rw [if_neg hcl] at e
                    cases e
                    exact asc_one (ha c hc)
                · have e : nameV (.str z) = decide ((z.cps.toList.filterMap fun c => if c ∈ lets.cps.toList then none else some (⟨#[c]⟩ : Str)) = []) := by
                    show nameS z = _
                    unfold nameS
                    rw [decide_eq_true ⟨by omega, by omega, c3⟩, Bool.true_and]
                    rw [Bool.eq_iff_iff, List.all_eq_true, decide_eq_true_iff, List.filterMap_eq_nil_iff]
                    constructor
                    · intro h c hc
                      rw [if_pos (of_decide_eq_true (h c hc))]
                    · intro h c hc
                      have := h c hc
                      by_cases hcl : c ∈ lets.cps.toList
                      · exact decide_eq_true hcl
                      · rw [if_neg hcl] at this; cases this
                  rw [← e]
                  exact k _ (fun b o q => so _ _ (sm _ _ q))
        · repeat walk_at "r"
          rw [← bad (by omega)]
          exact k _ (Same.refl _)
      · exact small_sz hl
    | _ =>
      refine rd_iteT rfl ?_
      repeat walk_at "r"
      exact k _ (Same.refl _)
end

end My

namespace My
open PySem PySem.Spec PyProof.Rows L2 EE

local macro_rules | `(tactic| walk_at "sq") => `(tactic| first | assumption | exact sqL_of (by assumption) | exact sqT_of (by assumption))
local macro_rules | `(tactic| walk_at "r") => `(tactic| first
  | ((with_reducible show tVar _ _ _ _); refine ⟨_, rfl, ?_⟩)
  | (with_reducible refine rd_c ?_)
  | (with_reducible refine rd_op ?_)
  | (with_reducible refine rd_yes ?_)
  | (with_reducible refine iteT ?_)
  | (with_reducible refine iteF ?_)
  | (with_reducible refine iteNT ?_)
  | (with_reducible refine iteNF ?_)
  | (with_reducible refine rd_seq ?_)
  | (with_reducible refine rd_asg ?_)
  | (with_reducible refine rd_name ?_)
  | (with_reducible refine rd_ret ?_)
  | (with_reducible refine rd_retN ?_)
  | (with_reducible refine rd_drop ?_)
  | (with_reducible refine rd_next ?_)
  | (with_reducible refine rd_ifS ?_)
  | (with_reducible refine rd_ifE ?_)
  | (with_reducible refine rd_test ?_)
  | (with_reducible refine rd_B ?_)
  | (with_reducible refine rd_and ?_)
  | (with_reducible refine rd_or ?_)
  | (with_reducible refine rd_not ?_)
  | (with_reducible refine rd_andV ?_)
  | (with_reducible refine rd_orV ?_)
  | (with_reducible refine rd_notV ?_)
  | (with_reducible refine rd_nil ?_)
  | (with_reducible refine rd_cons ?_)
  | (with_reducible refine rd_call ?_)
  | (with_reducible refine rd_CB ?_)
  | (with_reducible refine rd_chain ?_)
  | (with_reducible refine rd_gsub ?_)
  | (with_reducible refine rd_part ?_)
  | (with_reducible refine rd_noPart ?_)
  | (with_reducible refine rd_sl ?_)
  | (with_reducible refine rd_tup ?_)
  | (with_reducible refine rd_lst ?_)
  | (with_reducible refine rd_bl ?_)
  | (with_reducible refine rd_exI ?_)
  | (with_reducible refine rd_exIs ?_)
  | (with_reducible refine rd_exR ?_)
  | (with_reducible refine rd_iRng1 ?_)
  | (with_reducible refine rd_iRng2 ?_)
  | (with_reducible refine rd_iList ?_)
  | (with_reducible refine rd_iTup ?_)
  | (with_reducible refine rd_callN ?_)
  | (with_reducible refine rd_pnil ?_)
  | (with_reducible refine rd_pcons ?_)
  | (with_reducible refine rd_exS ?_)
  | (with_reducible refine rd_isS ?_)
  | (with_reducible refine rd_add ?_)
  | (with_reducible refine rd_sub ?_)
  | (with_reducible refine rd_lt ?_)
  | (with_reducible refine rd_le ?_)
  | (with_reducible refine rd_gt ?_)
  | (with_reducible refine rd_ge ?_)
  | (with_reducible refine rd_eqI ?_)
  | (with_reducible refine rd_neI ?_)
  | (with_reducible refine rd_eqS ?_)
  | (with_reducible refine rd_neS ?_)
  | (with_reducible refine rd_mul ?_ ?_)
  | (with_reducible refine rd_mod ?_ ?_)
  | (with_reducible refine rd_fdiv ?_ ?_)
  | (with_reducible refine rd_pow ?_ ?_)
  | (with_reducible refine rd_int1 ?_)
  | (with_reducible refine rd_int1b ?_)
  | (with_reducible refine rd_abs ?_)
  | (with_reducible refine rd_strI ?_ ?_)
  | (with_reducible refine rd_addS ?_ ?_)
  | (with_reducible refine rd_inS ?_)
  | (with_reducible refine rd_notInS ?_)
  | (with_reducible refine rd_isN ?_)
  | (with_reducible refine rd_notN ?_)
  | (with_reducible refine rd_lenS ?_ ?_)
  | (with_reducible refine rd_slS ?_ ?_)
  | (with_reducible refine rd_lc ?_)
  | (with_reducible refine rd_for ?_)
  | (with_reducible refine rd_iStr ?_)
  | (with_reducible refine rd_M1 ?_)
  | (with_reducible refine rd_M0 ?_)
  | (with_reducible refine rd_un ?_)
  | (with_reducible refine rd_neg ?_))

section
variable {P : Program} {w : World} {K : PySem.W.Frag} {mg : Str → Option Value} {base : Heap}
theorem ok__law_draw {f : Addr} {fd : FuncData} (F : Fun K "_law_draw" "_law_draw" s__law_draw f fd) (T : Tx K mg) : FnOk P w K mg base CX0 1 f fd ["_law_pen_here", "_law_many"] spDraw := by
  refine F.ok sc__law_draw (fun vs H Q E h => ?_) (fun cdv A outer s H vs Q E hr h => ?_)
  · obtain ⟨p, q, many, n, rfl, _⟩ := h
    rfl
  · obtain ⟨p, q, many, n, rfl, h0, h1, hn, hp, k⟩ := h
    have hu := hu_of hr
    refine ⟨_, (pss_cons (ps_if (pt_cmpR op_gt (pe_ix ix_list (pv 0) pe_int (fun _ _ => rfl)) pe_int (nomark _)) (pss_cons (ps_set (i := 2) sc__law_draw.nd rfl (by first | exact Or.inl rfl | exact Or.inr rfl) (pe_op op_mod (pe_callTy cr_int1 (by rfl) T.b_int (by decide +kernel) (pa_cons (pe_ix ix_list (pv 0) pe_int (fun _ _ => rfl)) pa_nil)) (pv 1)))
      (pss_cons (ps_asg (pe_op op_fdiv (pe_callTy cr_int1 (by rfl) T.b_int (by decide +kernel) (pa_cons (pe_ix ix_list (pv 0) pe_int (fun _ _ => rfl)) pa_nil)) (pv 1)) (pg_sub (pv 0) pe_int set_list))
      (pss_one (ps_ret (pv 2))))) pss_nil)
      (pss_cons (ps_set (i := 3) sc__law_draw.nd rfl (by first | exact Or.inl rfl | exact Or.inr rfl) (pe_ix ix_list (pv 0) pe_int (fun _ _ => rfl)))
      (pss_cons (ps_asg (pe_op op_add (pv 3) pe_int) (pg_sub (pv 0) pe_int set_list))
      (pss_cons (ps_set (i := 4) sc__law_draw.nd rfl (by first | exact Or.inl rfl | exact Or.inr rfl) (pe_op op_add (pe_op op_mul pe_int (pv 3)) pe_int))
      (Evl.pss_cut (ps_if (pt_cmpR (op_neD hr.units) (pe_ix ix_list (pv 0) pe_int (fun _ _ => rfl)) (pe_lst pa_nil) (nomark _)) (pss_one (ps_set (i := 4) sc__law_draw.nd rfl (by first | exact Or.inl rfl | exact Or.inr rfl) (pe_ix ix_list (pe_ix ix_list (pv 0) pe_int (fun _ _ => rfl)) (pe_op op_mod (pe_callTy cr_int1 (by rfl) T.b_int (by decide +kernel) (pa_cons (pv 3) pa_nil)) (pe_callB cr_lenQ (by rfl) T.b_len (by decide +kernel) (pa_cons (pe_ix ix_list (pv 0) pe_int (fun _ _ => rfl)) pa_nil))) (fun _ _ => rfl)))) pss_nil)
      (Evl.pss_cut (ps_if (PW.pt (pw_and (pt_cmpR op_lt (pv 3) (pe_callB cr_lenQ (by rfl) T.b_len (by decide +kernel) (pa_cons (pe_ix ix_list (pv 0) pe_int (fun _ _ => rfl)) pa_nil)) (nomark _)) (pw_and1 (pt_cmpR op_ge (pe_callB cr_abs (by rfl) T.b_abs (by decide +kernel) (pa_cons (pv 4) pa_nil)) (pe_op op_pow pe_int pe_int) (nomark _))))) (pss_cons (ps_set (i := 5) sc__law_draw.nd rfl (by first | exact Or.inl rfl | exact Or.inr rfl) (pe_op op_add (pe_op op_mul pe_int (pe_op op_sub (pe_callB cr_abs (by rfl) T.b_abs (by decide +kernel) (pa_cons (pv 4) pa_nil)) (pe_op op_pow pe_int pe_int))) (pe_callTy cr_int1 (by rfl) T.b_int (by decide +kernel) (pa_cons (pe_cmpR op_lt (pv 4) pe_int (nomark _)) pa_nil))))
      (pss_cons (ps_asg (pe_op op_fdiv (pv 5) (pv 1)) (pg_sub (pv 0) pe_int set_list))
      (pss_one (ps_ret (pe_op op_mod (pe_callTy cr_int1 (by rfl) T.b_int (by decide +kernel) (pa_cons (pv 5) pa_nil)) (pv 1)))))) pss_nil)
      (pss_cons (ps_set (i := 6) sc__law_draw.nd rfl (by first | exact Or.inl rfl | exact Or.inr rfl) (pe_op op_mod (pe_callTy cr_int1 (by rfl) T.b_int (by decide +kernel) (pa_cons (pe_op op_pow (pe_op op_add (pe_op op_add (pe_op op_mod (pe_callTy cr_int1 (by rfl) T.b_int (by decide +kernel) (pa_cons (pv 4) pa_nil)) pe_int) (pe_op op_mul pe_int (pv 3))) pe_int) pe_int) pa_nil)) pe_int))
      (pss_cons (ps_set (i := 6) sc__law_draw.nd rfl (by first | exact Or.inl rfl | exact Or.inr rfl) (pe_op op_mod (pe_callTy cr_int1 (by rfl) T.b_int (by decide +kernel) (pa_cons (pe_op op_pow (pe_op op_add (pe_op op_add (pe_op op_mul (pv 6) (pe_op op_add (pe_op op_mul pe_int (pv 3)) pe_int)) (pe_op op_mul (pe_op op_mul pe_int (pv 3)) (pv 3))) pe_int) pe_int) pa_nil)) pe_int))
      (pss_one (ps_ret (pe_op op_mod (pe_callTy cr_int1 (by rfl) T.b_int (by decide +kernel) (pa_cons (pe_op op_fdiv (pv 6) pe_int) pa_nil)) (pv 1)))))))))))), ?_⟩
    obtain ⟨ns, a, r, hp, hq, ha0, han, hl⟩ := hp
    have nqp : q ≠ p := ne_of hq hp (by intro z; injection z with z; cases ns with
      | nil => cases z
      | cons m ms => cases z)
    repeat walk_at "r"
    refine rd_ixL (sqL_of hp) rfl ?_
    repeat walk_at "r"
    refine rd_dec (fun c => ?_) (fun c => ?_)
    · repeat walk_at "r"
      refine rd_ixL (sqL_of hp) rfl ?_
      repeat walk_at "r"
      · refine rd_ixL (sqL_of hp) rfl ?_
        repeat walk_at "r"
        · refine sto_lst hp rfl (fun H1 e1 p1 => ?_)
          repeat walk_at "r"
          exact k _ _ (modLo h0) (modHi h0) e1 ⟨ns, a, _, p1, e1 _ _ nqp hq, ha0, by omega, hl⟩
        · exact ⟨h0, h1⟩
      · exact h0
    · repeat walk_at "r"
      refine rd_ixL (sqL_of hp) rfl ?_
      repeat walk_at "r"
      refine sto_lst hp rfl (fun H1 e1 p1 => ?_)
      have q1 := e1 _ _ nqp hq
      repeat walk_at "r"
      · refine ⟨fun σ' H' => ∃ cell : Int, σ' = [some (.ref p), some (.int many), none, some (.int a), some (.int cell), none, none] ∧ H' p = some (.lst [.ref q, .int (a + 1), .int r]) ∧ H' q = some (.lst (ns.map V.int)) ∧ But p H H', ?_, ?_⟩
        · repeat walk_at "r"
          refine rd_ixL (sqL_of p1) rfl ?_
          repeat walk_at "r"
          refine new_lst (by decide) fun o H2 ho e2 o2 => ?_
          have p2 := e2 _ _ p1
          have q2 := e2 _ _ q1
          have e12 := e1.then e2
          refine rd_neNil (sqL_of q2) o2 ?_
          repeat walk_at "r"
          refine rd_dec (fun hne => ?_) (fun c2 => ?_)
          · have hpos : 0 < (ns.map V.int).length := by rw [List.length_map]; exact List.length_pos_iff.mpr hne
            repeat walk_at "r"
            refine rd_ixL (sqL_of p2) rfl ?_
            repeat walk_at "r"
            refine rd_ixL (sqL_of p2) rfl ?_
            repeat walk_at "r"
            refine rd_len (sqL_of q2) ?_
            repeat walk_at "r"
            · obtain ⟨j, hj, _, hat⟩ := atI_lt (xs := ns.map V.int) (i := a % ((ns.map V.int).length : Nat)) (modLo (by omega)) (modHi (by omega))
              rw [List.getElem_map] at hat
              refine rd_ixL (sqL_of q2) hat ?_
              repeat walk_at "r"
              exact ⟨_, rfl, p2, q2, e12⟩
            · omega
          · repeat walk_at "r"
            exact ⟨_, rfl, p2, q2, e12⟩
        · rintro σ' H2 ⟨cell, rfl, p2, q2, e2⟩
          repeat walk_at "r"
          refine ⟨fun σ' H' => σ' = [some (.ref p), some (.int many), none, some (.int a), some (.int cell), none, none] ∧ H' = H2, ?_, ?_⟩
          · repeat walk_at "r"
            refine rd_ixL (sqL_of p2) rfl ?_
            repeat walk_at "r"
            refine rd_len (sqL_of q2) ?_
            repeat walk_at "r"
            refine rd_dec (fun c3 => ?_) (fun c3 => ⟨rfl, rfl⟩)
            repeat walk_at "r"
            · refine rd_dec (fun c4 => ?_) (fun c4 => ⟨rfl, rfl⟩)
              repeat walk_at "r"
              · refine sto_lst p2 rfl (fun H3 e3 p3 => ?_)
                repeat walk_at "r"
                · exact k _ _ (modLo h0) (modHi h0) (e2.trans e3) ⟨ns, a + 1, _, p3, e3 _ _ nqp q2, by omega, by omega, hl⟩
                · exact h0
              all_goals first
                | exact ⟨h0, h1⟩
                | exact .inl (by decide)
                | exact ⟨by decide, by decide, by decide⟩
            · exact ⟨by decide, by decide, by decide⟩
          · rintro σ' H' ⟨rfl, rfl⟩
            have hb0 : 0 ≤ cell % 2147483549 := modLo (by decide)
            have hb1 : cell % 2147483549 < 2147483549 := modHi (by decide)
            repeat walk_at "r"
            · exact k _ _ (modLo h0) (modHi h0) e2 ⟨ns, a + 1, r, p2, q2, by omega, by omega, hl⟩
            all_goals first
              | exact h0
              | decide
              | exact ⟨by decide, by decide⟩
              | exact .inl (by omega)
              | exact mixMul ha0 (by omega) (by decide) (by decide)
              | exact mixL (by decide) (by decide)
              | exact ⟨by decide, by decide, by omega⟩
              | exact mixOk (modLo (by decide)) (Int.lt_trans (modHi (by decide)) (by decide)) ha0 (by omega) (by decide) (by decide) (by decide) (by decide) (by decide) (by decide)
      · exact .inl (by decide)
theorem ok__law_pen {f : Addr} {fd : FuncData} (F : Fun K "_law_pen" "_law_pen" s__law_pen f fd) (T : Tx K mg) : FnOk P w K mg base CX0 1 f fd ["_law_script"] (spPen K) := by
  refine F.ok sc__law_pen (fun vs H Q E h => ?_) (fun cdv A outer s H vs Q E hr h => ?_)
  · obtain ⟨a, ns, rfl, _⟩ := h
    rfl
  · obtain ⟨a, ns, rfl, hs, hl, k⟩ := h
    refine ⟨_, (pss_one (ps_ret (pe_lst (pa_cons (pe_callTy cr_listOf (by rfl) T.b_list (by decide +kernel) (pa_cons (pe_slice sl_list (pv 0) po_none (po_some pe_int)) pa_nil)) (pa_cons pe_int (pa_cons pe_int pa_nil)))))), ?_⟩
    repeat walk_at "r"
    refine rd_slL hs fun p1 H1 n1 s1 h1 => ?_
    repeat walk_at "r"
    rw [cutV_ints] at h1
    refine rd_listOf (sqL_of h1) fun p2 H2 n2 s2 h2 => ?_
    repeat walk_at "r"
    refine new_lst (by show 3 ≤ sizeLine; decide) fun p3 H3 n3 s3 h3 => ?_
    refine k p3 p2 H3 (Same.free (s1.trans s2) n3) ((s1.trans s2).trans s3) ⟨_, 0, 0, h3, s3 _ _ h2, Int.le_refl _, Int.le_refl _, ?_⟩
    exact Nat.le_trans (len_cutI _ _ _) hl
theorem ok__law_pick {f fD : Addr} {fd fdD : FuncData} (F : Fun K "_law_pick" "_law_pick" s__law_pick f fd) (T : Tx K mg) (C__law_draw : Cal P w K mg base 1 "_law_draw" s__law_draw ["_law_pen_here", "_law_many"] spDraw fD fdD) : FnOk P w K mg base CX0 2 f fd ["_law_pen_here", "_law_some"] spPickL := by
  refine F.ok sc__law_pick (fun vs H Q E h => ?_) (fun cdv A outer s H vs Q E hr h => ?_)
  · obtain ⟨p, q, l, xs, n, rfl, _⟩ := h
    rfl
  · obtain ⟨p, q, l, xs, n, rfl, hx, hlp, h0, h1, hn, hp, k⟩ := h
    refine ⟨_, (pss_one (ps_ret (pe_ix ix_list (pv 1) (pe_call C__law_draw.G (hr.mono (by decide)) (by rfl) C__law_draw.g C__law_draw.F.kp C__law_draw.b .nil pass0 (pa_cons (pv 0) (pa_cons (pe_callB cr_lenQ (by rfl) T.b_len (by decide +kernel) (pa_cons (pv 1) pa_nil)) pa_nil))) (fun _ _ => rfl)))), ?_⟩
    repeat walk_at "r"
    refine rd_len (sqL_of hx) ?_
    repeat walk_at "r"
    refine ⟨p, q, _, n, rfl, by omega, by omega, hn, hp, fun d H' d0 d1 sm hp' => ?_⟩
    obtain ⟨j, hj, _, hat⟩ := atI_lt (xs := xs) (i := d) d0 d1
    refine rd_ixL (sqL_of (sm _ _ hlp hx)) hat ?_
    exact k _ _ (List.getElem_mem hj) sm hp'

end

end My

namespace My
open PySem PySem.Spec PyProof.Rows L2 EE

local macro_rules | `(tactic| walk_at "sq") => `(tactic| first | assumption | exact sqL_of (by assumption) | exact sqT_of (by assumption))
local macro_rules | `(tactic| walk_at "r") => `(tactic| first
  | ((with_reducible show tVar _ _ _ _); refine ⟨_, rfl, ?_⟩)
  | (with_reducible refine rd_c ?_)
  | (with_reducible refine rd_op ?_)
  | (with_reducible refine rd_yes ?_)
  | (with_reducible refine iteT ?_)
  | (with_reducible refine iteF ?_)
  | (with_reducible refine iteNT ?_)
  | (with_reducible refine iteNF ?_)
  | (with_reducible refine rd_seq ?_)
  | (with_reducible refine rd_asg ?_)
  | (with_reducible refine rd_name ?_)
  | (with_reducible refine rd_ret ?_)
  | (with_reducible refine rd_retN ?_)
  | (with_reducible refine rd_drop ?_)
  | (with_reducible refine rd_next ?_)
  | (with_reducible refine rd_ifS ?_)
  | (with_reducible refine rd_ifE ?_)
  | (with_reducible refine rd_test ?_)
  | (with_reducible refine rd_B ?_)
  | (with_reducible refine rd_and ?_)
  | (with_reducible refine rd_or ?_)
  | (with_reducible refine rd_not ?_)
  | (with_reducible refine rd_andV ?_)
  | (with_reducible refine rd_orV ?_)
  | (with_reducible refine rd_notV ?_)
  | (with_reducible refine rd_nil ?_)
  | (with_reducible refine rd_cons ?_)
  | (with_reducible refine rd_call ?_)
  | (with_reducible refine rd_CB ?_)
  | (with_reducible refine rd_chain ?_)
  | (with_reducible refine rd_gsub ?_)
  | (with_reducible refine rd_part ?_)
  | (with_reducible refine rd_noPart ?_)
  | (with_reducible refine rd_sl ?_)
  | (with_reducible refine rd_tup ?_)
  | (with_reducible refine rd_lst ?_)
  | (with_reducible refine rd_bl ?_)
  | (with_reducible refine rd_exI ?_)
  | (with_reducible refine rd_exIs ?_)
  | (with_reducible refine rd_exR ?_)
  | (with_reducible refine rd_iRng1 ?_)
  | (with_reducible refine rd_iRng2 ?_)
  | (with_reducible refine rd_iList ?_)
  | (with_reducible refine rd_iTup ?_)
  | (with_reducible refine rd_callN ?_)
  | (with_reducible refine rd_pnil ?_)
  | (with_reducible refine rd_pcons ?_)
  | (with_reducible refine rd_exS ?_)
  | (with_reducible refine rd_isS ?_)
  | (with_reducible refine rd_add ?_)
  | (with_reducible refine rd_sub ?_)
  | (with_reducible refine rd_lt ?_)
  | (with_reducible refine rd_le ?_)
  | (with_reducible refine rd_gt ?_)
  | (with_reducible refine rd_ge ?_)
  | (with_reducible refine rd_eqI ?_)
  | (with_reducible refine rd_neI ?_)
  | (with_reducible refine rd_eqS ?_)
  | (with_reducible refine rd_neS ?_)
  | (with_reducible refine rd_mul ?_ ?_)
  | (with_reducible refine rd_mod ?_ ?_)
  | (with_reducible refine rd_fdiv ?_ ?_)
  | (with_reducible refine rd_pow ?_ ?_)
  | (with_reducible refine rd_int1 ?_)
  | (with_reducible refine rd_int1b ?_)
  | (with_reducible refine rd_abs ?_)
  | (with_reducible refine rd_strI ?_ ?_)
  | (with_reducible refine rd_addS ?_ ?_)
  | (with_reducible refine rd_inS ?_)
  | (with_reducible refine rd_notInS ?_)
  | (with_reducible refine rd_isN ?_)
  | (with_reducible refine rd_notN ?_)
  | (with_reducible refine rd_lenS ?_ ?_)
  | (with_reducible refine rd_slS ?_ ?_)
  | (with_reducible refine rd_lc ?_)
  | (with_reducible refine rd_for ?_)
  | (with_reducible refine rd_iStr ?_)
  | (with_reducible refine rd_M1 ?_)
  | (with_reducible refine rd_M0 ?_)
  | (with_reducible refine rd_un ?_)
  | (with_reducible refine rd_neg ?_))

section
variable {P : Program} {w : World} {K : PySem.W.Frag} {mg : Str → Option Value} {base : Heap}
def spWord : Sp := fun vs H Q _ => ∃ (p q : Addr) (n : Nat), vs = [.ref p] ∧ n ≤ 900000 ∧ PenAt n H p q ∧ ∀ (z : Str) H', z.length ≤ 9 → Asc z → But p H H' → PenAt (n + 11) H' p q → Q (.str z) H'
theorem ok__law_word {f fD : Addr} {fd fdD : FuncData} (F : Fun K "_law_word" "_law_word" s__law_word f fd) (T : Tx K mg) (C__law_draw : Cal P w K mg base 1 "_law_draw" s__law_draw ["_law_pen_here", "_law_many"] spDraw fD fdD) : FnOk P w K mg base CX0 2 f fd ["_law_pen_here"] spWord := by
  refine F.ok sc__law_word (fun vs H Q E h => ?_) (fun cdv A outer s H vs Q E hr h => ?_)
  · obtain ⟨p, q, n, rfl, _⟩ := h
    rfl
  · obtain ⟨p, q, n, rfl, hn, hp, k⟩ := h
    refine ⟨_, (pss_cons (ps_set (i := 1) sc__law_word.nd rfl (by first | exact Or.inl rfl | exact Or.inr rfl) pe_str)
      (pss_cons (ps_set (i := 2) sc__law_word.nd rfl (by first | exact Or.inl rfl | exact Or.inr rfl) (pe_ix ix_list (pe_lst (pa_cons pe_int (pa_cons pe_int (pa_cons pe_int (pa_cons pe_int (pa_cons pe_int (pa_cons (pe_op op_add pe_int (pe_call C__law_draw.G (hr.mono (by decide)) (by rfl) C__law_draw.g C__law_draw.F.kp C__law_draw.b .nil pass0 (pa_cons (pv 0) (pa_cons pe_int pa_nil)))) pa_nil))))))) (pe_call C__law_draw.G (hr.mono (by decide)) (by rfl) C__law_draw.g C__law_draw.F.kp C__law_draw.b .nil pass0 (pa_cons (pv 0) (pa_cons pe_int pa_nil))) (fun _ _ => rfl)))
      (pss_one (ps_ret (pe_m1 PySem.F.slot_str_join PySem.F.type_str_join mt_joinN pe_str (pe_lc (own := [("_law_k", 3)]) rfl sc__law_word.nd (pi_range1 (by rfl) T.b_range (pa_cons (pv 2) pa_nil)) (blkOk_by (own := [("_law_k", 3)]) (N := ["_law_pen_here", "_law_letters", "_law_many", "_law_k"]) (sc := defScope s__law_word) (by decide +kernel)) (fun _ _ _ _ _ => (pg_name (i := 3) sc__law_word.nd rfl (by first | exact Or.inl rfl | exact Or.inr rfl))) (fun _ _ _ _ _ => pts_nil) (fun _ _ _ _ _ => (pe_ix ix_str (pv 1) (pe_call C__law_draw.G (hr.mono (by decide)) (by rfl) C__law_draw.g C__law_draw.F.kp C__law_draw.b .nil pass0 (pa_cons (pv 0) (pa_cons pe_int pa_nil))) (fun _ _ => rfl))))))))), ?_⟩
    repeat walk_at "r"
    refine ⟨p, q, _, n, rfl, by decide, by decide, by omega, hp, fun d1 H1 d10 d11 s1 hp1 => ?_⟩
    repeat walk_at "r"
    refine new_lst (by show 6 ≤ sizeLine; decide) fun l H2 n2 s2 h2 => ?_
    have hp2 := hp1.keep s2
    have s12 := s1.then s2
    have lp := (hp1.off n2).1
    repeat walk_at "r"
    refine ⟨p, q, _, n + 1, rfl, by decide, by decide, by omega, hp2, fun d2 H3 d20 d21 s3 hp3 => ?_⟩
    have s13 := s12.trans s3
    obtain ⟨j, hj, _, hat⟩ := atI_lt (xs := [V.int 0, .int 1, .int 2, .int 8, .int 9, .int (1 + d1)]) (i := d2) d20 d21
    refine rd_ixL (sqL_of (s3 _ _ lp h2)) hat ?_
    obtain ⟨m, em, m0, m9⟩ : ∃ m : Int, [V.int 0, .int 1, .int 2, .int 8, .int 9, .int (1 + d1)][j] = .int m ∧ 0 ≤ m ∧ m ≤ 9 := by
      have hm := List.getElem_mem hj
      simp only [List.mem_cons, List.not_mem_nil, or_false] at hm
      rcases hm with e | e | e | e | e | e <;> exact ⟨_, e, by omega, by omega⟩
    rw [em]
    repeat walk_at "r"
    refine ⟨by omega, by omega, ?_⟩
    refine ent_range (fun D i H' => ∃ zs : List Str, H' D = some (.lst (zs.map V.str)) ∧ zs.length = i ∧ (∀ z ∈ zs, z.length = 1 ∧ Asc z) ∧ But p H3 H' ∧ PenAt (n + 2 + i) H' p q) (fun D hD => ?_) (fun D i H' hD hi I => ?_) (fun D H' hD I => ?_)
    · exact ⟨[], upd_same, rfl, (fun z hz => nomatch hz), (same_new hD).but p, hp3.keep (same_new hD)⟩
    · obtain ⟨zs, h1, h2, h3, h4, h5⟩ := I
      have Dp := hp3.off hD
      repeat walk_at "r"
      refine ⟨rfl, ?_⟩
      repeat walk_at "r"
      refine ⟨p, q, _, n + 2 + i, rfl, by decide, by decide, by omega, h5, fun d3 H5 d30 d31 s5 hp5 => ?_⟩
      obtain ⟨c, hc, cl⟩ := lets_at d30 d31
      refine rd_ixS hc ?_ (by decide)
      refine ⟨_, s5 _ _ Dp.1 h1, small1000 (by rw [List.length_map]; omega), zs ++ [⟨#[c]⟩], ?_, ?_, ?_, ?_, ?_⟩
      · rw [upd_same, List.map_append]; rfl
      · rw [List.length_append, h2]; rfl
      · intro z hz
        rcases List.mem_append.mp hz with hz | hz
        · exact h3 z hz
        · rw [List.mem_singleton] at hz
          subst hz
          exact ⟨rfl, asc_one cl⟩
      · exact (h4.trans s5).grow hD
      · exact hp5.upd Dp
    · obtain ⟨zs, h1, h2, h3, h4, h5⟩ := I
      have e0 : (Str.ofString "").length = 0 := rfl
      have hs : (zs.map (·.length)).sum = zs.length := by
        have : ∀ l : List Str, (∀ z ∈ l, z.length = 1 ∧ Asc z) → (l.map (·.length)).sum = l.length := by
          intro l
          induction l with
          | nil => intro _; rfl
          | cons a l ih =>
            intro h
            rw [List.map_cons, List.sum_cons, ih fun z hz => h z (List.mem_cons_of_mem _ hz), (h a List.mem_cons_self).1, List.length_cons]
            omega
        exact this zs h3
      repeat walk_at "r"
      refine rd_joinL h1 (by rw [hs, h2]; show _ + _ * 0 ≤ _; omega) ?_
      refine k _ _ ?_ (asc_join (sep := Str.ofString "") (by decide) fun y hy => (h3 y hy).2) (s13.trans h4) (h5.mono (by omega))
      have := len_join (Str.ofString "") zs
      rw [hs] at this
      rw [e0] at this
      show (Str.join (Str.ofString "") zs).length ≤ 9
      omega
def spBent : Sp := fun vs H Q _ => ∃ (p q : Addr) (z : Str) (n : Nat), vs = [.ref p, .str z] ∧ z.length ≤ 9 ∧ Asc z ∧ n ≤ 900000 ∧ PenAt n H p q ∧ ∀ (y : Str) H', y.length ≤ 19 → Asc y → But p H H' → PenAt (n + 3) H' p q → Q (.str y) H'
theorem ok__law_bent {f fD fP : Addr} {fd fdD fdP : FuncData} (F : Fun K "_law_bent" "_law_bent" s__law_bent f fd) (T : Tx K mg) (C__law_draw : Cal P w K mg base 1 "_law_draw" s__law_draw ["_law_pen_here", "_law_many"] spDraw fD fdD)
    (C__law_pick : Cal P w K mg base 2 "_law_pick" s__law_pick ["_law_pen_here", "_law_some"] spPickL fP fdP) : FnOk P w K mg base CX0 3 f fd ["_law_pen_here", "_law_word_here"] spBent := by
  refine F.ok sc__law_bent (fun vs H Q E h => ?_) (fun cdv A outer s H vs Q E hr h => ?_)
  · obtain ⟨p, q, z, n, rfl, _⟩ := h
    rfl
  · obtain ⟨p, q, z, n, rfl, hz, hza, hn, hp, k⟩ := h
    refine ⟨_, (pss_cons (ps_set (i := 2) sc__law_bent.nd rfl (by first | exact Or.inl rfl | exact Or.inr rfl) (pe_call C__law_draw.G (hr.mono (by decide)) (by rfl) C__law_draw.g C__law_draw.F.kp C__law_draw.b .nil pass0 (pa_cons (pv 0) (pa_cons (pe_op op_add (pe_callB cr_lenS (by rfl) T.b_len (by decide +kernel) (pa_cons (pv 1) pa_nil)) pe_int) pa_nil))))
      (pss_cons (ps_set (i := 3) sc__law_bent.nd rfl (by first | exact Or.inl rfl | exact Or.inr rfl) (pe_call C__law_pick.G (hr.mono (by decide)) (by rfl) C__law_pick.g C__law_pick.F.kp C__law_pick.b .nil pass0 (pa_cons (pv 0) (pa_cons (pe_lst (pa_cons pe_str (pa_cons pe_str (pa_cons pe_str (pa_cons pe_str (pa_cons pe_str (pa_cons pe_str (pa_cons pe_str (pa_cons pe_str (pa_cons pe_str (pa_cons pe_str (pa_cons pe_str (pa_cons pe_str pa_nil))))))))))))) pa_nil))))
      (pss_one (ps_ret (pe_ix ix_list (pe_lst (pa_cons (pv 1) (pa_cons (pe_op or_addS (pe_op or_addS (pe_slice sl_str (pv 1) po_none (po_some (pv 2))) (pv 3)) (pe_slice sl_str (pv 1) (po_some (pv 2)) po_none)) (pa_cons (pe_op or_addS (pe_op or_addS (pe_slice sl_str (pv 1) po_none (po_some (pv 2))) (pv 3)) (pe_slice sl_str (pv 1) (po_some (pe_op op_add (pv 2) pe_int)) po_none)) pa_nil)))) (pe_call C__law_draw.G (hr.mono (by decide)) (by rfl) C__law_draw.g C__law_draw.F.kp C__law_draw.b .nil pass0 (pa_cons (pv 0) (pa_cons pe_int pa_nil))) (fun _ _ => rfl)))))), ?_⟩
    have zs : z.length ≤ sizeLine := small_sz (by omega)
    repeat walk_at "r"
    · refine ⟨p, q, _, n, rfl, by omega, by omega, by omega, hp, fun d1 H1 d10 d11 s1 hp1 => ?_⟩
      repeat walk_at "r"
      refine new_lst (by show 12 ≤ sizeLine; decide) fun l H2 n2 s2 h2 => ?_
      have hp2 := hp1.keep s2
      repeat walk_at "r"
      refine ⟨p, q, l, _, n + 1, rfl, h2, (hp1.off n2).1, by decide, by decide, by omega, hp2, fun x H3 hx s3 hp3 => ?_⟩
      obtain ⟨g, rfl, hg, hga⟩ : ∃ g : Str, x = .str g ∧ g.length = 1 ∧ Asc g := by
        simp only [List.mem_cons, List.not_mem_nil, or_false] at hx
        rcases hx with e | e | e | e | e | e | e | e | e | e | e | e <;> exact ⟨_, e, rfl, by decide⟩
      have l1 := cutS_length z none (some d1)
      have l2 := cutS_length z (some d1) none
      have l3 := cutS_length z (some (d1 + 1)) none
      have a1 := asc_cut hza none (some d1)
      have a2 := asc_cut hza (some d1) none
      have a3 := asc_cut hza (some (d1 + 1)) none
      repeat walk_at "r"
      · refine new_lst (by show 3 ≤ sizeLine; decide) fun l4 H4 n4 s4 h4 => ?_
        have hp4 := hp3.keep s4
        repeat walk_at "r"
        refine ⟨p, q, _, n + 2, rfl, by decide, by decide, by omega, hp4, fun d2 H5 d20 d21 s5 hp5 => ?_⟩
        refine rd_pickL (s5 _ _ (hp3.off n4).1 h4) d20 (by simpa using d21) fun x hm => ?_
        obtain ⟨y, e, hy, hya⟩ : ∃ y : Str, x = .str y ∧ y.length ≤ 19 ∧ Asc y := by
          simp only [List.mem_cons, List.not_mem_nil, or_false] at hm
          rcases hm with e | e | e
          · exact ⟨_, e, by omega, hza⟩
          · exact ⟨_, e, by rw [len_append, len_append]; omega, asc_append (asc_append a1 hga) a2⟩
          · exact ⟨_, e, by rw [len_append, len_append]; omega, asc_append (asc_append a1 hga) a3⟩
        subst e
        exact k y _ hy hya (((s1.then s2).trans s3).trans (Same.thenBut s4 s5)) hp5
      all_goals first
        | exact zs
        | exact small_sz (by rw [len_append]; omega)
        | exact small_sz (by omega)
    · exact zs
def spGreat : Sp := fun vs H Q _ => ∃ (p q : Addr) (n : Nat), vs = [.ref p, .int 60] ∧ n ≤ 900000 ∧ PenAt n H p q ∧ ∀ (g : Int) H', -1 ≤ g → g ≤ 10 ^ 60 → But p H H' → PenAt (n + 2) H' p q → Q (.int g) H'
theorem ok__law_great {f fD : Addr} {fd fdD : FuncData} (F : Fun K "_law_great" "_law_great" s__law_great f fd) (T : Tx K mg) (C__law_draw : Cal P w K mg base 1 "_law_draw" s__law_draw ["_law_pen_here", "_law_many"] spDraw fD fdD) : FnOk P w K mg base CX0 2 f fd ["_law_pen_here", "_law_most"] spGreat := by
  refine F.ok sc__law_great (fun vs H Q E h => ?_) (fun cdv A outer s H vs Q E hr h => ?_)
  · obtain ⟨p, q, n, rfl, _⟩ := h
    rfl
  · obtain ⟨p, q, n, rfl, hn, hp, k⟩ := h
    refine ⟨_, (pss_cons (ps_set (i := 2) sc__law_great.nd rfl (by first | exact Or.inl rfl | exact Or.inr rfl) pe_int)
      (pss_cons (ps_for PassesOwn.never rfl (pi_range1 (by rfl) T.b_range (pa_cons (pe_call C__law_draw.G (hr.mono (by decide)) (by rfl) C__law_draw.g C__law_draw.F.kp C__law_draw.b .nil pass0 (pa_cons (pv 0) (pa_cons (pv 1) pa_nil))) pa_nil)) (pg_name (i := 3) sc__law_great.nd rfl (by first | exact Or.inl rfl | exact Or.inr rfl))
      (pss_one (ps_set (i := 2) sc__law_great.nd rfl (by first | exact Or.inl rfl | exact Or.inr rfl) (pe_op op_mul pe_int (pv 2)))))
      (pss_one (ps_ret (pe_op op_sub (pv 2) (pe_call C__law_draw.G (hr.mono (by decide)) (by rfl) C__law_draw.g C__law_draw.F.kp C__law_draw.b .nil pass0 (pa_cons (pv 0) (pa_cons pe_int pa_nil)))))))), ?_⟩
    repeat walk_at "r"
    refine ⟨p, q, _, n, rfl, by decide, by decide, by omega, hp, fun d1 H1 d10 d11 s1 hp1 => ?_⟩
    repeat walk_at "r"
    refine ⟨by omega, by omega, ?_⟩
    refine for_range (lo := 0) (fun i σ' H' => ∃ v, σ' = [some (.ref p), some (.int 60), some (.int (10 ^ i)), v] ∧ H' = H1) ⟨none, rfl, rfl⟩ (fun i σ' H' hi I => ?_) (fun σ' H' I => ?_)
    · obtain ⟨v, rfl, rfl⟩ := I
      repeat walk_at "r"
      · refine ⟨some (.int (0 + (i : Int))), ?_, rfl⟩
        rw [show (10 : Int) ^ (i + 1) = 10 * 10 ^ i by rw [Int.pow_succ, Int.mul_comm]]
        rfl
      · exact .inl (by decide)
    · obtain ⟨v, rfl, rfl⟩ := I
      repeat walk_at "r"
      refine ⟨p, q, _, n + 1, rfl, by decide, by decide, by omega, hp1, fun d2 H2 d20 d21 s2 hp2 => ?_⟩
      repeat walk_at "r"
      have e1 : (10 : Int) ^ d1.toNat ≤ 10 ^ 60 := by
        have := Nat.pow_le_pow_right (n := 10) (by decide) (show d1.toNat ≤ 60 by omega)
        exact_mod_cast this
      have e0 : (0 : Int) < 10 ^ d1.toNat := Int.pow_pos (by decide)
      exact k _ _ (by omega) (by omega) (s1.trans s2) hp2
end

end My

namespace My
open PySem PySem.Spec PyProof.Rows L2 EE

local macro_rules | `(tactic| walk_at "sq") => `(tactic| first | assumption | exact sqL_of (by assumption) | exact sqT_of (by assumption))
local macro_rules | `(tactic| walk_at "r") => `(tactic| first
  | ((with_reducible show tVar _ _ _ _); refine ⟨_, rfl, ?_⟩)
  | (with_reducible refine rd_c ?_)
  | (with_reducible refine rd_op ?_)
  | (with_reducible refine rd_yes ?_)
  | (with_reducible refine iteT ?_)
  | (with_reducible refine iteF ?_)
  | (with_reducible refine iteNT ?_)
  | (with_reducible refine iteNF ?_)
  | (with_reducible refine rd_seq ?_)
  | (with_reducible refine rd_asg ?_)
  | (with_reducible refine rd_name ?_)
  | (with_reducible refine rd_ret ?_)
  | (with_reducible refine rd_retN ?_)
  | (with_reducible refine rd_drop ?_)
  | (with_reducible refine rd_next ?_)
  | (with_reducible refine rd_ifS ?_)
  | (with_reducible refine rd_ifE ?_)
  | (with_reducible refine rd_test ?_)
  | (with_reducible refine rd_B ?_)
  | (with_reducible refine rd_and ?_)
  | (with_reducible refine rd_or ?_)
  | (with_reducible refine rd_not ?_)
  | (with_reducible refine rd_andV ?_)
  | (with_reducible refine rd_orV ?_)
  | (with_reducible refine rd_notV ?_)
  | (with_reducible refine rd_nil ?_)
  | (with_reducible refine rd_cons ?_)
  | (with_reducible refine rd_call ?_)
  | (with_reducible refine rd_CB ?_)
  | (with_reducible refine rd_chain ?_)
  | (with_reducible refine rd_gsub ?_)
  | (with_reducible refine rd_part ?_)
  | (with_reducible refine rd_noPart ?_)
  | (with_reducible refine rd_sl ?_)
  | (with_reducible refine rd_tup ?_)
  | (with_reducible refine rd_lst ?_)
  | (with_reducible refine rd_bl ?_)
  | (with_reducible refine rd_exI ?_)
  | (with_reducible refine rd_exIs ?_)
  | (with_reducible refine rd_exR ?_)
  | (with_reducible refine rd_iRng1 ?_)
  | (with_reducible refine rd_iRng2 ?_)
  | (with_reducible refine rd_iList ?_)
  | (with_reducible refine rd_iTup ?_)
  | (with_reducible refine rd_callN ?_)
  | (with_reducible refine rd_pnil ?_)
  | (with_reducible refine rd_pcons ?_)
  | (with_reducible refine rd_exS ?_)
  | (with_reducible refine rd_isS ?_)
  | (with_reducible refine rd_add ?_)
  | (with_reducible refine rd_sub ?_)
  | (with_reducible refine rd_lt ?_)
  | (with_reducible refine rd_le ?_)
  | (with_reducible refine rd_gt ?_)
  | (with_reducible refine rd_ge ?_)
  | (with_reducible refine rd_eqI ?_)
  | (with_reducible refine rd_neI ?_)
  | (with_reducible refine rd_eqS ?_)
  | (with_reducible refine rd_neS ?_)
  | (with_reducible refine rd_mul ?_ ?_)
  | (with_reducible refine rd_mod ?_ ?_)
  | (with_reducible refine rd_fdiv ?_ ?_)
  | (with_reducible refine rd_pow ?_ ?_)
  | (with_reducible refine rd_int1 ?_)
  | (with_reducible refine rd_int1b ?_)
  | (with_reducible refine rd_abs ?_)
  | (with_reducible refine rd_strI ?_ ?_)
  | (with_reducible refine rd_addS ?_ ?_)
  | (with_reducible refine rd_inS ?_)
  | (with_reducible refine rd_notInS ?_)
  | (with_reducible refine rd_isN ?_)
  | (with_reducible refine rd_notN ?_)
  | (with_reducible refine rd_lenS ?_ ?_)
  | (with_reducible refine rd_slS ?_ ?_)
  | (with_reducible refine rd_lc ?_)
  | (with_reducible refine rd_for ?_)
  | (with_reducible refine rd_iStr ?_)
  | (with_reducible refine rd_M1 ?_)
  | (with_reducible refine rd_M0 ?_)
  | (with_reducible refine rd_un ?_)
  | (with_reducible refine rd_neg ?_))

section
variable {P : Program} {w : World} {K : PySem.W.Frag} {mg : Str → Option Value} {base : Heap}
def spLaw (K : PySem.W.Frag) : Sp := fun vs H Q _ => ∃ (a : Addr) (ns : List Int), vs = [.ref a] ∧ SqL K H a (ns.map V.int) ∧ ns.length ≤ 63 ∧ ∀ H', Q (.bl true) H'
theorem ok_law {f f1 f2 f3 f4 f5 f6 f7 f8 f9 : Addr} {fd fd1 fd2 fd3 fd4 fd5 fd6 fd7 fd8 fd9 : FuncData} (F : Fun K "law" "law" s_law f fd) (T : Tx K mg)
    (C__law_pen : Cal P w K mg base 1 "_law_pen" s__law_pen ["_law_script"] (spPen K) f1 fd1)
    (C__law_pick : Cal P w K mg base 2 "_law_pick" s__law_pick ["_law_pen_here", "_law_some"] spPickL f2 fd2)
    (C__law_great : Cal P w K mg base 2 "_law_great" s__law_great ["_law_pen_here", "_law_most"] spGreat f3 fd3)
    (C__law_word : Cal P w K mg base 2 "_law_word" s__law_word ["_law_pen_here"] spWord f4 fd4)
    (C__law_bent : Cal P w K mg base 3 "_law_bent" s__law_bent ["_law_pen_here", "_law_word_here"] spBent f5 fd5)
    (C_is_name : Cal P w K mg base 1 "is_name" s_is_name ["value"] (spV nameV) f6 fd6)
    (C_is_integer : Cal P w K mg base 1 "is_integer" s_is_integer ["value"] (spV intV) f7 fd7)
    (C__law_is_word : Cal P w K mg base 1 "_law_is_word" s__law_is_word ["_law_thing"] (spV nameV) f8 fd8)
    (C__law_is_whole : Cal P w K mg base 1 "_law_is_whole" s__law_is_whole ["_law_thing"] (spV intV) f9 fd9) :
    FnG P w K mg base CX0 4 f fd ["_law_script"] (spLaw K) := by
  have kb_is_name_value := kbn_one (p := "value") C_is_name.F (fun _ _ _ _ _ _ _ => rfl)
  have kb_is_integer_value := kbn_one (p := "value") C_is_integer.F (fun _ _ _ _ _ _ _ => rfl)
  refine okG F sc_law (fun vs H Q E h => ?_) (fun cdv A outer s H vs Q E hrG h => ?_)
  · obtain ⟨a, ns, rfl, _⟩ := h
    rfl
  · obtain ⟨a, ns, rfl, hs, hl, k⟩ := h
    have hg := hrG.g
    have hr := hrG.r
    refine ⟨_, (pss_cons (ps_set (i := 1) sc_law.nd rfl (by first | exact Or.inl rfl | exact Or.inr rfl) (pe_call C__law_pen.G (hr.mono (by decide)) (by rfl) C__law_pen.g C__law_pen.F.kp C__law_pen.b .nil pass0 (pa_cons (pv 0) pa_nil)))
      (pss_cons (ps_for PassesOwn.never rfl (pi_range1 (by rfl) T.b_range (pa_cons pe_int pa_nil)) (pg_name (i := 2) sc_law.nd rfl (by first | exact Or.inl rfl | exact Or.inr rfl))
      (pss_cons (ps_set (i := 3) sc_law.nd rfl (by first | exact Or.inl rfl | exact Or.inr rfl) (pe_op op_mul (pe_call C__law_pick.G (hr.mono (by decide)) (by rfl) C__law_pick.g C__law_pick.F.kp C__law_pick.b .nil pass0 (pa_cons (pv 1) (pa_cons (pe_lst (pa_cons pe_int (pa_cons (pe_un un_neg pe_int) pa_nil))) pa_nil))) (pe_call C__law_great.G (hr.mono (by decide)) (by rfl) C__law_great.g C__law_great.F.kp C__law_great.b .nil pass0 (pa_cons (pv 1) (pa_cons pe_int pa_nil)))))
      (pss_cons (ps_set (i := 4) sc_law.nd rfl (by first | exact Or.inl rfl | exact Or.inr rfl) (pe_call C__law_pick.G (hr.mono (by decide)) (by rfl) C__law_pick.g C__law_pick.F.kp C__law_pick.b .nil pass0 (pa_cons (pv 1) (pa_cons (pe_lst (pa_cons pe_non (pa_cons pe_bl (pa_cons pe_bl (pa_cons (pe_tup pa_nil) (pa_cons (pe_tup (pa_cons pe_str pa_nil)) (pa_cons (pe_lst (pa_cons pe_str pa_nil)) (pa_cons (pe_lst pa_nil) (pa_cons pe_dnewK (pa_cons (pe_disp (pps_cons pe_str pe_int pps_nil) (by rfl) (by rfl) (fun z => by cases z) (by decide)) (pa_cons pe_str (pa_cons pe_str (pa_cons pe_str (pa_cons pe_str (pa_cons pe_str pa_nil))))))))))))))) pa_nil))))
      (pss_cons (ps_set (i := 5) sc_law.nd rfl (by first | exact Or.inl rfl | exact Or.inr rfl) (pe_call C__law_word.G (hr.mono (by decide)) (by rfl) C__law_word.g C__law_word.F.kp C__law_word.b .nil pass0 (pa_cons (pv 1) pa_nil)))
      (pss_one (ps_for PassesOwn.never rfl (pi_list (pe_lst (pa_cons (pv 5) (pa_cons (pe_call C__law_bent.G (hr.mono (by decide)) (by rfl) C__law_bent.g C__law_bent.F.kp C__law_bent.b .nil pass0 (pa_cons (pv 1) (pa_cons (pv 5) pa_nil))) (pa_cons (pv 4) (pa_cons (pv 3) (pa_cons (pe_lst (pa_cons (pv 5) pa_nil)) (pa_cons (pe_callTy cr_strI (by rfl) T.b_str (by decide +kernel) (pa_cons (pv 3) pa_nil)) pa_nil)))))))) (pg_name (i := 6) sc_law.nd rfl (by first | exact Or.inl rfl | exact Or.inr rfl))
      (pss_cons (ps_if (pt_cmpR op_ne (pe_callB (cr_repr hg hr.units) (by rfl) T.b_repr (by decide +kernel) (pa_cons (pe_lst (pa_cons (pe_call C_is_name.G (hr.mono (by decide)) (by rfl) C_is_name.g C_is_name.F.kp C_is_name.b .nil pass0 (pa_cons (pv 6) pa_nil)) (pa_cons (pe_callN0 C_is_name.G (hr.mono (by decide)) (by rfl) C_is_name.g C_is_name.F.kp kb_is_name_value pass0 (pk_cons (pv 6) pk_nil)) pa_nil))) pa_nil)) (pe_callB (cr_repr hg hr.units) (by rfl) T.b_repr (by decide +kernel) (pa_cons (pe_op op_rep (pe_lst (pa_cons (pe_call C__law_is_word.G (hr.mono (by decide)) (by rfl) C__law_is_word.g C__law_is_word.F.kp C__law_is_word.b .nil pass0 (pa_cons (pv 6) pa_nil)) pa_nil)) pe_int) pa_nil)) (nomark _)) (pss_one (ps_ret pe_bl)) pss_nil)
      (pss_one (ps_if (pt_cmpR op_ne (pe_callB (cr_repr hg hr.units) (by rfl) T.b_repr (by decide +kernel) (pa_cons (pe_lst (pa_cons (pe_call C_is_integer.G (hr.mono (by decide)) (by rfl) C_is_integer.g C_is_integer.F.kp C_is_integer.b .nil pass0 (pa_cons (pv 6) pa_nil)) (pa_cons (pe_callN0 C_is_integer.G (hr.mono (by decide)) (by rfl) C_is_integer.g C_is_integer.F.kp kb_is_integer_value pass0 (pk_cons (pv 6) pk_nil)) pa_nil))) pa_nil)) (pe_callB (cr_repr hg hr.units) (by rfl) T.b_repr (by decide +kernel) (pa_cons (pe_op op_rep (pe_lst (pa_cons (pe_call C__law_is_whole.G (hr.mono (by decide)) (by rfl) C__law_is_whole.g C__law_is_whole.F.kp C__law_is_whole.b .nil pass0 (pa_cons (pv 6) pa_nil)) pa_nil)) pe_int) pa_nil)) (nomark _)) (pss_one (ps_ret pe_bl)) pss_nil)))))))))
      (pss_cons (ps_setLc (i := 7) (own := [("_law_word_here", 5)]) rfl sc_law.nd rfl rfl (sw_true rfl rfl rfl (by decide +kernel)) (pi_tup (pe_tup (pa_cons pe_str (pa_cons pe_str (pa_cons pe_str (pa_cons pe_str (pa_cons pe_str (pa_cons pe_str (pa_cons pe_str (pa_cons pe_str pa_nil)))))))))) (blkOk_by (own := [("_law_word_here", 5)]) (N := ["_law_script", "_law_pen_here", "_law_turn", "_law_great_here", "_law_odd", "_law_word_here", "_law_thing", "_law_few"]) (sc := defScope s_law) (by decide +kernel)) (fun _ _ _ _ _ => (pg_name (i := 5) sc_law.nd rfl (by first | exact Or.inl rfl | exact Or.inr rfl))) (fun _ _ _ _ _ => pts_nil) (fun _ _ _ _ _ => (pe_call C_is_name.G (hr.mono (by decide)) (by rfl) C_is_name.g C_is_name.F.kp C_is_name.b .nil pass0 (pa_cons (pv 5) pa_nil))))
      (pss_one (ps_ret (pe_and (pe_cmpR (op_eqD hr.units) (pv 7) (pe_op op_cat (pe_op op_rep (pe_lst (pa_cons pe_bl pa_nil)) pe_int) (pe_lst (pa_cons pe_bl (pa_cons pe_bl (pa_cons pe_bl (pa_cons pe_bl (pa_cons pe_bl pa_nil))))))) (nomark _)) (pe_and (pe_call C_is_integer.G (hr.mono (by decide)) (by rfl) C_is_integer.g C_is_integer.F.kp C_is_integer.b .nil pass0 (pa_cons pe_int pa_nil)) (pe_one (pe_not (pe_call C_is_integer.G (hr.mono (by decide)) (by rfl) C_is_integer.g C_is_integer.F.kp C_is_integer.b .nil pass0 (pa_cons pe_str pa_nil))))))))))), ?_⟩
    repeat walk_at "r"
    refine ⟨a, ns, rfl, hs, hl, fun p q H1 n1 s1 hp1 => ?_⟩
    repeat walk_at "r"
    refine ⟨by decide, by decide, ?_⟩
    refine for_range (lo := 0) (fun i σ' H' => ∃ v2 v3 v4 v5 v6, σ' = [some (.ref a), some (.ref p), v2, v3, v4, v5, v6, none] ∧ PenAt (18 * i) H' p q) ⟨none, none, none, none, none, rfl, hp1⟩ (fun i σ' H2 hi I => ?_) (fun σ' H2 I => ?_)
    · obtain ⟨v2, v3, v4, v5, v6, rfl, hp2⟩ := I
      have hi20 : i < 20 := hi
      repeat walk_at "r"
      refine new_lst (by show 2 ≤ sizeLine; decide) fun l3 H3 n3 s3 h3 => ?_
      have hp3 := hp2.keep s3
      repeat walk_at "r"
      refine ⟨p, q, l3, _, 18 * i, rfl, h3, (hp2.off n3).1, by decide, by decide, by omega, hp3, fun x4 H4 hx4 s4 hp4 => ?_⟩
      obtain ⟨e4, rfl, he4⟩ : ∃ e : Int, x4 = .int e ∧ (e = 1 ∨ e = -1) := by
        simp only [List.mem_cons, List.not_mem_nil, or_false] at hx4
        rcases hx4 with e | e
        · exact ⟨_, e, .inl rfl⟩
        · exact ⟨_, e, .inr rfl⟩
      repeat walk_at "r"
      refine ⟨p, q, _, rfl, by omega, hp4, fun g H5 g0 g1 s5 hp5 => ?_⟩
      repeat walk_at "r"
      · refine new_tup (by decide) fun t1 H6 n6 s6 h6 => ?_
        have hp6 := hp5.keep s6
        repeat walk_at "r"
        refine new_tup (by show 1 ≤ sizeLine; decide) fun t2 H7 n7 s7 h7 => ?_
        have hp7 := hp6.keep s7
        repeat walk_at "r"
        refine new_lst (by show 1 ≤ sizeLine; decide) fun t3 H8 n8 s8 h8 => ?_
        have hp8 := hp7.keep s8
        repeat walk_at "r"
        refine new_lst (by decide) fun t4 H9 n9 s9 h9 => ?_
        have hp9 := hp8.keep s9
        repeat walk_at "r"
        refine rd_dnewK fun t5 H10 n10 s10 h10 => ?_
        have hp10 := hp9.keep s10
        repeat walk_at "r"
        refine rd_disp fun t6 H11 n11 s11 h11 => ?_
        repeat walk_at "r"
        refine disp_done [(Sum.inr (Str.ofString "a"), V.int 1)] h11 rfl (by decide) fun H12 e12 h12 => ?_
        have s12 : Same H10 H12 := Same.disp n11 s11 e12
        have hp12 := hp10.keep s12
        repeat walk_at "r"
        refine new_lst (by show 14 ≤ sizeLine; decide) fun l13 H13 n13 s13 h13 => ?_
        have hp13 := hp12.keep s13
        have S10 : Same H10 H13 := s12.trans s13
        have S9 : Same H9 H13 := s10.trans S10
        have S8 : Same H8 H13 := s9.trans S9
        have S7 : Same H7 H13 := s8.trans S8
        have S6 : Same H6 H13 := s7.trans S7
        repeat walk_at "r"
        refine ⟨p, q, l13, _, 18 * i + 1 + 2, rfl, h13, (hp12.off n13).1, by simp, by simp, by omega, hp13, fun x14 H14 hx14 s14 hp14 => ?_⟩
        have th13 : Th H13 x14 ∧ offV p x14 := by
          simp only [List.mem_cons, List.not_mem_nil, or_false] at hx14
          rcases hx14 with e | e | e | e | e | e | e | e | e | e | e | e | e | e <;> subst e
          · exact ⟨.non, trivial⟩
          · exact ⟨.bl _, trivial⟩
          · exact ⟨.bl _, trivial⟩
          · exact ⟨.tup (S6 _ _ h6), (hp5.off n6).1⟩
          · exact ⟨.tup (S7 _ _ h7), (hp6.off n7).1⟩
          · exact ⟨.lst (S8 _ _ h8), (hp7.off n8).1⟩
          · exact ⟨.lst (S9 _ _ h9), (hp8.off n9).1⟩
          · exact ⟨.dK (S10 _ _ h10), (hp9.off n10).1⟩
          · exact ⟨.dK (s13 _ _ h12), (hp10.off n11).1⟩
          all_goals exact ⟨.str _ (by decide) (by decide), trivial⟩
        have th14 := th13.1.but th13.2 s14
        repeat walk_at "r"
        refine ⟨p, q, _, rfl, by omega, hp14, fun z H15 hz hza s15 hp15 => ?_⟩
        have th15 := th14.but th13.2 s15
        repeat walk_at "r"
        refine ⟨p, q, z, _, rfl, hz, hza, by omega, hp15, fun y H16 hy hya s16 hp16 => ?_⟩
        have th16 := th15.but th13.2 s16
        repeat walk_at "r"
        refine new_lst (by show 1 ≤ sizeLine; decide) fun l17 H17 n17 s17 h17 => ?_
        have hp17 := hp16.keep s17
        repeat walk_at "r"
        · refine new_lst (by show 6 ≤ sizeLine; decide) fun l18 H18 n18 s18 h18 => ?_
          have hp18 := hp17.keep s18
          repeat walk_at "r"
          refine ⟨⟨_, sqL_of h18⟩, ?_⟩
          have gb : (e4 * g).natAbs < 10 ^ 61 := by
            rcases he4 with rfl | rfl <;> omega
          have all18 : ∀ x ∈ [V.str z, V.str y, x14, V.int (e4 * g), V.ref l17, V.str (toString (e4 * g) : String)], Th H18 x := by
            intro x hx
            simp only [List.mem_cons, List.not_mem_nil, or_false] at hx
            rcases hx with e | e | e | e | e | e <;> subst e
            · exact .str _ (by omega) hza
            · exact .str _ (by omega) hya
            · exact (th16.keep s17).keep s18
            · exact .int _
            · exact .lst (s18 _ _ h17)
            · exact .str _ (Nat.le_trans (len_int (k := 61) (by decide) gb) (by decide)) (asc_int _)
          refine for_list (K := K) (a := l18) (xs := [V.str z, V.str y, x14, V.int (e4 * g), V.ref l17, V.str (toString (e4 * g) : String)])
            (fun j σ' H' => ∃ v6, σ' = [some (.ref a), some (.ref p), some (.int (0 + (i : Int))), some (.int (e4 * g)), some x14, some (.str z), v6, none] ∧ Same H18 H')
            ⟨_, rfl, Same.refl _⟩ (fun j σ' H' _ I => ?_) (fun j x σ' H19 hx I => ?_) (fun σ' H19 I => ?_)
          · obtain ⟨_, _, sm⟩ := I
            exact sqL_of (sm _ _ h18)
          · obtain ⟨v6, rfl, sm⟩ := I
            have th := (all18 x (List.mem_of_getElem? hx)).keep sm
            repeat walk_at "r"
            refine ⟨x, rfl, th, fun H20 s20 => ?_⟩
            repeat walk_at "r"
            refine rd_two ⟨x, rfl, th.keep s20, fun H21 s21 => ?_⟩
            repeat walk_at "r"
            refine new_lst (by show 2 ≤ sizeLine; decide) fun l22 H22 n22 s22 h22 => ?_
            repeat walk_at "r"
            refine rd_repr (dp_two h22) rfl rfl (by show 1 ≤ 60; decide) (two_bools _) ?_
            repeat walk_at "r"
            have S22 := (s20.trans s21).trans s22
            refine ⟨x, rfl, th.keep S22, fun H23 s23 => ?_⟩
            repeat walk_at "r"
            refine new_lst (by show 1 ≤ sizeLine; decide) fun l24 H24 n24 s24 h24 => ?_
            repeat walk_at "r"
            refine rd_rep h24 (by decide) (by decide) (by simp) fun l25 H25 n25 s25 h25 => ?_
            repeat walk_at "r"
            refine rd_repr (dp_two h25) rfl rfl (by show 1 ≤ 60; decide) (two_bools _) ?_
            repeat walk_at "r"
            refine rd_decN (fun c => absurd rfl c) fun _ => ?_
            repeat walk_at "r"
            have S25 := ((S22.trans s23).trans s24).trans s25
            refine ⟨x, rfl, th.keep S25, fun H30 s30 => ?_⟩
            repeat walk_at "r"
            refine rd_two ⟨x, rfl, (th.keep S25).keep s30, fun H31 s31 => ?_⟩
            repeat walk_at "r"
            refine new_lst (by show 2 ≤ sizeLine; decide) fun l32 H32 n32 s32 h32 => ?_
            repeat walk_at "r"
            refine rd_repr (dp_two h32) rfl rfl (by show 1 ≤ 60; decide) (two_bools _) ?_
            repeat walk_at "r"
            have S32 := ((S25.trans s30).trans s31).trans s32
            refine ⟨x, rfl, th.keep S32, fun H33 s33 => ?_⟩
            repeat walk_at "r"
            refine new_lst (by show 1 ≤ sizeLine; decide) fun l34 H34 n34 s34 h34 => ?_
            repeat walk_at "r"
            refine rd_rep h34 (by decide) (by decide) (by simp) fun l35 H35 n35 s35 h35 => ?_
            repeat walk_at "r"
            refine rd_repr (dp_two h35) rfl rfl (by show 1 ≤ 60; decide) (two_bools _) ?_
            repeat walk_at "r"
            refine rd_decN (fun c => absurd rfl c) fun _ => ?_
            repeat walk_at "r"
            exact ⟨_, rfl, sm.trans (((S32.trans s33).trans s34).trans s35)⟩
          · obtain ⟨v6, rfl, sm⟩ := I
            exact ⟨_, _, _, _, _, rfl, (hp18.keep sm).mono (by omega)⟩
        · have gb : (e4 * g).natAbs < 2 ^ 300 := by
            rcases he4 with rfl | rfl <;> omega
          exact Nat.lt_trans (log2_lt gb (by decide)) (by decide)
      · rcases he4 with rfl | rfl <;> exact .inl (by decide)
    · obtain ⟨v2, v3, v4, v5, v6, rfl, hp2⟩ := I
      repeat walk_at "r"
      refine new_tup (by show 8 ≤ sizeLine; decide) fun t3 H3 n3 s3 h3 => ?_
      repeat walk_at "r"
      refine ⟨⟨_, sqT_of h3⟩, ?_⟩
      refine lcat_tup (K := K) (fun x => some (V.bl (nameV x))) (by decide) h3 (fun D j x H' hD hx I => ?_) (fun D H4 hD s4 h4 => ?_)
      · have th : Th H' x := by
          have hm := List.mem_of_getElem? hx
          simp only [List.mem_cons, List.not_mem_nil, or_false] at hm
          rcases hm with e | e | e | e | e | e | e | e <;> subst e <;> exact .str _ (by decide) (by decide)
        repeat walk_at "r"
        refine ⟨rfl, ?_⟩
        repeat walk_at "r"
        refine ⟨x, rfl, th, fun H5 s5 => ?_⟩
        exact I.some hD hx rfl s5 (by decide)
      · have e4 : ([V.str (Str.ofString "a"), V.str (Str.ofString "z"), V.str (Str.ofString "zzzzzzzz"), V.str (Str.ofString "aaaaaaaaa"), V.str (Str.ofString "self"), V.str (Str.ofString "None"), V.str (Str.ofString "none"), V.str (Str.ofString "mod")]).filterMap (fun x => some (V.bl (nameV x)))
            = [true, true, true, false, false, false, true, true].map V.bl := by decide +kernel
        rw [e4] at h4
        repeat walk_at "r"
        refine new_lst (by show 1 ≤ sizeLine; decide) fun l5 H5 n5 s5 h5 => ?_
        repeat walk_at "r"
        refine rd_rep h5 (by decide) (by decide) (by decide) fun l6 H6 n6 s6 h6 => ?_
        repeat walk_at "r"
        refine new_lst (by show 5 ≤ sizeLine; decide) fun l7 H7 n7 s7 h7 => ?_
        repeat walk_at "r"
        refine rd_cat (s7 _ _ h6) h7 (by decide) fun l8 H8 n8 s8 h8 => ?_
        refine rd_eqD (d := .list ([true, true, true, false, false, false, true, true].map PyData.bool)) (e := .list ([true, true, true, false, false, false, true, true].map PyData.bool)) (.lst (sqL_of (((s5.trans s6).trans (s7.trans s8)) _ _ h4)) dp_bls) (.lst (xs := [true, true, true, false, false, false, true, true].map V.bl) (sqL_of h8) dp_bls) rfl rfl ?_
        refine ⟨_, rfl, ?_⟩
        refine rd_iteT rfl ?_
        repeat walk_at "r"
        refine ⟨_, rfl, .int 0, fun H9 s9 => ?_⟩
        repeat walk_at "r"
        refine rd_iteT rfl ?_
        repeat walk_at "r"
        refine ⟨_, rfl, .str _ (by decide) (by decide), fun H10 s10 => ?_⟩
        repeat walk_at "r"
        exact k H10
end

end My

namespace My
open PySem PySem.Spec PyProof.Rows L2 EE
theorem all_mk {P : Program} {w : World} {K : PySem.W.Frag} {h : Heap} {mg : Str → Option Value} {fa : Addr} (X : K.In h) (G : h.Ns mainGlobals mg) (hfa : mg "law" = some (.ref fa))
    {f0 : Addr} {od0 an0 : Option Addr} {sl0 : Array (Option Value)} {oc0 kV0 dc0 pm0 cd0 ct0 : Value} {f1 : Addr} {od1 an1 : Option Addr} {sl1 : Array (Option Value)} {oc1 kV1 dc1 pm1 cd1 ct1 : Value} {f2 : Addr} {od2 an2 : Option Addr} {sl2 : Array (Option Value)} {oc2 kV2 dc2 pm2 cd2 ct2 : Value} {f3 : Addr} {od3 an3 : Option Addr} {sl3 : Array (Option Value)} {oc3 kV3 dc3 pm3 cd3 ct3 : Value} {f4 : Addr} {od4 an4 : Option Addr} {sl4 : Array (Option Value)} {oc4 kV4 dc4 pm4 cd4 ct4 : Value} {f5 : Addr} {od5 an5 : Option Addr} {sl5 : Array (Option Value)} {oc5 kV5 dc5 pm5 cd5 ct5 : Value} {f6 : Addr} {od6 an6 : Option Addr} {sl6 : Array (Option Value)} {oc6 kV6 dc6 pm6 cd6 ct6 : Value} {f7 : Addr} {od7 an7 : Option Addr} {sl7 : Array (Option Value)} {oc7 kV7 dc7 pm7 cd7 ct7 : Value} {f8 : Addr} {od8 an8 : Option Addr} {sl8 : Array (Option Value)} {oc8 kV8 dc8 pm8 cd8 ct8 : Value} {f9 : Addr} {od9 an9 : Option Addr} {sl9 : Array (Option Value)} {oc9 kV9 dc9 pm9 cd9 ct9 : Value} {f10 : Addr} {od10 an10 : Option Addr} {sl10 : Array (Option Value)} {oc10 kV10 dc10 pm10 cd10 ct10 : Value} {t0 : Tok} {t1 : Tok} {t2 : Tok}
        (a0 : PySem.W.nsIn K mainGlobals "is_name" = some (some (.ref f0)))
    (l0 : K.lookup f0 = some ⟨oc0, od0, .func (PySem.W.fnOf "is_name" "is_name" (defArgs s_is_name) (defBody s_is_name) (defScope s_is_name) .none kV0 dc0 pm0 an0 cd0 ct0), sl0⟩)
    (c0 : PySem.W.codeIn K cd0 "is_name" = true)
    (k0 : PySem.W.keepIn K (.ref f0) = true)
    (a1 : PySem.W.nsIn K mainGlobals "is_integer" = some (some (.ref f1)))
    (l1 : K.lookup f1 = some ⟨oc1, od1, .func (PySem.W.fnOf "is_integer" "is_integer" (defArgs s_is_integer) (defBody s_is_integer) (defScope s_is_integer) .none kV1 dc1 pm1 an1 cd1 ct1), sl1⟩)
    (c1 : PySem.W.codeIn K cd1 "is_integer" = true)
    (k1 : PySem.W.keepIn K (.ref f1) = true)
    (a2 : PySem.W.nsIn K mainGlobals "_law_pen" = some (some (.ref f2)))
    (l2 : K.lookup f2 = some ⟨oc2, od2, .func (PySem.W.fnOf "_law_pen" "_law_pen" (defArgs s__law_pen) (defBody s__law_pen) (defScope s__law_pen) .none kV2 dc2 pm2 an2 cd2 ct2), sl2⟩)
    (c2 : PySem.W.codeIn K cd2 "_law_pen" = true)
    (k2 : PySem.W.keepIn K (.ref f2) = true)
    (a3 : PySem.W.nsIn K mainGlobals "_law_draw" = some (some (.ref f3)))
    (l3 : K.lookup f3 = some ⟨oc3, od3, .func (PySem.W.fnOf "_law_draw" "_law_draw" (defArgs s__law_draw) (defBody s__law_draw) (defScope s__law_draw) .none kV3 dc3 pm3 an3 cd3 ct3), sl3⟩)
    (c3 : PySem.W.codeIn K cd3 "_law_draw" = true)
    (k3 : PySem.W.keepIn K (.ref f3) = true)
    (a4 : PySem.W.nsIn K mainGlobals "_law_pick" = some (some (.ref f4)))
    (l4 : K.lookup f4 = some ⟨oc4, od4, .func (PySem.W.fnOf "_law_pick" "_law_pick" (defArgs s__law_pick) (defBody s__law_pick) (defScope s__law_pick) .none kV4 dc4 pm4 an4 cd4 ct4), sl4⟩)
    (c4 : PySem.W.codeIn K cd4 "_law_pick" = true)
    (k4 : PySem.W.keepIn K (.ref f4) = true)
    (a5 : PySem.W.nsIn K mainGlobals "_law_word" = some (some (.ref f5)))
    (l5 : K.lookup f5 = some ⟨oc5, od5, .func (PySem.W.fnOf "_law_word" "_law_word" (defArgs s__law_word) (defBody s__law_word) (defScope s__law_word) .none kV5 dc5 pm5 an5 cd5 ct5), sl5⟩)
    (c5 : PySem.W.codeIn K cd5 "_law_word" = true)
    (k5 : PySem.W.keepIn K (.ref f5) = true)
    (a6 : PySem.W.nsIn K mainGlobals "_law_bent" = some (some (.ref f6)))
    (l6 : K.lookup f6 = some ⟨oc6, od6, .func (PySem.W.fnOf "_law_bent" "_law_bent" (defArgs s__law_bent) (defBody s__law_bent) (defScope s__law_bent) .none kV6 dc6 pm6 an6 cd6 ct6), sl6⟩)
    (c6 : PySem.W.codeIn K cd6 "_law_bent" = true)
    (k6 : PySem.W.keepIn K (.ref f6) = true)
    (a7 : PySem.W.nsIn K mainGlobals "_law_is_word" = some (some (.ref f7)))
    (l7 : K.lookup f7 = some ⟨oc7, od7, .func (PySem.W.fnOf "_law_is_word" "_law_is_word" (defArgs s__law_is_word) (defBody s__law_is_word) (defScope s__law_is_word) .none kV7 dc7 pm7 an7 cd7 ct7), sl7⟩)
    (c7 : PySem.W.codeIn K cd7 "_law_is_word" = true)
    (k7 : PySem.W.keepIn K (.ref f7) = true)
    (a8 : PySem.W.nsIn K mainGlobals "_law_is_whole" = some (some (.ref f8)))
    (l8 : K.lookup f8 = some ⟨oc8, od8, .func (PySem.W.fnOf "_law_is_whole" "_law_is_whole" (defArgs s__law_is_whole) (defBody s__law_is_whole) (defScope s__law_is_whole) .none kV8 dc8 pm8 an8 cd8 ct8), sl8⟩)
    (c8 : PySem.W.codeIn K cd8 "_law_is_whole" = true)
    (k8 : PySem.W.keepIn K (.ref f8) = true)
    (a9 : PySem.W.nsIn K mainGlobals "_law_great" = some (some (.ref f9)))
    (l9 : K.lookup f9 = some ⟨oc9, od9, .func (PySem.W.fnOf "_law_great" "_law_great" (defArgs s__law_great) (defBody s__law_great) (defScope s__law_great) .none kV9 dc9 pm9 an9 cd9 ct9), sl9⟩)
    (c9 : PySem.W.codeIn K cd9 "_law_great" = true)
    (k9 : PySem.W.keepIn K (.ref f9) = true)
    (a10 : PySem.W.nsIn K mainGlobals "law" = some (some (.ref f10)))
    (l10 : K.lookup f10 = some ⟨oc10, od10, .func (PySem.W.fnOf "law" "law" (defArgs s_law) (defBody s_law) (defScope s_law) .none kV10 dc10 pm10 an10 cd10 ct10), sl10⟩)
    (c10 : PySem.W.codeIn K cd10 "law" = true)
    (k10 : PySem.W.keepIn K (.ref f10) = true)
    (z0 : PySem.W.nsIn K mainGlobals "int" = some none)
    (z1 : PySem.W.nsIn K mainGlobals "len" = some none)
    (z2 : PySem.W.nsIn K mainGlobals "abs" = some none)
    (z3 : PySem.W.nsIn K mainGlobals "str" = some none)
    (z4 : PySem.W.nsIn K mainGlobals "bool" = some none)
    (z5 : PySem.W.nsIn K mainGlobals "list" = some none)
    (z6 : PySem.W.nsIn K mainGlobals "isinstance" = some none)
    (z7 : PySem.W.nsIn K mainGlobals "all" = some none)
    (z8 : PySem.W.nsIn K mainGlobals "range" = some none)
    (z9 : PySem.W.nsIn K mainGlobals "repr" = some none)
    (y0 : PySem.W.nsIn K mainGlobals "LETTERS" = some (some (.str "abcdefghijklmnopqrstuvwxyz" t0)))
    (y1 : PySem.W.nsIn K mainGlobals "MOST_LETTERS" = some (some (.int 8 t1)))
    (y2 : PySem.W.nsIn K mainGlobals "OWN" = some (some (.str "self" t2))) :
    ∃ fd : FuncData, (∀ (s : Shared) (u : Value), BindsTo s fd ⟨[u], []⟩ [("_law_script", u)]) ∧ ∀ base : Heap, K.In base → base.Ns mainGlobals mg → FnG P w K mg base CX0 4 fa fd ["_law_script"] (spLaw K) := by
  cases hfa.symm.trans (PySem.W.mg_of X G a10)
  have T : Tx K mg := ⟨PySem.W.mg_none_of X G z0, PySem.W.mg_none_of X G z1, PySem.W.mg_none_of X G z2, PySem.W.mg_none_of X G z3, PySem.W.mg_none_of X G z4, PySem.W.mg_none_of X G z5, PySem.W.mg_none_of X G z6, PySem.W.mg_none_of X G z7, PySem.W.mg_none_of X G z8, PySem.W.mg_none_of X G z9, ⟨_, PySem.W.mg_of X G y0, ⟨_, rfl⟩⟩, ⟨_, PySem.W.mg_of X G y1, ⟨_, rfl⟩⟩, ⟨_, PySem.W.mg_of X G y2, ⟨_, rfl⟩⟩⟩
  have F0 := fun_mk (st := s_is_name) l0 c0 k0
  have b0 := F0.binds (ps := ["value"]) fun _ _ _ _ _ _ us hl => match us, hl with | [_], _ => rfl
  have g0 := PySem.W.mg_of X G a0
  have F1 := fun_mk (st := s_is_integer) l1 c1 k1
  have b1 := F1.binds (ps := ["value"]) fun _ _ _ _ _ _ us hl => match us, hl with | [_], _ => rfl
  have g1 := PySem.W.mg_of X G a1
  have F2 := fun_mk (st := s__law_pen) l2 c2 k2
  have b2 := F2.binds (ps := ["_law_script"]) fun _ _ _ _ _ _ us hl => match us, hl with | [_], _ => rfl
  have g2 := PySem.W.mg_of X G a2
  have F3 := fun_mk (st := s__law_draw) l3 c3 k3
  have b3 := F3.binds (ps := ["_law_pen_here", "_law_many"]) fun _ _ _ _ _ _ us hl => match us, hl with | [_, _], _ => rfl
  have g3 := PySem.W.mg_of X G a3
  have F4 := fun_mk (st := s__law_pick) l4 c4 k4
  have b4 := F4.binds (ps := ["_law_pen_here", "_law_some"]) fun _ _ _ _ _ _ us hl => match us, hl with | [_, _], _ => rfl
  have g4 := PySem.W.mg_of X G a4
  have F5 := fun_mk (st := s__law_word) l5 c5 k5
  have b5 := F5.binds (ps := ["_law_pen_here"]) fun _ _ _ _ _ _ us hl => match us, hl with | [_], _ => rfl
  have g5 := PySem.W.mg_of X G a5
  have F6 := fun_mk (st := s__law_bent) l6 c6 k6
  have b6 := F6.binds (ps := ["_law_pen_here", "_law_word_here"]) fun _ _ _ _ _ _ us hl => match us, hl with | [_, _], _ => rfl
  have g6 := PySem.W.mg_of X G a6
  have F7 := fun_mk (st := s__law_is_word) l7 c7 k7
  have b7 := F7.binds (ps := ["_law_thing"]) fun _ _ _ _ _ _ us hl => match us, hl with | [_], _ => rfl
  have g7 := PySem.W.mg_of X G a7
  have F8 := fun_mk (st := s__law_is_whole) l8 c8 k8
  have b8 := F8.binds (ps := ["_law_thing"]) fun _ _ _ _ _ _ us hl => match us, hl with | [_], _ => rfl
  have g8 := PySem.W.mg_of X G a8
  have F9 := fun_mk (st := s__law_great) l9 c9 k9
  have b9 := F9.binds (ps := ["_law_pen_here", "_law_most"]) fun _ _ _ _ _ _ us hl => match us, hl with | [_, _], _ => rfl
  have g9 := PySem.W.mg_of X G a9
  have F10 := fun_mk (st := s_law) l10 c10 k10
  have b10 := F10.binds (ps := ["_law_script"]) fun _ _ _ _ _ _ us hl => match us, hl with | [_], _ => rfl
  have g10 := PySem.W.mg_of X G a10
  refine ⟨PySem.W.fnOf "law" "law" (defArgs s_law) (defBody s_law) (defScope s_law) .none kV10 dc10 pm10 an10 cd10 ct10, fun s u => .of_eq rfl, fun base _ _ => ?_⟩
  have c_draw : Cal P w K mg base 1 "_law_draw" s__law_draw ["_law_pen_here", "_law_many"] spDraw _ _ := ⟨F3, ok__law_draw F3 T, g3, b3⟩
  have c_pick : Cal P w K mg base 2 "_law_pick" s__law_pick ["_law_pen_here", "_law_some"] spPickL _ _ := ⟨F4, ok__law_pick F4 T c_draw, g4, b4⟩
  exact ok_law F10 T ⟨F2, ok__law_pen F2 T, g2, b2⟩ c_pick ⟨F9, ok__law_great F9 T c_draw, g9, b9⟩ ⟨F5, ok__law_word F5 T c_draw, g5, b5⟩ ⟨F6, ok__law_bent F6 T c_draw c_pick, g6, b6⟩
    ⟨F0, ok_is_name F0 T, g0, b0⟩ ⟨F1, ok_is_integer F1 T, g1, b1⟩ ⟨F7, ok__law_is_word F7 T, g7, b7⟩ ⟨F8, ok__law_is_whole F8 T, g8, b8⟩

end My
open PySem PySem.W PyProof.Rows
set_option maxRecDepth 100000 in
set_option maxHeartbeats 0 in
theorem PySem.Challenge.cw_evenends_k02_names_and_integers_known_holds : PySem.Challenge.rw_evenends_k02_names_and_integers_known.Holds := by
  w_on; o_law; k_head; (case hw => w_witness2)
  k_fill
  refine EE.walk_ofG (l := PySem.Challenge.rw_evenends_k02_names_and_integers_known) (n := 63) (k := 4) (x := "_law_script") (sp := My.spLaw) rfl (by decide) rfl ⟨⟨rfl, by decide, by decide⟩, rfl⟩ (fun w h Y => PySem.W.kIn_of Y) ?F (fun _ _ a ns hl _ hS => ⟨a, ns, rfl, hS, hl, fun _ => rfl⟩)
  case F =>
    intro w mg fa h KX G hmg
    refine' My.all_mk KX G hmg ?a0 ?l0 ?c0 ?k0 ?a1 ?l1 ?c1 ?k1 ?a2 ?l2 ?c2 ?k2 ?a3 ?l3 ?c3 ?k3 ?a4 ?l4 ?c4 ?k4 ?a5 ?l5 ?c5 ?k5 ?a6 ?l6 ?c6 ?k6 ?a7 ?l7 ?c7 ?k7 ?a8 ?l8 ?c8 ?k8 ?a9 ?l9 ?c9 ?k9 ?a10 ?l10 ?c10 ?k10 ?z0 ?z1 ?z2 ?z3 ?z4 ?z5 ?z6 ?z7 ?z8 ?z9 ?y0 ?y1 ?y2
    (case a0 => k_is)
    (case l0 => k_is)
    (case c0 => k_is)
    (case k0 => k_is)
    (case a1 => k_is)
    (case l1 => k_is)
    (case c1 => k_is)
    (case k1 => k_is)
    (case a2 => k_is)
    (case l2 => k_is)
    (case c2 => k_is)
    (case k2 => k_is)
    (case a3 => k_is)
    (case l3 => k_is)
    (case c3 => k_is)
    (case k3 => k_is)
    (case a4 => k_is)
    (case l4 => k_is)
    (case c4 => k_is)
    (case k4 => k_is)
    (case a5 => k_is)
    (case l5 => k_is)
    (case c5 => k_is)
    (case k5 => k_is)
    (case a6 => k_is)
    (case l6 => k_is)
    (case c6 => k_is)
    (case k6 => k_is)
    (case a7 => k_is)
    (case l7 => k_is)
    (case c7 => k_is)
    (case k7 => k_is)
    (case a8 => k_is)
    (case l8 => k_is)
    (case c8 => k_is)
    (case k8 => k_is)
    (case a9 => k_is)
    (case l9 => k_is)
    (case c9 => k_is)
    (case k9 => k_is)
    (case a10 => k_is)
    (case l10 => k_is)
    (case c10 => k_is)
    (case k10 => k_is)
    (case z0 => k_is)
    (case z1 => k_is)
    (case z2 => k_is)
    (case z3 => k_is)
    (case z4 => k_is)
    (case z5 => k_is)
    (case z6 => k_is)
    (case z7 => k_is)
    (case z8 => k_is)
    (case z9 => k_is)
    (case y0 => k_is)
    (case y1 => k_is)
    (case y2 => k_is)

