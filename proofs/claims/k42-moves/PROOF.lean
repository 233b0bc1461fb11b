import PyProof.Rows.All
import Wide.All
import OpenK.AllK
import Wide.FinOn
import HandS.ForMost
import HandS.Conv
import HandS.IsInst
import HandS.Walk
import HandS.Codes
import PySem.Challenge.RW_reforge_k42_moves
set_option Elab.async false
set_option linter.all false
set_option maxRecDepth 100000
set_option maxHeartbeats 4000000
/-! Go: defs by their promises, the readings' introductions, one tactic that reads straight code -/
namespace Go
open PySem L2

/-! ### a def as the top has left it; a def that keeps its promise -/
structure Def (K : PySem.W.Frag) (mg : Str → Option Value) (x : Str) (st : Stmt) (ps : List Str) : Prop where
  ex : ∃ (f : Addr) (fd : FuncData), Fun K x x st f fd ∧ Binds K fd ps [] ∧ mg x = some (.ref f)
structure Kept (P : Program) (w : World) (K : PySem.W.Frag) (mg : Str → Option Value) (base : Heap) (k : Nat) (x : Str) (ps : List Str) (sp : Sp) : Prop where
  ex : ∃ (f : Addr) (fd : FuncData), PySem.W.keepIn K (.ref f) = true ∧ Binds K fd ps [] ∧ mg x = some (.ref f) ∧ FnOk P w K mg base CX0 k f fd ps sp
section
variable {P : Program} {w : World} {K : PySem.W.Frag} {mg : Str → Option Value} {base : Heap}
theorem Def.ok {x : Str} {st : Stmt} {N ps : List Str} {k : Nat} {sp : Sp} (D : Def K mg x st ps) (S : FnScope N ps (defScope st)) (len : ∀ vs H Q E, sp vs H Q E → vs.length = ps.length)
    (hbody : ∀ (f : Addr) (cdv : Value) (A : Around) (outer : List Env) (s : Shared) (H : Hp) (vs : List V) (Q : VK) (E : XK), Room k (A.deeper (PyProof.Rows.envOfC x (defScope st) s.heap.objs.size f cdv)) → sp vs H Q E →
      ∃ t, PSs (cxOf CX0 P w K mg base N x (defScope st) f cdv A outer s H E).nox (defBody st) t ∧ t { nx := fun _ H' => Q .non H', rt := Q } (start N vs) H) : Kept P w K mg base (k + 1) x ps sp := by
  obtain ⟨f, fd, F, b, g⟩ := D.ex
  exact ⟨f, fd, F.kp, b, g, F.ok S len fun cdv A outer s H vs Q E => hbody f cdv A outer s H vs Q E⟩
theorem Kept.mono {j k : Nat} {x : Str} {ps : List Str} {sp : Sp} (h : Kept P w K mg base j x ps sp) (l : j ≤ k) : Kept P w K mg base k x ps sp := by
  obtain ⟨f, fd, a, b, c, d⟩ := h.ex
  exact ⟨f, fd, a, b, c, d.mono l⟩
theorem call {X : Cx} {j k : Nat} {x : Str} {ps : List Str} {sp : Sp} {p pos : Pos} {e : Expr} {es : List Expr} {t : TA} (h : Kept X.prog X.w X.K X.mg X.base j x ps sp) (hr : Room k X.A) (ha : PA X (e :: es) t) (hj : j ≤ k := by decide) (hg : Gl X x := by rfl)
    (hd : (x == ("__debug__" : Str)) = false := by decide) (he : starEach (e :: es) X.env = (false, eval e X.env) :: starEach es X.env := by rfl) (hpl : (backTo pos (starEach es X.env)).any (·.1) = false := by rfl) : PE X (.Call (.Name x p) (e :: es) [] pos) (tCall sp [] E0 t) := by
  obtain ⟨f, fd, a, b, c, d⟩ := h.ex
  exact pe_call d (hr.mono hj) hg c a b .nil pass0 ha hd he hpl
theorem call0 {X : Cx} {j k : Nat} {x : Str} {ps : List Str} {sp : Sp} {p pos : Pos} (h : Kept X.prog X.w X.K X.mg X.base j x ps sp) (hr : Room k X.A) (hj : j ≤ k := by decide) (hg : Gl X x := by rfl)
    (hd : (x == ("__debug__" : Str)) = false := by decide) : PE X (.Call (.Name x p) [] [] pos) (tCall sp [] E0 tNil) := by
  obtain ⟨f, fd, a, b, c, d⟩ := h.ex
  exact pe_call0 d (hr.mono hj) hg c a b .nil pass0 hd
end

/-! ### readings by values that bear a name -/
def rInt1 : List V → Hp → VK → Prop := fun xs H Q => (∃ i, xs = [.int i] ∧ Q (.int i) H) ∨ ∃ k, xs = [.bl k] ∧ Q (.int (if k then 1 else 0)) H
def rLen (K : PySem.W.Frag) : List V → Hp → VK → Prop := fun xs H Q => ∃ p ys, xs = [.ref p] ∧ (SqL K H p ys ∨ SqT K H p ys) ∧ Q (.int ys.length) H
def rLenD : List V → Hp → VK → Prop := fun xs H Q => ∃ a kvs, xs = [V.ref a] ∧ Rd H a (.dK kvs) ∧ Q (.int kvs.length) H
def rLenS : List V → Hp → VK → Prop := fun xs H Q => ∃ z, xs = [.str z] ∧ z.length ≤ sizeLine ∧ Q (.int z.length) H
def rListOf (K : PySem.W.Frag) : List V → Hp → VK → Prop := fun xs H Q => ∃ p ys, xs = [.ref p] ∧ (SqL K H p ys ∨ SqT K H p ys) ∧ ∀ l, H l = none → Q (.ref l) (upd H l (.lst ys))
def rTup : List V → Hp → VK → Prop := fun xs H Q => xs.length ≤ sizeLine ∧ ∀ p, H p = none → Q (.ref p) (upd H p (.tup xs))
def rLst : List V → Hp → VK → Prop := fun xs H Q => xs.length ≤ sizeLine ∧ ∀ p, H p = none → Q (.ref p) (upd H p (.lst xs))
def rDGet : R2 := fun x y H Q => ∃ a v, x = .ref a ∧ DGet H a y (some v) ∧ Q v H
def rDIn : R2 := fun y x H Q => ∃ a o, x = .ref a ∧ DGet H a y o ∧ Q (.bl o.isSome) H
def rDNotIn : R2 := fun y x H Q => ∃ a o, x = .ref a ∧ DGet H a y o ∧ Q (.bl (!o.isSome)) H
def rGet2 (a : Addr) (y z : V) (H : Hp) (Q : VK) : Prop := ∃ o, DGet H a y o ∧ Q (o.getD z) H
def tGet2 (td ty tx : TE) : TE := fun σ H Q => td σ H fun x H1 => ∃ a, x = .ref a ∧ IsD H1 a ∧ ty σ H1 fun y H2 => tx σ H2 fun z H3 => rGet2 a y z H3 Q
def rIsN : R2 := fun x y H Q => y = .non ∧ Q (.bl (decide (x = .non))) H
def rNotN : R2 := fun x y H Q => y = .non ∧ Q (.bl (!decide (x = .non))) H
def rAddS : R2 := fun x y H Q => ∃ i j, x = .str i ∧ y = .str j ∧ i.length + j.length ≤ sizeLine ∧ Q (.str (i ++ j)) H
def rMax2 : List V → Hp → VK → Prop := fun xs H Q => ∃ i j, xs = [.int i, .int j] ∧ Q (.int (if j > i then j else i)) H
def rMin2 : List V → Hp → VK → Prop := fun xs H Q => ∃ i j, xs = [.int i, .int j] ∧ Q (.int (if j < i then j else i)) H
section
variable {X : Cx} {a b e o i f : Expr} {es : List Expr} {ta tb td ty tx : TE} {as : TA} {pos : Pos}
theorem call_int1 : CallR X (.type "int") rInt1 := L2.call_int1
theorem call_len_seq : CallR X (.builtin "len") (rLen X.K) := L2.call_len_seq
theorem call_lenD : CallR X (.builtin "len") rLenD := by
  intro pins s σ H xs us Q I r h
  obtain ⟨a, kvs, rfl, ha, q⟩ := h
  obtain ⟨u, rfl, ru⟩ := vals1 r
  cases ru
  exact d_len I ha fun t s' I' => ⟨.int kvs.length, H, I', ⟨t, rfl⟩, q⟩
theorem call_len_str : CallR X (.builtin "len") rLenS := L2.call_len_str
theorem call_list_of : CallR X (.type "list") (rListOf X.K) := L2.call_list_of
theorem call_max2 (hc : X.calm = true) : CallR X (.builtin "max") rMax2 := L2.call_max2 hc
theorem call_min2 (hc : X.calm = true) : CallR X (.builtin "min") rMin2 := L2.call_min2 hc
theorem op_isN : OpR X (compareOp .Is) rIsN := L2.op_isN
theorem op_notN : OpR X (compareOp .IsNot) rNotN := L2.op_notN
theorem op_add_str : OpR X (binaryOp .Add) rAddS := L2.op_add_str
theorem pe_tup {x1} (h : PA X es as) : PE X (.Tuple es x1 pos) (tCB rTup as) := L2.pe_tup h
theorem pe_lst (h : PA X es as) : PE X (.List es pos) (tCB rLst as) := L2.pe_lst h
theorem pe_dget (hu : X.A.units + 1 < cLine) (ho : PE X o td) (hi : PE X i ty) (hs : NoSl i) : PE X (.Subscript o i pos) (tOp rDGet td ty) := L2.pe_dget hu ho hi hs
theorem pe_dget2 {apos cpos : Pos} (hu : X.A.units + 1 < cLine) (ho : PE X o td) (he : PE X e ty) (hf : PE X f tx) (m : M2 X o "get" apos e f cpos) : PE X (.Call (.Attribute o "get" apos) [e, f] [] cpos) (tGet2 td ty tx) := L2.pe_dget2 hu ho he hf m
theorem pc_din (hu : X.A.units + 1 < cLine) (hi : PE X i ty) (ho : PE X o td) : PC X .In i o (tOp rDIn ty td) := L2.pc_din hu hi ho
theorem pc_dnotin (hu : X.A.units + 1 < cLine) (hi : PE X i ty) (ho : PE X o td) : PC X .NotIn i o (tOp rDNotIn ty td) := L2.pc_dnotin hu hi ho
end

/-! the same with the written part named (within a comprehension's block) -/
section
variable {X : Cx} {K : PySem.W.Frag}
theorem ixL (h : X.K = K) : IxR X (rIxL K) := h ▸ L2.ix_list
theorem ixT (h : X.K = K) : IxR X (rIxT K) := h ▸ L2.ix_tup
theorem slL (h : X.K = K) : SlR X (rSlL K) := h ▸ L2.sl_list
theorem inSeq (h : X.K = K) : OpR X (compareOp .In) (rIn K false) := h ▸ L2.op_in_seq
theorem notInSeq (h : X.K = K) : OpR X (compareOp .NotIn) (rIn K true) := h ▸ L2.op_notIn_seq
theorem eqD (h : X.K = K) (hu : X.A.units + 64 < cLine) : OpR X (compareOp .Eq) (rEqD K) := h ▸ L2.op_eqD hu
theorem neD (h : X.K = K) (hu : X.A.units + 64 < cLine) : OpR X (compareOp .NotEq) (rNeD K) := h ▸ L2.op_neD hu
theorem lenSeq (h : X.K = K) : CallR X (.builtin "len") (rLen K) := h ▸ Go.call_len_seq
theorem listOf (h : X.K = K) : CallR X (.type "list") (rListOf K) := h ▸ Go.call_list_of
theorem isi (h : X.K = K) : CallR X (.builtin "isinstance") (rIsi K) := h ▸ L2.call_isi
theorem sumL (h : X.K = K) (hc : X.calm = true) : CallR X (.builtin "sum") (rSum K) := h ▸ L2.cr_sum hc
end
/-! ### the readings' introductions -/
section
variable {σ : St} {H : Hp} {Q : VK} {D : Ends} {K : PySem.W.Frag} {te ta tb td ty tx : TE} {t u c : TT} {s1 s2 : TS} {v x y z : V} {i j : Nat} {r : R2} {g : TG} {gs : TGs} {as : TA} {R : Bool → Hp → Prop} {RL : List V → Hp → Prop} {RG : St → Hp → Prop} {a p : Addr} {xs : List V}
theorem g_seq (h : s1 { D with nx := s2 D } σ H) : tSeq s1 s2 D σ H := h
theorem g_next (h : D.nx σ H) : tNext D σ H := h
theorem g_brk (h : D.bk σ H) : tBreak D σ H := h
theorem g_cont (h : D.ct σ H) : tCont D σ H := h
theorem g_drop (h : te σ H fun _ H1 => D.nx σ H1) : tDrop te D σ H := h
theorem g_ret (h : te σ H D.rt) : tRet te D σ H := h
theorem g_retN (h : D.rt .non H) : tRetN D σ H := h
theorem g_if (h : c σ H fun b H1 => if b = true then s1 D σ H1 else s2 D σ H1) : tIfS c s1 s2 D σ H := h
theorem g_asg (h : te σ H fun x H1 => g x σ H1 D.nx) : tAsg te g D σ H := h
theorem g_name {v : V} (h : RG (σ.set i (some v)) H) : gName i v σ H RG := h
theorem g_sub {to ti : TE} {ts : TSet} (h : to σ H fun o H1 => ti σ H1 fun i H2 => ts o i v H2 fun H3 => RG σ H3) : gSub to ti ts v σ H RG := h
theorem g_gnil (h : RG σ H) : gNil [] σ H RG := ⟨rfl, h⟩
theorem g_gcons {v : V} {r : List V} (h : g v σ H fun σ' H' => gs r σ' H' RG) : gCons g gs (v :: r) σ H RG := ⟨v, r, rfl, h⟩
theorem g_gtup {n : Nat} {xs : List V} (h : SqT K H a xs) (hn : xs.length = n) (q : gs xs σ H RG) : gTup K n gs (.ref a) σ H RG := ⟨a, xs, rfl, h, hn, q⟩
theorem g_aug {ti : TIp} (e : σ[i]? = some (some x)) (h : te σ H fun y H1 => ti x y H1 fun z H2 => D.nx (σ.set i (some z)) H2) : tAug i te ti D σ H := ⟨x, e, h⟩
theorem g_var (e : σ[i]? = some (some v)) (h : Q v H) : tVar i σ H Q := ⟨v, e, h⟩
theorem g_c (h : Q v H) : tC v σ H Q := h
theorem g_op (h : ta σ H fun x H1 => tb σ H1 fun y H2 => r x y H2 Q) : tOp r ta tb σ H Q := h
theorem g_un {r : V → Hp → VK → Prop} (h : ta σ H fun x H1 => r x H1 Q) : tUn r ta σ H Q := h
theorem g_rI {C : Int → Int → Prop} {f : Int → Int → V} {i j : Int} (hc : C i j) (h : Q (f i j) H) : rI C f (.int i) (.int j) H Q := ⟨i, j, rfl, rfl, hc, h⟩
theorem g_rI0 {f : Int → Int → V} {i j : Int} (h : Q (f i j) H) : rI0 f (.int i) (.int j) H Q := ⟨i, j, rfl, rfl, h⟩
theorem g_rU {f : Int → V} {i : Int} (h : Q (f i) H) : rU f (.int i) H Q := ⟨i, rfl, h⟩
theorem g_rEq (hs : scal x y = true) (h : Q (.bl (decide (x = y))) H) : rEq x y H Q := ⟨hs, h⟩
theorem g_rNe (hs : scal x y = true) (h : Q (.bl (!decide (x = y))) H) : rNe x y H Q := ⟨hs, h⟩
theorem g_test (h : te σ H fun x H' => ∃ k, x = .bl k ∧ R k H') : tTest te σ H R := h
theorem g_tB (h : te σ H fun x H' => ∃ k, x = .bl k ∧ R k H') : tB te σ H R := h
theorem g_bl {k : Bool} {P : Bool → Prop} (h : P k) : ∃ k', V.bl k = .bl k' ∧ P k' := ⟨k, rfl, h⟩
theorem g_and (h : t σ H fun c H1 => if c = true then u σ H1 R else R false H1) : tAnd t u σ H R := h
theorem g_or (h : t σ H fun c H1 => if c = true then R true H1 else u σ H1 R) : tOr t u σ H R := h
theorem g_not (h : t σ H fun c H1 => R (!c) H1) : tNot t σ H R := h
theorem g_andV (h : ta σ H fun x H1 => ∃ c, x = .bl c ∧ if c = true then tb σ H1 Q else Q (.bl false) H1) : tAndV ta tb σ H Q := h
theorem g_orV (h : ta σ H fun x H1 => ∃ c, x = .bl c ∧ if c = true then Q (.bl true) H1 else tb σ H1 Q) : tOrV ta tb σ H Q := h
theorem g_notV (h : ta σ H fun x H1 => ∃ c, x = .bl c ∧ Q (.bl (!c)) H1) : tNotV ta σ H Q := h
theorem g_ifE (h : t σ H fun c H1 => if c = true then ta σ H1 Q else tb σ H1 Q) : tIf t ta tb σ H Q := h
theorem g_nil (h : RL [] H) : tNil σ H RL := h
theorem g_cons (h : te σ H fun x H1 => as σ H1 fun xs H2 => RL (x :: xs) H2) : tCons te as σ H RL := h
theorem g_cb {r : List V → Hp → VK → Prop} (h : as σ H fun vs H1 => r vs H1 Q) : tCB r as σ H Q := h
theorem g_call {sp : Sp} {E : XK} (h : as σ H fun vs H1 => sp vs H1 Q E) : tCall sp [] E as σ H Q := by
  have e : (fun (vs : List V) H1 => sp vs H1 Q E) = fun vs H1 => sp (vs ++ []) H1 Q E := by
    funext vs H1
    rw [List.append_nil]
  rw [e] at h
  exact h
theorem g_rTup (hl : xs.length ≤ 100000) (h : ∀ p, H p = none → Q (.ref p) (upd H p (.tup xs))) : rTup xs H Q := ⟨Nat.le_trans hl (by decide), h⟩
theorem g_rLst (hl : xs.length ≤ 100000) (h : ∀ p, H p = none → Q (.ref p) (upd H p (.lst xs))) : rLst xs H Q := ⟨Nat.le_trans hl (by decide), h⟩
theorem g_new {n : Nat} {P : Prop} (hn : n ≤ 100000) (h : P) : n ≤ sizeLine ∧ P := ⟨Nat.le_trans hn (by decide), h⟩
theorem g_dnew (h : ∀ p, H p = none → Q (.ref p) (upd H p (.dK []))) : tDNewK σ H Q := h
theorem g_ixL {k : Int} (hs : SqL K H p xs) (ha : atI xs k = some v) (h : Q v H) : rIxL K (.ref p) (.int k) H Q := ⟨p, xs, k, v, rfl, rfl, hs, ha, h⟩
theorem g_ixT {k : Int} (hs : SqT K H p xs) (ha : atI xs k = some v) (h : Q v H) : rIxT K (.ref p) (.int k) H Q := ⟨p, xs, k, v, rfl, rfl, hs, ha, h⟩
theorem g_setL {k : Int} {n : Nat} {RH : Hp → Prop} (hs : H p = some (.lst xs)) (ha : ixN xs.length k = some n) (h : RH (upd H p (.lst (xs.set n v)))) : rSetL (.ref p) (.int k) v H RH := ⟨p, xs, k, n, rfl, rfl, hs, ha, h⟩
theorem g_int1 {n : Int} (h : Q (.int n) H) : rInt1 [.int n] H Q := .inl ⟨n, rfl, h⟩
theorem g_len {ys : List V} (hs : SqL K H p ys ∨ SqT K H p ys) (h : Q (.int ys.length) H) : rLen K [.ref p] H Q := ⟨p, ys, rfl, hs, h⟩
theorem g_lenD {kvs : List (Key × V)} (hs : Rd H p (.dK kvs)) (h : Q (.int kvs.length) H) : rLenD [.ref p] H Q := ⟨p, kvs, rfl, hs, h⟩
theorem g_listOf {ys : List V} (hs : SqL K H p ys ∨ SqT K H p ys) (h : ∀ l, H l = none → Q (.ref l) (upd H l (.lst ys))) : rListOf K [.ref p] H Q := ⟨p, ys, rfl, hs, h⟩
theorem g_listD {kvs : List (Key × V)} (hs : H p = some (.dK kvs)) (h : ∀ l, H l = none → Q (.ref l) (upd H l (.lst (kvs.map fun kv => kV kv.1)))) : rListD [.ref p] H Q := ⟨p, kvs, rfl, hs, h⟩
theorem g_dget {k : Int} {kvs : List (Key × V)} (hd : Rd H a (.dK kvs)) (e : valV kvs (.inl k) = some v) (h : Q v H) : rDGet (.ref a) (.int k) H Q := ⟨a, v, rfl, .inl ⟨kvs, .inl k, hd, rfl, e.symm⟩, h⟩

theorem g_din {k : Int} {kvs : List (Key × V)} (hd : Rd H a (.dK kvs)) (h : Q (.bl (valV kvs (.inl k)).isSome) H) : rDIn (.int k) (.ref a) H Q := ⟨a, _, rfl, .inl ⟨kvs, .inl k, hd, rfl, rfl⟩, h⟩
theorem g_dnotin {k : Int} {kvs : List (Key × V)} (hd : Rd H a (.dK kvs)) (h : Q (.bl (!(valV kvs (.inl k)).isSome)) H) : rDNotIn (.int k) (.ref a) H Q := ⟨a, _, rfl, .inl ⟨kvs, .inl k, hd, rfl, rfl⟩, h⟩


theorem g_dget2 (h : td σ H fun x H1 => ∃ a, x = .ref a ∧ IsD H1 a ∧ ty σ H1 fun y H2 => tx σ H2 fun z H3 => rGet2 a y z H3 Q) : tGet2 td ty tx σ H Q := h
theorem g_isD {kvs : List (Key × V)} {P : Addr → Prop} (hd : Rd H a (.dK kvs)) (h : P a) : ∃ b, V.ref a = .ref b ∧ IsD H b ∧ P b := ⟨a, rfl, .inl ⟨kvs, hd⟩, h⟩
theorem g_rGet2 {k : Int} {kvs : List (Key × V)} (hd : Rd H a (.dK kvs)) (h : Q ((valV kvs (.inl k)).getD z) H) : rGet2 a (.int k) z H Q := ⟨_, .inl ⟨kvs, .inl k, hd, rfl, rfl⟩, h⟩
theorem g_dput (h : te σ H fun v H1 => td σ H1 fun x H2 => ty σ H2 fun y H3 => ∃ a H4, x = .ref a ∧ DPut H3 a y v H4 ∧ D.nx σ H4) : sDPut td ty te D σ H := h
theorem g_dputI {k : Int} {kvs : List (Key × V)} {RH : Hp → Prop} (hd : H a = some (.dK kvs)) (hl : kvs.length < 100000) (h : RH (upd H a (.dK (putK kvs (.inl k) v)))) : ∃ b H4, V.ref a = .ref b ∧ DPut H b (.int k) v H4 ∧ RH H4 :=
  ⟨a, _, rfl, .inl ⟨kvs, .inl k, hd, rfl, Nat.lt_of_lt_of_le hl (by decide), rfl⟩, h⟩
theorem g_bm {T : String} {r : V → List V → Hp → VK → Prop} (h : te σ H fun x H1 => tyV K T x H1 ∧ as σ H1 fun xs H2 => r x xs H2 Q) : tBM K T r te as σ H Q := h
theorem g_bm0 {T : String} {r : V → List V → Hp → VK → Prop} (h : te σ H fun x H1 => tyV K T x H1 ∧ r x [] H1 Q) : tBM0 K T r te σ H Q := h
theorem g_tyL {P : Prop} (hs : SqL K H a xs) (h : P) : tyV K "list" (.ref a) H ∧ P := ⟨.inl ⟨rfl, _, hs⟩, h⟩
theorem g_append {w : V} (hs : H p = some (.lst xs)) (hl : xs.length < 100000) (h : Q .non (upd H p (.lst (xs ++ [w])))) : rAppend (.ref p) [w] H Q := ⟨p, xs, w, rfl, rfl, hs, Nat.lt_of_lt_of_le hl (by decide), h⟩
theorem g_pop {w : V} {ys : List V} (hs : H p = some (.lst (ys ++ [w]))) (h : Q w (upd H p (.lst ys))) : rPop (.ref p) [] H Q := ⟨p, _, w, rfl, rfl, hs, by simp, by rw [List.dropLast_concat]; exact h⟩
theorem g_popAt {w : V} {n : Int} {k : Nat} (hs : H p = some (.lst xs)) (hk : n = (k : Int)) (hl : k < 100000) (hx : xs[k]? = some w) (h : Q w (upd H p (.lst (xs.eraseIdx k)))) : rPopAt (.ref p) [.int n] H Q := by
  have hlt : k < xs.length := (List.getElem?_eq_some_iff.mp hx).1
  have e : ixN xs.length (k : Int) = some k := by
    unfold ixN
    rw [if_pos (by omega), if_pos (by omega), Int.toNat_natCast]
  subst hk
  exact ⟨p, xs, k, k, w, rfl, rfl, hs, by omega, by omega, (ixN_seq e).1, hx, h⟩
theorem g_clear (hs : H p = some (.lst xs)) (h : Q .non (upd H p (.lst []))) : rClear (.ref p) [] H Q := ⟨p, xs, rfl, rfl, hs, h⟩
theorem g_reverse (hs : H p = some (.lst xs)) (h : Q .non (upd H p (.lst xs.reverse))) : rReverse (.ref p) [] H Q := ⟨p, xs, rfl, rfl, hs, h⟩
theorem g_yes {A B : Prop} (h : A) : if true = true then A else B := by
  rw [if_pos rfl]
  exact h
theorem g_no {A B : Prop} (h : B) : if false = true then A else B := by
  rw [if_neg Bool.false_ne_true]
  exact h
theorem g_nT {A B : Prop} (h : B) : if (!true) = true then A else B := g_no h
theorem g_nF {A B : Prop} (h : A) : if (!false) = true then A else B := g_yes h
theorem g_dec {c A B : Prop} [Decidable c] (h1 : c → A) (h2 : ¬ c → B) : if decide c = true then A else B := by
  by_cases h : c
  · rw [decide_eq_true h]; exact g_yes (h1 h)
  · rw [decide_eq_false h]; exact g_no (h2 h)
theorem g_ndec {c A B : Prop} [Decidable c] (h1 : ¬ c → A) (h2 : c → B) : if (!decide c) = true then A else B := by
  by_cases h : c
  · rw [decide_eq_true h]; exact g_no (h2 h)
  · rw [decide_eq_false h]; exact g_yes (h1 h)
theorem g_bool {b : Bool} {A B : Prop} (h1 : b = true → A) (h2 : b = false → B) : if b = true then A else B := by
  cases b with
  | true => exact g_yes (h1 rfl)
  | false => exact g_no (h2 rfl)
theorem g_nbool {b : Bool} {A B : Prop} (h1 : b = false → A) (h2 : b = true → B) : if (!b) = true then A else B := by
  cases b with
  | true => exact g_no (h2 rfl)
  | false => exact g_yes (h1 rfl)
theorem g_max2 {i j : Int} (h : Q (.int (if j > i then j else i)) H) : rMax2 [.int i, .int j] H Q := ⟨i, j, rfl, h⟩
theorem g_min2 {i j : Int} (h : Q (.int (if j < i then j else i)) H) : rMin2 [.int i, .int j] H Q := ⟨i, j, rfl, h⟩
theorem g_isN (h : Q (.bl (decide (x = .non))) H) : rIsN x .non H Q := ⟨rfl, h⟩
theorem g_notN (h : Q (.bl (!decide (x = .non))) H) : rNotN x .non H Q := ⟨rfl, h⟩
theorem g_rEqD {d e : PyData} (hd : Dp K H x d) (he : Dp K H y e) (sd : SeqAt.shaped d = true) (se : SeqAt.shaped e = true) (h : Q (.bl (PyData.eqv d e)) H) : rEqD K x y H Q := ⟨d, e, hd, he, sd, se, h⟩
theorem g_rNeD {d e : PyData} (hd : Dp K H x d) (he : Dp K H y e) (sd : SeqAt.shaped d = true) (se : SeqAt.shaped e = true) (h : Q (.bl (!PyData.eqv d e)) H) : rNeD K x y H Q := ⟨d, e, hd, he, sd, se, h⟩
/-! lists of ints as data -/
theorem dpAll_ints (ns : List Int) : DpAll K H (ns.map V.int) (ns.map PyData.int) := by
  induction ns with
  | nil => exact .nil
  | cons n r ih => exact .cons (.int n) ih
theorem dp_ints {ns : List Int} (h : SqL K H a (ns.map V.int)) : Dp K H (.ref a) (.list (ns.map PyData.int)) := .lst h (dpAll_ints ns)
theorem lay_ints (ns : List Int) : PyData.canLayAll0 (ns.map PyData.int) = true ∧ PyData.depthAll (ns.map PyData.int) = 0 := by
  induction ns with
  | nil => exact ⟨by simp [PyData.canLayAll0], by simp [PyData.depthAll]⟩
  | cons n r ih => exact ⟨by simp [PyData.canLayAll0, PyData.canLay0, ih.1], by simp [PyData.depthAll, PyData.depth, ih.2]⟩
theorem shaped_ints (ns : List Int) : SeqAt.shaped (.list (ns.map PyData.int)) = true := by
  unfold SeqAt.shaped
  simp [PyData.canLay0, PyData.depth, (lay_ints ns).1, (lay_ints ns).2]
theorem eqv_nil (ns : List Int) : PyData.eqv (.list (ns.map PyData.int)) (.list []) = decide (ns = []) := by
  cases ns <;> simp [PyData.eqv, PyData.eqvAll]
/-! ints in a list of ints -/
theorem inV_ints (n : Int) (ns : List Int) : inV (.int n) (ns.map V.int) = decide (n ∈ ns) := by
  unfold inV
  rw [List.any_map, Bool.eq_iff_iff, List.any_eq_true, decide_eq_true_iff]
  constructor
  · rintro ⟨x, hx, e⟩
    have e' : (x == n) = true := e
    rw [beq_iff_eq] at e'
    exact e' ▸ hx
  · intro h
    exact ⟨n, h, beq_self_eq_true n⟩
theorem flat_ints (ns : List Int) : (ns.map V.int).all flatV = true := by
  rw [List.all_map, List.all_eq_true]
  intro _ _
  rfl
theorem g_inInts {n : Int} {ns : List Int} (hs : SqL K H p (ns.map V.int) ∨ SqT K H p (ns.map V.int)) (h : Q (.bl (decide (n ∈ ns))) H) : rIn K false (.int n) (.ref p) H Q := by
  refine ⟨p, _, rfl, hs, rfl, flat_ints ns, ?_⟩
  rw [if_neg Bool.false_ne_true, inV_ints]
  exact h
theorem g_notInInts {n : Int} {ns : List Int} (hs : SqL K H p (ns.map V.int) ∨ SqT K H p (ns.map V.int)) (h : Q (.bl (!decide (n ∈ ns))) H) : rIn K true (.int n) (.ref p) H Q := by
  refine ⟨p, _, rfl, hs, rfl, flat_ints ns, ?_⟩
  rw [if_pos rfl, inV_ints]
  exact h
/-! isinstance of a built-in class; the keys of dicts that are ints -/
theorem g_isi {t c : String} {b : Bool} (ty : TyX K H x (.type t)) (hb : kitB t c = some b) (h : Q (.bl b) H) : rIsi K [x, .ty c] H Q := ⟨x, .ty c, .type t, .type c, b, rfl, .ty c, ty, kit_ty hb, h⟩
theorem ty_int (i : Int) : TyX K H (.int i) (.type "int") := .base (.int i)
theorem ty_lst {a : Addr} {xs : List V} (h : H a = some (.lst xs)) : TyX K H (.ref a) (.type "list") := .base (.lst h)
theorem ty_tup {a : Addr} {xs : List V} (h : H a = some (.tup xs)) : TyX K H (.ref a) (.type "tuple") := .base (.tup h)
/-! what is walked is locked -/
theorem g_lock {a : Addr} {kvs : List (Key × V)} {ts : TS} (hd : H a = some (.dK kvs)) (h : ∀ od, ts ⟨fun σ' H' => H' a = some (.frz od (.dK kvs)) ∧ D.nx σ' (upd H' a (.dK kvs)), fun v H' => H' a = some (.frz od (.dK kvs)) ∧ D.rt v (upd H' a (.dK kvs)),
    fun σ' H' => H' a = some (.frz od (.dK kvs)) ∧ D.bk σ' (upd H' a (.dK kvs)), fun σ' H' => H' a = some (.frz od (.dK kvs)) ∧ D.ct σ' (upd H' a (.dK kvs))⟩ σ (upd H a (.frz od (.dK kvs)))) : tLock ts D σ H := ⟨a, _, hd, trivial, h⟩
theorem g_lockE {a : Addr} {kvs : List (Key × V)} (hd : H a = some (.dK kvs)) (h : ∀ od, te σ (upd H a (.frz od (.dK kvs))) fun v H' => H' a = some (.frz od (.dK kvs)) ∧ Q v (upd H' a (.dK kvs))) : tLockE te σ H Q := ⟨a, _, hd, trivial, h⟩
end

/-! ### loops -/
/-- what a for asks of what is walked -/
def ForR (g : TG) (tb : TS) (D : Ends) (σ : L2.St) : It → Hp → Prop := fun J H1 => ∃ W : Nat → Nat → L2.St → Hp → Prop, (∃ m, W 0 m σ H1) ∧ ∀ i m σ H, W i m σ H →
  (J.stop i H ∧ D.nx σ H) ∨ (J.go i H ∧ ∃ N : L2.St → Hp → Prop, (∀ σ' H', N σ' H' → ∃ m', m' < m ∧ W (i + 1) m' σ' H') ∧ ∀ x H', J.yld i H x H' → g x σ H' fun σ2 H2 => tb { D with nx := N, ct := N, bk := D.nx } σ2 H2)
/-- what a comprehension asks, D its list -/
def LcR (g : TG) (tt : TT) (te : TE) (vs : List Nat) (σ : L2.St) (Q : VK) : It → Hp → Prop := fun J H1 => ∀ D, H1 D = none → ∃ W : Nat → Nat → Hp → Prop, (∃ m, W 0 m (upd H1 D (.lst []))) ∧ ∀ i m H, W i m H →
  (J.stop i H ∧ Q (.ref D) H) ∨ (J.go i H ∧ ∃ Nx : Hp → Prop, (∀ H', Nx H' → ∃ m', m' < m ∧ W (i + 1) m' H') ∧ ∀ x H', J.yld i H x H' → g x (wipe σ vs) H' fun σ2 H2 => wipe σ2 vs = wipe σ vs ∧ tt σ2 H2 fun b H3 =>
    if b = true then te σ2 H3 fun y H4 => ∃ acc, H4 D = some (.lst acc) ∧ acc.length < sizeLine ∧ Nx (upd H4 D (.lst (acc ++ [y]))) else Nx H3)
def iListR (K : PySem.W.Frag) (x : V) (H1 : Hp) (R : It → Hp → Prop) : Prop := ∃ a, x = .ref a ∧ (∃ xs, SqL K H1 a xs) ∧ R (Itl K a) H1
def iTupR (K : PySem.W.Frag) (x : V) (H1 : Hp) (R : It → Hp → Prop) : Prop := ∃ a, x = .ref a ∧ (∃ xs, SqT K H1 a xs) ∧ R (Itt K a) H1
def iRng1R (vs : List V) (H1 : Hp) (R : It → Hp → Prop) : Prop := ∃ j : Int, vs = [.int j] ∧ -(2 ^ 62) ≤ j ∧ j < 2 ^ 62 ∧ R (Itr 0 j.toNat) H1
def iRng2R (vs : List V) (H1 : Hp) (R : It → Hp → Prop) : Prop := ∃ i j : Int, vs = [.int i, .int j] ∧ (-(2 ^ 62) ≤ i ∧ i < 2 ^ 62 ∧ -(2 ^ 62) ≤ j ∧ j < 2 ^ 62) ∧ R (Itr i (j - i).toNat) H1
def iKeysR (x : V) (H1 : Hp) (R : It → Hp → Prop) : Prop := ∃ d o, x = .ref d ∧ ((∃ kvs, H1 d = some (.frz o (.dK kvs)) ∧ R (Itk d o kvs) H1) ∨ ∃ kvs, H1 d = some (.frz o (.dT kvs)) ∧ R (Itkt d o kvs) H1)
section
variable {K : PySem.W.Frag} {D : Ends} {σ : L2.St} {H : Hp} {g : TG} {tb : TS} {c tt : TT} {te tl : TE} {vs : List Nat} {Q : VK} {R : It → Hp → Prop} {as : TA} {wi : TI} {a : Addr} {xs : List V}
theorem g_for (h : wi σ H (ForR g tb D σ)) : tFor wi g tb D σ H := h
/-- a while: what it asks -/
theorem g_while (W : Nat → L2.St → Hp → Prop) (h0 : ∃ m, W m σ H) (hs : ∀ m σ H, W m σ H → c σ H fun b H1 => if b = true then ∃ N : L2.St → Hp → Prop, (∀ σ' H', N σ' H' → ∃ m', m' < m ∧ W m' σ' H') ∧ tb { D with nx := N, ct := N, bk := D.nx } σ H1 else D.nx σ H1) : tWhile c tb D σ H := ⟨W, h0, hs⟩
theorem g_lc (h : wi σ H (LcR g tt te vs σ Q)) : tLc wi g tt te vs σ H Q := h
theorem g_iList (h : tl σ H fun x H1 => iListR K x H1 R) : iList K tl σ H R := h
theorem g_iTup (h : tl σ H fun x H1 => iTupR K x H1 R) : iTup K tl σ H R := h
theorem g_iRng1 (h : as σ H fun x H1 => iRng1R x H1 R) : iRng1 as σ H R := h
theorem g_iRng2 (h : as σ H fun x H1 => iRng2R x H1 R) : iRng2 as σ H R := h
theorem g_iKeys (h : tl σ H fun x H1 => iKeysR x H1 R) : iKeys tl σ H R := h
theorem g_iListR (hs : SqL K H a xs) (h : R (Itl K a) H) : iListR K (.ref a) H R := ⟨a, rfl, ⟨xs, hs⟩, h⟩
theorem g_iTupR (hs : SqT K H a xs) (h : R (Itt K a) H) : iTupR K (.ref a) H R := ⟨a, rfl, ⟨xs, hs⟩, h⟩
theorem g_iRng1R {j : Int} (hj : -(2 ^ 62) ≤ j ∧ j < 2 ^ 62) (h : R (Itr 0 j.toNat) H) : iRng1R [.int j] H R := ⟨j, rfl, hj.1, hj.2, h⟩
theorem g_iRng2R {i j : Int} (hj : -(2 ^ 62) ≤ i ∧ i < 2 ^ 62 ∧ -(2 ^ 62) ≤ j ∧ j < 2 ^ 62) (h : R (Itr i (j - i).toNat) H) : iRng2R [.int i, .int j] H R := ⟨i, j, rfl, hj, h⟩
theorem g_iKeysR {o : Obj} {kvs : List (Key × V)} (hs : H a = some (.frz o (.dK kvs))) (h : R (Itk a o kvs) H) : iKeysR (.ref a) H R := ⟨a, o, rfl, .inl ⟨kvs, hs, h⟩⟩
/-- a for over a list, a range, a locked dict's keys -/
theorem f_list (Pv : Nat → L2.St → Hp → Prop) (h0 : Pv 0 σ H) (hl : ∀ i σ H, i ≤ xs.length → Pv i σ H → SqL K H a xs)
    (hs : ∀ i x σ H, xs[i]? = some x → Pv i σ H → g x σ H fun σ2 H2 => tb { D with nx := Pv (i + 1), ct := Pv (i + 1), bk := D.nx } σ2 H2) (hd : ∀ σ H, Pv xs.length σ H → D.nx σ H) : ForR g tb D σ (Itl K a) H := for_list Pv h0 hl hs hd
theorem f_tup (Pv : Nat → L2.St → Hp → Prop) (h0 : Pv 0 σ H) (hl : ∀ i σ H, i ≤ xs.length → Pv i σ H → SqT K H a xs)
    (hs : ∀ i x σ H, xs[i]? = some x → Pv i σ H → g x σ H fun σ2 H2 => tb { D with nx := Pv (i + 1), ct := Pv (i + 1), bk := D.nx } σ2 H2) (hd : ∀ σ H, Pv xs.length σ H → D.nx σ H) : ForR g tb D σ (Itt K a) H := for_tup Pv h0 hl hs hd
theorem f_range {lo : Int} {n : Nat} (Pv : Nat → L2.St → Hp → Prop) (h0 : Pv 0 σ H)
    (hs : ∀ i σ H, i < n → Pv i σ H → g (.int (lo + i)) σ H fun σ2 H2 => tb { D with nx := Pv (i + 1), ct := Pv (i + 1), bk := D.nx } σ2 H2) (hd : ∀ σ H, Pv n σ H → D.nx σ H) : ForR g tb D σ (Itr lo n) H := for_range Pv h0 hs hd
theorem f_keys {o : Obj} {kvs : List (Key × V)} (Pv : Nat → L2.St → Hp → Prop) (h0 : Pv 0 σ H) (hl : ∀ i σ H, i ≤ kvs.length → Pv i σ H → H a = some (.frz o (.dK kvs)))
    (hs : ∀ i k v σ H, kvs[i]? = some (k, v) → Pv i σ H → g (kV k) σ H fun σ2 H2 => tb { D with nx := Pv (i + 1), ct := Pv (i + 1), bk := D.nx } σ2 H2) (hd : ∀ σ H, Pv kvs.length σ H → D.nx σ H) : ForR g tb D σ (Itk a o kvs) H :=
  for_it walk_keys Pv h0 hl (fun i x σ H H' hi p y => by
    obtain ⟨rfl, k, v, e, rfl⟩ := y
    exact hs i k v σ _ e p) hd
/-- a comprehension over a list, a range, a locked dict's keys -/
theorem c_list (h : ∀ D, H D = none → ∃ Pv : Nat → Hp → Prop, Pv 0 (upd H D (.lst [])) ∧ (∀ i H, i ≤ xs.length → Pv i H → SqL K H a xs) ∧
    (∀ i x H, xs[i]? = some x → Pv i H → g x (wipe σ vs) H fun σ2 H2 => wipe σ2 vs = wipe σ vs ∧ tt σ2 H2 fun b H3 =>
      if b = true then te σ2 H3 fun y H4 => ∃ acc, H4 D = some (.lst acc) ∧ acc.length < sizeLine ∧ Pv (i + 1) (upd H4 D (.lst (acc ++ [y]))) else Pv (i + 1) H3) ∧ ∀ H, Pv xs.length H → Q (.ref D) H) : LcR g tt te vs σ Q (Itl K a) H := fun D hD => by
  obtain ⟨Pv, h0, hl, hs, hd⟩ := h D hD
  exact lc_list Pv h0 hl hs hd
theorem c_range {lo : Int} {n : Nat} (h : ∀ D, H D = none → ∃ Pv : Nat → Hp → Prop, Pv 0 (upd H D (.lst [])) ∧
    (∀ i H, i < n → Pv i H → g (.int (lo + i)) (wipe σ vs) H fun σ2 H2 => wipe σ2 vs = wipe σ vs ∧ tt σ2 H2 fun b H3 =>
      if b = true then te σ2 H3 fun y H4 => ∃ acc, H4 D = some (.lst acc) ∧ acc.length < sizeLine ∧ Pv (i + 1) (upd H4 D (.lst (acc ++ [y]))) else Pv (i + 1) H3) ∧ ∀ H, Pv n H → Q (.ref D) H) : LcR g tt te vs σ Q (Itr lo n) H := fun D hD => by
  obtain ⟨Pv, h0, hs, hd⟩ := h D hD
  exact lc_range Pv h0 hs hd
theorem c_keys {o : Obj} {kvs : List (Key × V)} (h : ∀ D, H D = none → ∃ Pv : Nat → Hp → Prop, Pv 0 (upd H D (.lst [])) ∧ (∀ i H, i ≤ kvs.length → Pv i H → H a = some (.frz o (.dK kvs))) ∧
    (∀ i k v H, kvs[i]? = some (k, v) → Pv i H → g (kV k) (wipe σ vs) H fun σ2 H2 => wipe σ2 vs = wipe σ vs ∧ tt σ2 H2 fun b H3 =>
      if b = true then te σ2 H3 fun y H4 => ∃ acc, H4 D = some (.lst acc) ∧ acc.length < sizeLine ∧ Pv (i + 1) (upd H4 D (.lst (acc ++ [y]))) else Pv (i + 1) H3) ∧ ∀ H, Pv kvs.length H → Q (.ref D) H) : LcR g tt te vs σ Q (Itk a o kvs) H := fun D hD => by
  obtain ⟨Pv, h0, hl, hs, hd⟩ := h D hD
  exact lc_it walk_keys Pv h0 hl (fun i x H H' hi p y => by
    obtain ⟨rfl, k, v, e, rfl⟩ := y
    exact hs i k v _ e p) hd
theorem g_yesT {RB : Bool → Hp → Prop} (h : RB true H) : tYes σ H RB := h
/-- slices -/
theorem g_sl {r : V → Option Int → Option Int → Hp → VK → Prop} {tl' th : TO} (h : te σ H fun x H1 => tl' σ H1 fun l H2 => th σ H2 fun u H3 => r x l u H3 Q) : tSl r te tl' th σ H Q := h
theorem g_noPart {RO : Option Int → Hp → Prop} (h : RO none H) : tNoPart σ H RO := h
def rPart (x : V) (H : Hp) (RO : Option Int → Hp → Prop) : Prop := ∃ i, x = .int i ∧ RO (some i) H
theorem g_part {RO : Option Int → Hp → Prop} (h : te σ H fun x H1 => rPart x H1 RO) : tPart te σ H RO := h
theorem g_partI {RO : Option Int → Hp → Prop} {i : Int} (h : RO (some i) H) : rPart (.int i) H RO := ⟨i, rfl, h⟩
theorem g_rSlL {lo hi : Option Int} (hs : SqL K H a xs) (h : ∀ p, H p = none → Q (.ref p) (upd H p (.lst (cutV xs lo hi)))) : rSlL K (.ref a) lo hi H Q := ⟨a, xs, rfl, hs, h⟩
theorem g_sum {ns : List Int} (hs : SqL K H a (ns.map V.int)) (h : Q (.int ns.sum) H) : rSum K [.ref a] H Q := ⟨a, ns, rfl, hs, h⟩
end
end Go
local macro_rules | `(tactic| walk_at "ne") => `(tactic| first | assumption | (apply Ne.symm; assumption) | exact L2.ne_of_none (by assumption) (by assumption) | exact (L2.ne_of_none (by assumption) (by assumption)).symm)
/-- what stands at an address, behind stores elsewhere -/
local macro_rules | `(tactic| walk_at "hp") => `(tactic| first
  | assumption
  | exact L2.upd_same
  | (refine Eq.trans (L2.upd_ne ?_) ?_; (focus (walk_at "ne")); (walk_at "hp")))
local macro_rules | `(tactic| walk_at "sq") => `(tactic| first | assumption | exact L2.SqL.of (by walk_at "hp") | exact L2.SqT.of (by walk_at "hp"))
/-! ### the tactic: straight code is read, statement by statement -/
local macro_rules | `(tactic| walk_at "go1") => `(tactic| first
  | (with_reducible apply Go.g_seq)
  | ((with_reducible apply Go.g_var); (exact rfl))
  | (with_reducible apply Go.g_c)
  | (with_reducible apply Go.g_op)
  | (with_reducible apply Go.g_asg)
  | ((with_reducible apply Go.g_name); (dsimp only [List.set]))
  | (with_reducible apply Go.g_rI0)
  | (with_reducible apply Go.g_cons)
  | (with_reducible apply Go.g_nil)
  | (with_reducible apply Go.g_cb)
  | (with_reducible apply Go.g_if)
  | (with_reducible apply Go.g_test)
  | (with_reducible apply Go.g_tB)
  | (with_reducible apply Go.g_bl)
  | (with_reducible apply Go.g_ret)
  | (with_reducible apply Go.g_drop)
  | (with_reducible apply Go.g_next)
  | (with_reducible apply Go.g_sub)
  | (with_reducible apply Go.g_and)
  | (with_reducible apply Go.g_or)
  | (with_reducible apply Go.g_not)
  | (with_reducible apply Go.g_andV)
  | (with_reducible apply Go.g_orV)
  | (with_reducible apply Go.g_notV)
  | (with_reducible apply Go.g_int1)
  | (with_reducible apply Go.g_call)
  | (with_reducible apply Go.g_un)
  | (with_reducible apply Go.g_rU)
  | ((with_reducible apply Go.g_rEq); (exact rfl))
  | ((with_reducible apply Go.g_rNe); (exact rfl))
  | ((with_reducible apply Go.g_rI); (first | exact (show (0 : Int) < _ by decide) | exact Or.inr ⟨by decide, by decide⟩ | exact ⟨by decide, by decide⟩ | exact ⟨by decide, by decide, by decide⟩))
  | ((with_reducible apply Go.g_ixL); (walk_at "sq"); (exact rfl))
  | ((with_reducible apply Go.g_ixT); (walk_at "sq"); (exact rfl))
  | ((with_reducible apply Go.g_setL); (walk_at "hp"); (exact rfl); (try dsimp only [Int.reduceToNat, List.set]))
  | ((with_reducible apply Go.g_rTup); (exact Nat.le_of_ble_eq_true rfl))
  | ((with_reducible apply Go.g_rLst); (exact Nat.le_of_ble_eq_true rfl))
  | ((with_reducible apply Go.g_tyL); (walk_at "sq"))
  | ((with_reducible apply Go.g_len); (first | exact Or.inl (by walk_at "sq") | exact Or.inr (by walk_at "sq")))
  | ((with_reducible apply Go.g_lenD); (first | exact Or.inl (by walk_at "hp") | exact Or.inr ⟨_, by walk_at "hp"⟩))
  | (with_reducible apply Go.g_for)
  | (with_reducible apply Go.g_lc)
  | (with_reducible apply Go.g_iList)
  | (with_reducible apply Go.g_iTup)
  | (with_reducible apply Go.g_iRng1)
  | (with_reducible apply Go.g_iRng2)
  | (with_reducible apply Go.g_iKeys)
  | ((with_reducible apply Go.g_iListR); (walk_at "sq"))
  | ((with_reducible apply Go.g_iTupR); (walk_at "sq"))
  | ((with_reducible apply Go.g_iRng1R); (exact ⟨by omega, by omega⟩))
  | ((with_reducible apply Go.g_iRng2R); (exact ⟨by omega, by omega, by omega, by omega⟩))
  | ((with_reducible apply Go.g_iKeysR); (walk_at "hp"))
  | (with_reducible apply Go.g_yesT)
  | (with_reducible apply Go.g_sl)
  | (with_reducible apply Go.g_noPart)
  | (with_reducible apply Go.g_part)
  | (with_reducible apply Go.g_partI)
  | ((with_reducible apply Go.g_rSlL); (walk_at "sq"))
  | (with_reducible apply Go.g_isN)
  | (with_reducible apply Go.g_notN)
  | (with_reducible apply Go.g_max2)
  | (with_reducible apply Go.g_min2)
  | (with_reducible apply Go.g_dput)
  | (with_reducible apply Go.g_dget2)
  | (with_reducible apply Go.g_bm)
  | (with_reducible apply Go.g_bm0)
  | (with_reducible apply Go.g_ifE)
  | (with_reducible apply Go.g_brk)
  | (with_reducible apply Go.g_cont)
  | ((with_reducible apply Go.g_gtup); (walk_at "sq"); (exact rfl))
  | (with_reducible apply Go.g_gnil)
  | (with_reducible apply Go.g_gcons)
  | ((with_reducible apply Go.g_aug); (exact rfl))
  | (dsimp only [L2.wipe, List.set])
  | (dsimp only))
local macro_rules | `(tactic| walk_at "go0") => `(tactic| simp only [L2.cxOf, L2.start, List.map_cons, List.map_nil, List.length_cons, List.length_nil, Nat.reduceAdd, Nat.reduceSub, Nat.sub_self, List.replicate_succ, List.replicate_zero, List.cons_append, List.nil_append])
local macro_rules | `(tactic| walk_at "go") => `(tactic| repeat (walk_at "go1"))
/-- a dict that is read, wherever it stands -/
local macro_rules | `(tactic| walk_at "rd") => `(tactic| first | assumption | exact Or.inl (by walk_at "hp") | exact Or.inr ⟨_, by walk_at "hp"⟩)
/-- straight code, known tests, dicts -/
local macro_rules | `(tactic| walk_at "gg1") => `(tactic| first
  | (walk_at "go1")
  | (with_reducible apply Go.g_yes)
  | (with_reducible apply Go.g_no)
  | (with_reducible apply Go.g_nT)
  | (with_reducible apply Go.g_nF)
  | (with_reducible apply Go.g_dnew)
  | ((with_reducible apply Go.g_din); (walk_at "rd"))
  | ((with_reducible apply Go.g_dnotin); (walk_at "rd"))
  | ((with_reducible apply Go.g_isD); (walk_at "rd"))
  | ((with_reducible apply Go.g_rGet2); (walk_at "rd"))
  | ((with_reducible apply Go.g_dputI); (walk_at "hp"); (focus (first | omega | assumption)))
  | ((with_reducible apply Go.g_append); (walk_at "hp"); (focus (first | omega | assumption | (rw [List.length_map]; omega)))))
local macro_rules | `(tactic| walk_at "gg") => `(tactic| repeat (walk_at "gg1"))
/-! the mathematics of order_moves: plain Lean -/
namespace M42

theorem rev_ind {α : Type} {P : List α → Prop} (h0 : P []) (hs : ∀ l x, P l → P (l ++ [x])) (l : List α) : P l := by
  have h : ∀ m : List α, P m.reverse := fun m => by
    induction m with
    | nil => exact h0
    | cons x m ih => rw [List.reverse_cons]; exact hs _ _ ih
  have := h l.reverse
  rwa [List.reverse_reverse] at this
theorem cut_mem {x : Int} {R L : List Int} (hx : x ∉ R) (hs : ∀ y ∈ R, y ∈ L) (h : x ∈ L) : ∃ l1 l2, L = l1 ++ x :: l2 ∧ ∀ y ∈ R, y ∈ l1 ++ l2 := by
  obtain ⟨l1, l2, e⟩ := List.append_of_mem h
  refine ⟨l1, l2, e, fun z hz => ?_⟩
  subst e
  have h1 := hs z hz
  have h2 : z ≠ x := fun e => hx (e ▸ hz)
  simp only [List.mem_append, List.mem_cons] at h1 ⊢
  rcases h1 with h | h | h
  · exact .inl h
  · exact absurd h h2
  · exact .inr h
theorem pigeon : ∀ {R L : List Int}, R.Nodup → (∀ x ∈ R, x ∈ L) → L.length ≤ R.length → ∀ y ∈ L, y ∈ R
  | [], L, _, _, hl, y, hy => by
    cases L with
    | nil => exact hy
    | cons a l => simp at hl
  | x :: R, L, hn, hs, hl, y, hy => by
    have hn' := List.nodup_cons.mp hn
    obtain ⟨l1, l2, e, hr⟩ := cut_mem hn'.1 (fun z hz => hs z (List.mem_cons_of_mem _ hz)) (hs x List.mem_cons_self)
    subst e
    have ih := @pigeon R (l1 ++ l2) hn'.2 hr (by simp at hl ⊢; omega)
    simp only [List.mem_append, List.mem_cons] at hy
    rcases hy with h | h | h
    · exact List.mem_cons_of_mem _ (ih y (List.mem_append_left _ h))
    · rw [h]; exact List.mem_cons_self
    · exact List.mem_cons_of_mem _ (ih y (List.mem_append_right _ h))
theorem nodup_len : ∀ {R L : List Int}, R.Nodup → (∀ x ∈ R, x ∈ L) → R.length ≤ L.length
  | [], L, _, _ => Nat.zero_le _
  | x :: R, L, hn, hs => by
    have hn' := List.nodup_cons.mp hn
    obtain ⟨l1, l2, e, hr⟩ := cut_mem hn'.1 (fun z hz => hs z (List.mem_cons_of_mem _ hz)) (hs x List.mem_cons_self)
    subst e
    have ih := @nodup_len R (l1 ++ l2) hn'.2 hr
    simp at ih ⊢
    omega

/-- what stands at p behind the moves -/
def exec (os : List (Int × Int)) (p : Int) : Int := os.foldl (fun f x => fun p => if p = x.1 then f x.2 else f p) (fun p => p) p
theorem exec_nil (p : Int) : exec [] p = p := rfl
theorem exec_app (os : List (Int × Int)) (t a p : Int) : exec (os ++ [(t, a)]) p = if p = t then exec os a else exec os p := by
  unfold exec
  rw [List.foldl_append]
  rfl
theorem exec_out (os : List (Int × Int)) : ∀ (p : Int), p ∉ os.map (·.1) → exec os p = p := by
  refine rev_ind (P := fun os => ∀ p : Int, p ∉ os.map (·.1) → exec os p = p) ?_ ?_ os
  · intro p _; rfl
  · rintro l ⟨t, a⟩ ih p h
    rw [exec_app]
    simp only [List.map_append, List.map_cons, List.map_nil, List.mem_append, List.mem_singleton, not_or] at h
    rw [if_neg h.2]
    exact ih p h.1

abbrev ks (ws : List (Int × Int)) : List Int := ws.map (·.1)
abbrev vs (ws : List (Int × Int)) : List Int := ws.map (·.2)
def lk (ws : List (Int × Int)) (t : Int) : Option Int := (ws.find? fun x => x.1 == t).map (·.2)
theorem lk_mem {ws : List (Int × Int)} {t s : Int} (h : lk ws t = some s) : (t, s) ∈ ws := by
  unfold lk at h
  cases e : ws.find? (fun x => x.1 == t) with
  | none => rw [e] at h; cases h
  | some x =>
    rw [e] at h
    have h1 := List.find?_some e
    have h2 := List.mem_of_find?_eq_some e
    simp only [beq_iff_eq] at h1
    have h3 : x.2 = s := Option.some.inj h
    rw [← h1, ← h3]
    exact h2
theorem lk_none {ws : List (Int × Int)} {t : Int} : lk ws t = none ↔ t ∉ ks ws := by
  unfold lk
  rw [Option.map_eq_none_iff, List.find?_eq_none]
  constructor
  · intro h hm
    obtain ⟨x, hx, e⟩ := List.mem_map.mp hm
    exact h x hx (by simp [e])
  · intro h x hx e
    simp only [beq_iff_eq] at e
    exact h (List.mem_map.mpr ⟨x, hx, e⟩)
theorem lk_some {ws : List (Int × Int)} {t : Int} (h : t ∈ ks ws) : ∃ s, lk ws t = some s := by
  cases e : lk ws t with
  | none => exact absurd h (lk_none.mp e)
  | some s => exact ⟨s, rfl⟩
theorem lk_of {ws : List (Int × Int)} (nd : (ks ws).Nodup) {t s : Int} (h : (t, s) ∈ ws) : lk ws t = some s := by
  induction ws with
  | nil => cases h
  | cons x r ih =>
    have nd' := List.nodup_cons.mp nd
    unfold lk
    rw [List.find?_cons]
    by_cases e : x.1 = t
    · rw [show (x.1 == t) = true by simp [e]]
      rcases List.mem_cons.mp h with q | q
      · rw [← q]; rfl
      · have h1 : x.1 ∉ List.map (fun x => x.1) r := nd'.1
        rw [e] at h1
        exact absurd (List.mem_map.mpr ⟨(t, s), q, rfl⟩) h1
    · rw [show (x.1 == t) = false by simp [e]]
      rcases List.mem_cons.mp h with q | q
      · rw [← q] at e; exact absurd rfl e
      · exact ih nd'.2 q
theorem lk_key {ws : List (Int × Int)} {t s : Int} (h : lk ws t = some s) : t ∈ ks ws := List.mem_map.mpr ⟨_, lk_mem h, rfl⟩
theorem lk_val {ws : List (Int × Int)} {t s : Int} (h : lk ws t = some s) : s ∈ vs ws := List.mem_map.mpr ⟨_, lk_mem h, rfl⟩

structure WsOk (ws : List (Int × Int)) (sp : Int) : Prop where
  nd : (ks ws).Nodup
  ne : ∀ x ∈ ws, x.1 ≠ x.2
  s1 : sp ∉ ks ws
  s2 : sp ∉ vs ws
theorem WsOk.lne {ws : List (Int × Int)} {sp t s : Int} (W : WsOk ws sp) (h : lk ws t = some s) : t ≠ s := W.ne _ (lk_mem h)

def updF (F : Int → Option Int) (s t : Int) : Int → Option Int := fun x => if x = s then some t else F x
theorem updF_same {F : Int → Option Int} {s t : Int} : updF F s t s = some t := if_pos rfl
theorem updF_ne {F : Int → Option Int} {s t x : Int} (h : x ≠ s) : updF F s t x = F x := if_neg h

/-- what holds between two moves -/
structure PInv (ws : List (Int × Int)) (sp : Int) (os : List (Int × Int)) (F : Int → Option Int) (free D : List Int) (brk : Nat) : Prop where
  dn : D.Nodup
  dk : ∀ t ∈ D, t ∈ ks ws
  fn : free.Nodup
  fd : ∀ t ∈ free, t ∉ D ∧ t ∈ ks ws
  dom : ∀ s, (F s).isSome = true ↔ s ∈ vs ws
  A : ∀ s a, F s = some a → exec os a = s
  B : ∀ t ∈ D, ∀ s, lk ws t = some s → exec os t = s
  C : ∀ p, p ∉ D → p ≠ sp → exec os p = p
  E : ∀ t ∈ free, ∀ s, F s ≠ some t
  K : ∀ t ∈ ks ws, t ∉ D → t ∉ free → F t = some t
  G : ∀ t ∈ D, ∀ s, lk ws t = some s → ∃ a ∈ D, F s = some a
  O : ∀ x ∈ os, x.1 ≠ x.2
  M : ∀ t, t ≠ sp → (t ∈ os.map (·.1) ↔ t ∈ D)
  L : os.length = D.length + brk
section
variable {ws : List (Int × Int)} {sp : Int} {os : List (Int × Int)} {F : Int → Option Int} {free D : List Int} {brk : Nat}
/-- the free behind a move -/
def nextFree (ws : List (Int × Int)) (free : List Int) (a s : Int) : List Int := if a = s ∧ s ∈ ks ws then free ++ [s] else free
theorem PInv.step {t s a : Int} (W : WsOk ws sp) (I : PInv ws sp os F (free ++ [t]) D brk) (hs : lk ws t = some s) (ha : F s = some a) :
    PInv ws sp (os ++ [(t, a)]) (updF F s t) (nextFree ws free a s) (D ++ [t]) brk := by
  have hts := W.lne hs
  have ht : t ∈ free ++ [t] := List.mem_append_right _ (List.mem_singleton.mpr rfl)
  have htD : t ∉ D := (I.fd t ht).1
  have htk : t ∈ ks ws := (I.fd t ht).2
  have htsp : t ≠ sp := fun e => W.s1 (e ▸ htk)
  have hat : a ≠ t := fun e => I.E t ht s (by rw [ha, e])
  have hfn := List.nodup_append.mp I.fn
  have htf : t ∉ free := fun h => hfn.2.2 t h t (List.mem_singleton.mpr rfl) rfl
  have hexs : exec os a = s := I.A s a ha
  have hnot : ∀ q, q ≠ t → exec (os ++ [(t, a)]) q = exec os q := fun q hq => by rw [exec_app, if_neg hq]
  have hmem : ∀ q, q ∈ D ++ [t] ↔ q ∈ D ∨ q = t := fun q => by rw [List.mem_append, List.mem_singleton]
  have hsfree : a = s → s ∉ free := fun e h => I.E s (List.mem_append_left _ h) s (by rw [ha, e])
  have hsD : a = s → s ∉ D := fun e h => by
    obtain ⟨s', hs'⟩ := lk_some (I.dk s h)
    have h1 := I.B s h s' hs'
    rw [e] at hexs
    exact W.lne hs' (hexs.symm.trans h1)
  refine ⟨?_, ?_, ?_, ?_, ?_, ?_, ?_, ?_, ?_, ?_, ?_, ?_, ?_, ?_⟩
  · exact List.nodup_append.mpr ⟨I.dn, List.nodup_cons.mpr ⟨List.not_mem_nil, List.nodup_nil⟩, fun x hx y hy e => by
      rw [List.mem_singleton] at hy
      exact htD (hy ▸ e ▸ hx)⟩
  · intro q hq
    rcases (hmem q).mp hq with h | h
    · exact I.dk q h
    · rw [h]; exact htk
  · unfold nextFree
    split
    · rename_i h
      exact List.nodup_append.mpr ⟨hfn.1, List.nodup_cons.mpr ⟨List.not_mem_nil, List.nodup_nil⟩, fun x hx y hy e => by
        rw [List.mem_singleton] at hy
        exact hsfree h.1 (hy ▸ e ▸ hx)⟩
    · exact hfn.1
  · have base : ∀ q ∈ free, q ∉ D ++ [t] ∧ q ∈ ks ws := fun q hq =>
      ⟨fun h => ((hmem q).mp h).elim (I.fd q (List.mem_append_left _ hq)).1 fun e => htf (e ▸ hq), (I.fd q (List.mem_append_left _ hq)).2⟩
    intro q hq
    unfold nextFree at hq
    split at hq
    · rename_i h
      rcases List.mem_append.mp hq with h1 | h1
      · exact base q h1
      · rw [List.mem_singleton] at h1
        subst h1
        exact ⟨fun z => ((hmem q).mp z).elim (hsD h.1) fun e => hts e.symm, h.2⟩
    · exact base q hq
  · intro x
    by_cases e : x = s
    · subst e
      rw [updF_same]
      exact ⟨fun _ => lk_val hs, fun _ => rfl⟩
    · rw [updF_ne e]
      exact I.dom x
  · intro x b hb
    by_cases e : x = s
    · subst e
      rw [updF_same] at hb
      cases hb
      rw [exec_app, if_pos rfl]
      exact hexs
    · rw [updF_ne e] at hb
      have hbt : b ≠ t := fun z => I.E t ht x (by rw [hb, z])
      rw [hnot b hbt]
      exact I.A x b hb
  · intro q hq s' hs'
    rcases (hmem q).mp hq with h | h
    · rw [hnot q fun e => htD (e ▸ h)]
      exact I.B q h s' hs'
    · subst h
      rw [hs] at hs'
      cases hs'
      rw [exec_app, if_pos rfl]
      exact hexs
  · intro q hq hsp
    rw [hmem, not_or] at hq
    rw [hnot q hq.2]
    exact I.C q hq.1 hsp
  · have base : ∀ q ∈ free, ∀ x, updF F s t x ≠ some q := fun q hq x hx => by
      by_cases e : x = s
      · subst e
        rw [updF_same] at hx
        exact htf (Option.some.inj hx ▸ hq)
      · rw [updF_ne e] at hx
        exact I.E q (List.mem_append_left _ hq) x hx
    intro q hq x hx
    unfold nextFree at hq
    split at hq
    · rename_i h
      rcases List.mem_append.mp hq with h1 | h1
      · exact base q h1 x hx
      · rw [List.mem_singleton] at h1
        subst h1
        by_cases e : x = q
        · subst e
          rw [updF_same] at hx
          exact hts (Option.some.inj hx)
        · rw [updF_ne e] at hx
          have h2 := I.A x q hx
          rw [h.1] at hexs
          exact e (h2.symm.trans hexs)
    · exact base q hq x hx
  · intro q hq hqD hqf
    rw [hmem, not_or] at hqD
    have hqf' : q ∉ free := fun z => hqf (by unfold nextFree; split; exact List.mem_append_left _ z; exact z)
    have h0 : F q = some q := I.K q hq hqD.1 fun z => (List.mem_append.mp z).elim hqf' fun z => hqD.2 (List.mem_singleton.mp z)
    have hqs : q ≠ s := fun e => by
      subst e
      rw [ha] at h0
      have e2 : a = q := Option.some.inj h0
      apply hqf
      unfold nextFree
      rw [if_pos ⟨e2, hq⟩]
      exact List.mem_append_right _ (List.mem_singleton.mpr rfl)
    rw [updF_ne hqs]
    exact h0
  · intro q hq s' hs'
    rcases (hmem q).mp hq with h | h
    · by_cases e : s' = s
      · subst e
        exact ⟨t, (hmem t).mpr (.inr rfl), updF_same⟩
      · obtain ⟨b, hb, e2⟩ := I.G q h s' hs'
        exact ⟨b, (hmem b).mpr (.inl hb), by rw [updF_ne e]; exact e2⟩
    · subst h
      rw [hs] at hs'
      cases hs'
      exact ⟨q, (hmem q).mpr (.inr rfl), updF_same⟩
  · intro x hx
    rcases List.mem_append.mp hx with h | h
    · exact I.O x h
    · rw [List.mem_singleton] at h
      subst h
      exact hat.symm
  · intro q hq
    rw [List.map_append, List.mem_append, hmem, I.M q hq]
    simp
  · rw [List.length_append, List.length_append, I.L]
    simp
    omega
/-- a cycle is broken -/
theorem PInv.break1 {f : Int} (W : WsOk ws sp) (I : PInv ws sp os F [] D brk) (hf : f ∈ ks ws) (hfD : f ∉ D) (hsp : ∀ s, F s ≠ some sp) :
    PInv ws sp (os ++ [(sp, f)]) (updF F f sp) [f] D (brk + 1) := by
  have hfsp : f ≠ sp := fun e => W.s1 (e ▸ hf)
  have hFf : F f = some f := I.K f hf hfD List.not_mem_nil
  have hnot : ∀ q, q ≠ sp → exec (os ++ [(sp, f)]) q = exec os q := fun q hq => by rw [exec_app, if_neg hq]
  have dsp : ∀ q ∈ D, q ≠ sp := fun q hq e => W.s1 (e ▸ I.dk q hq)
  refine ⟨I.dn, I.dk, List.nodup_cons.mpr ⟨List.not_mem_nil, List.nodup_nil⟩, ?_, ?_, ?_, ?_, ?_, ?_, ?_, ?_, ?_, ?_, ?_⟩
  · intro t ht
    rw [List.mem_singleton] at ht
    subst ht
    exact ⟨hfD, hf⟩
  · intro x
    by_cases e : x = f
    · subst e
      rw [updF_same]
      exact ⟨fun _ => (I.dom x).mp (by rw [hFf]; rfl), fun _ => rfl⟩
    · rw [updF_ne e]; exact I.dom x
  · intro x b hb
    by_cases e : x = f
    · subst e
      rw [updF_same] at hb
      cases hb
      rw [exec_app, if_pos rfl]
      exact I.C x hfD hfsp
    · rw [updF_ne e] at hb
      rw [hnot b fun z => hsp x (by rw [hb, z])]
      exact I.A x b hb
  · intro q hq s' hs'
    rw [hnot q (dsp q hq)]
    exact I.B q hq s' hs'
  · intro q hq hqs
    rw [hnot q hqs]
    exact I.C q hq hqs
  · intro q hq x hx
    rw [List.mem_singleton] at hq
    subst hq
    by_cases e : x = q
    · subst e
      rw [updF_same] at hx
      exact hfsp (Option.some.inj hx).symm
    · rw [updF_ne e] at hx
      exact e ((I.A x q hx).symm.trans (I.C q hfD hfsp))
  · intro q hq hqD hqf
    rw [List.mem_singleton] at hqf
    rw [updF_ne hqf]
    exact I.K q hq hqD List.not_mem_nil
  · intro q hq s' hs'
    obtain ⟨b, hb, e2⟩ := I.G q hq s' hs'
    have e : s' ≠ f := fun e => by
      subst e
      rw [hFf] at e2
      exact hfD (Option.some.inj e2 ▸ hb)
    exact ⟨b, hb, by rw [updF_ne e]; exact e2⟩
  · intro x hx
    rcases List.mem_append.mp hx with h | h
    · exact I.O x h
    · rw [List.mem_singleton] at h
      subst h
      exact hfsp.symm
  · intro q hq
    rw [List.map_append, List.mem_append, I.M q hq]
    simp [hq]
  · rw [List.length_append, I.L]
    simp
    omega
/-- at the start -/
theorem PInv.start {F0 : Int → Option Int} {free0 : List Int} (hF : ∀ s, F0 s = if s ∈ vs ws then some s else none) (hfree : free0.Nodup) (hmem : ∀ t, t ∈ free0 ↔ t ∈ ks ws ∧ t ∉ vs ws) : PInv ws sp [] F0 free0 [] 0 := by
  refine ⟨List.nodup_nil, fun _ h => (List.not_mem_nil h).elim, hfree, fun t ht => ⟨List.not_mem_nil, ((hmem t).mp ht).1⟩, fun s => ?_, fun s a h => ?_, fun _ h => (List.not_mem_nil h).elim, fun p _ _ => rfl, fun t ht s h => ?_, fun t ht _ hf => ?_,
    fun _ h => (List.not_mem_nil h).elim, fun _ h => (List.not_mem_nil h).elim, fun t _ => by simp, rfl⟩
  · rw [hF s]
    split <;> simp_all
  · rw [hF s] at h
    split at h
    · cases h; rfl
    · cases h
  · rw [hF s] at h
    split at h
    · rename_i h1
      have e := Option.some.inj h
      rw [e] at h1
      exact ((hmem t).mp ht).2 h1
    · cases h
  · rw [hF t]
    by_cases h : t ∈ vs ws
    · rw [if_pos h]
    · exact absurd ((hmem t).mpr ⟨ht, h⟩) hf
/-- the rest, when nothing is free, is closed -/
def rest (ws : List (Int × Int)) (D : List Int) : List Int := (ks ws).filter fun t => decide (t ∉ D)
theorem mem_rest {t : Int} : t ∈ rest ws D ↔ t ∈ ks ws ∧ t ∉ D := by
  unfold rest
  rw [List.mem_filter, decide_eq_true_iff]
theorem PInv.pre (W : WsOk ws sp) (I : PInv ws sp os F [] D brk) {t : Int} (ht : t ∈ rest ws D) : ∃ u ∈ rest ws D, lk ws u = some t := by
  obtain ⟨h1, h2⟩ := mem_rest.mp ht
  have e := I.K t h1 h2 List.not_mem_nil
  have hv : t ∈ vs ws := (I.dom t).mp (by rw [e]; rfl)
  obtain ⟨x, hx, e2⟩ := List.mem_map.mp hv
  obtain ⟨u, s⟩ := x
  have e2' : s = t := e2
  subst e2'
  have hl := lk_of W.nd hx
  refine ⟨u, mem_rest.mpr ⟨lk_key hl, fun hu => ?_⟩, hl⟩
  obtain ⟨a, ha, e3⟩ := I.G u hu s hl
  rw [e] at e3
  exact h2 (Option.some.inj e3 ▸ ha)
theorem PInv.closed (W : WsOk ws sp) (I : PInv ws sp os F [] D brk) {u : Int} (hu : u ∈ rest ws D) : ∃ t ∈ rest ws D, lk ws u = some t := by
  have hn : (rest ws D).Nodup := List.Nodup.sublist List.filter_sublist W.nd
  obtain ⟨t, ht⟩ := lk_some (mem_rest.mp hu).1
  refine ⟨t, ?_, ht⟩
  refine pigeon (L := (rest ws D).map fun u => (lk ws u).getD 0) hn (fun x hx => ?_) (by rw [List.length_map]; exact Nat.le_refl _) t ?_
  · obtain ⟨v, hv, e⟩ := I.pre W hx
    exact List.mem_map.mpr ⟨v, hv, by rw [e]; rfl⟩
  · exact List.mem_map.mpr ⟨u, hu, by rw [ht]; rfl⟩

/-- a part of the pairs that is closed -/
def Closed (ws : List (Int × Int)) (P : Int → Prop) : Prop := ∀ t, P t → ∃ s, lk ws t = some s ∧ P s
/-- parts without a common place, none of them empty -/
structure Blocks (ws : List (Int × Int)) (Bs : List (List Int)) : Prop where
  ne : ∀ B ∈ Bs, ∃ t, t ∈ B
  cl : ∀ B ∈ Bs, Closed ws (· ∈ B)
  dj : Bs.Pairwise fun B B' => ∀ t ∈ B, t ∉ B'
/-- behind the moves of one round -/
theorem PInv.round {f : Int} {os' : List (Int × Int)} {F' : Int → Option Int} {D' : List Int} (W : WsOk ws sp) (I : PInv ws sp os F [] D brk) (hf : f ∈ ks ws) (hfD : f ∉ D) (hsp : ∀ s, F s ≠ some sp)
    (J : PInv ws sp os' F' [] D' (brk + 1)) (_hD : ∀ t ∈ D, t ∈ D') (hfD' : f ∈ D') (hF : ∀ s, F' s = some sp → updF F f sp s = some sp) :
    (∀ s, F' s ≠ some sp) ∧ f ∈ D'.filter (fun t => decide (t ∉ D)) ∧ Closed ws (· ∈ D'.filter fun t => decide (t ∉ D)) := by
  have mb : ∀ t, t ∈ D'.filter (fun t => decide (t ∉ D)) ↔ t ∈ D' ∧ t ∉ D := fun t => by rw [List.mem_filter, decide_eq_true_iff]
  refine ⟨fun s hs => ?_, (mb f).mpr ⟨hfD', hfD⟩, fun t ht => ?_⟩
  · have e : s = f := by
      by_cases e : s = f
      · exact e
      · have := hF s hs
        rw [updF_ne e] at this
        exact absurd this (hsp s)
    subst e
    obtain ⟨u, hu, hl⟩ := I.pre W (mem_rest.mpr ⟨hf, hfD⟩)
    by_cases hu' : u ∈ D'
    · obtain ⟨a, ha, e⟩ := J.G u hu' s hl
      rw [hs] at e
      exact W.s1 (Option.some.inj e ▸ J.dk a ha)
    · obtain ⟨t, ht, hl'⟩ := J.closed W (mem_rest.mpr ⟨(mem_rest.mp hu).1, hu'⟩)
      rw [hl] at hl'
      cases hl'
      exact (mem_rest.mp ht).2 hfD'
  · obtain ⟨h1, h2⟩ := (mb t).mp ht
    obtain ⟨s, hs, hl⟩ := I.closed W (mem_rest.mpr ⟨J.dk t h1, h2⟩)
    refine ⟨s, hl, (mb s).mpr ⟨?_, (mem_rest.mp hs).2⟩⟩
    obtain ⟨a, ha, e⟩ := J.G t h1 s hl
    by_cases hsD : s ∈ D'
    · exact hsD
    · have e2 := J.K s (mem_rest.mp hs).1 hsD List.not_mem_nil
      rw [e] at e2
      exact Option.some.inj e2 ▸ ha
end

/-! ### the count of cycles -/
def hits (p : List Int → Bool) (Bs : List (List Int)) : Nat := (Bs.filter p).length
theorem hits_cons (p : List Int → Bool) (B : List Int) (Bs : List (List Int)) : hits p (B :: Bs) = (if p B = true then 1 else 0) + hits p Bs := by
  unfold hits
  rw [List.filter_cons]
  split <;> simp <;> omega
theorem hits_le {p q : List Int → Bool} : ∀ {Bs : List (List Int)}, (∀ B ∈ Bs, q B = true → p B = true) → hits q Bs ≤ hits p Bs
  | [], _ => Nat.le_refl _
  | B :: Bs, h => by
    rw [hits_cons, hits_cons]
    have ih := hits_le (p := p) (q := q) (Bs := Bs) fun B hB => h B (List.mem_cons_of_mem _ hB)
    have h1 := h B List.mem_cons_self
    by_cases e : q B = true
    · rw [if_pos e, if_pos (h1 e)]; omega
    · rw [if_neg e]; omega
/-- at most one more -/
theorem hits_one {p q : List Int → Bool} : ∀ {Bs : List (List Int)}, (Bs.Pairwise fun B B' => ¬ (q B = true ∧ p B = false ∧ q B' = true ∧ p B' = false)) → hits (fun B => p B || q B) Bs ≤ hits p Bs + 1
  | [], _ => by simp [hits]
  | B :: Bs, h => by
    rw [hits_cons, hits_cons]
    obtain ⟨h1, h2⟩ := List.pairwise_cons.mp h
    have ih := hits_one (p := p) (q := q) h2
    by_cases e : q B = true ∧ p B = false
    · have : hits (fun B => p B || q B) Bs ≤ hits p Bs := hits_le fun B' hB' hq => by
        by_cases e2 : p B' = true
        · exact e2
        · have e3 : p B' = false := by simpa using e2
          rw [e3, Bool.false_or] at hq
          exact absurd ⟨e.1, e.2, hq, e3⟩ (h1 B' hB')
      simp only [e.1, e.2]
      simp
      omega
    · have : (p B || q B) = p B := by
        cases hp : p B with
        | true => rfl
        | false =>
          cases hq : q B with
          | false => rfl
          | true => exact absurd ⟨hq, hp⟩ e
      rw [this]
      omega

/-- the places met one after the other from a first one, and the next -/
structure Chain (ws : List (Int × Int)) (met : List Int) (place : Int) : Prop where
  nh : ∀ x ∈ met, ∀ s, lk ws x = some s → s ∈ met ∨ s = place
  nx : ∀ P, Closed ws P → ∀ x ∈ met, P x → P place
theorem Chain.nil (ws : List (Int × Int)) (f : Int) : Chain ws [] f := ⟨fun _ h => (List.not_mem_nil h).elim, fun _ _ _ hx _ => (List.not_mem_nil hx).elim⟩
theorem Chain.snoc {ws : List (Int × Int)} {met : List Int} {place s : Int} (h : Chain ws met place) (hs : lk ws place = some s) : Chain ws (met ++ [place]) s := by
  have step : ∀ P, Closed ws P → P place → P s := fun P hP hp => by
    obtain ⟨s', e, h'⟩ := hP place hp
    rw [hs] at e
    cases e
    exact h'
  refine ⟨fun x hx y hy => ?_, fun P hP x hx hp => ?_⟩
  · rcases List.mem_append.mp hx with h1 | h1
    · rcases h.nh x h1 y hy with h2 | h2
      · exact .inl (List.mem_append_left _ h2)
      · exact .inl (List.mem_append_right _ (by rw [h2]; exact List.mem_singleton.mpr rfl))
    · rw [List.mem_singleton] at h1
      subst h1
      rw [hs] at hy
      cases hy
      exact .inr rfl
  · rcases List.mem_append.mp hx with h1 | h1
    · exact step P hP (h.nx P hP x h1 hp)
    · rw [List.mem_singleton] at h1
      subst h1
      exact step P hP hp
theorem Chain.two {ws : List (Int × Int)} {met : List Int} {place : Int} (h : Chain ws met place) {P Q : Int → Prop} (hP : Closed ws P) (hQ : Closed ws Q) {x y : Int} (hx : x ∈ met) (hy : y ∈ met) (px : P x) (qy : Q y) : ∃ z, P z ∧ Q z := by
  exact ⟨place, h.nx P hP x hx px, h.nx Q hQ y hy qy⟩
def touch (done : List Int) (B : List Int) : Bool := B.any fun t => decide (t ∈ done)
theorem touch_iff {done B : List Int} : touch done B = true ↔ ∃ t ∈ B, t ∈ done := by
  unfold touch
  rw [List.any_eq_true]
  simp
/-- what holds between two turns of the outer loop -/
structure CInv (ws : List (Int × Int)) (done : List Int) (count : Nat) : Prop where
  cl : ∀ x ∈ done, ∀ s, lk ws x = some s → s ∈ ks ws → s ∈ done
  ct : ∀ Bs, Blocks ws Bs → hits (touch done) Bs ≤ count
theorem CInv.start (ws : List (Int × Int)) : CInv ws [] 0 := ⟨fun _ h => (List.not_mem_nil h).elim, fun Bs _ => by
  have : hits (touch []) Bs = 0 := by
    unfold hits
    rw [List.length_eq_zero_iff, List.filter_eq_nil_iff]
    intro B _ h
    obtain ⟨t, _, h⟩ := touch_iff.mp h
    exact List.not_mem_nil h
  omega⟩
/-- a turn's end -/
theorem CInv.turn {ws : List (Int × Int)} {done met : List Int} {count : Nat} {place : Int} (I : CInv ws done count) (C : Chain ws met place)
    (hend : place ∉ ks ws ∨ place ∈ done ∨ place ∈ met) {c : Nat} (hc : c = if place ∈ met then count + 1 else count) : CInv ws (done ++ met) c := by
  refine ⟨fun x hx s hs hk => ?_, fun Bs hB => ?_⟩
  · rcases List.mem_append.mp hx with h | h
    · exact List.mem_append_left _ (I.cl x h s hs hk)
    · rcases C.nh x h s hs with h1 | h1
      · exact List.mem_append_right _ h1
      · subst h1
        rcases hend with h2 | h2 | h2
        · exact absurd hk h2
        · exact List.mem_append_left _ h2
        · exact List.mem_append_right _ h2
  · have e0 : hits (touch (done ++ met)) Bs = hits (fun B => touch done B || touch met B) Bs := by
      unfold hits
      congr 2
      funext B
      rw [Bool.eq_iff_iff, Bool.or_eq_true, touch_iff, touch_iff, touch_iff]
      constructor
      · rintro ⟨t, h1, h2⟩
        exact (List.mem_append.mp h2).elim (fun h => .inl ⟨t, h1, h⟩) fun h => .inr ⟨t, h1, h⟩
      · rintro (⟨t, h1, h2⟩ | ⟨t, h1, h2⟩)
        · exact ⟨t, h1, List.mem_append_left _ h2⟩
        · exact ⟨t, h1, List.mem_append_right _ h2⟩
    have base := I.ct Bs hB
    rw [e0]
    by_cases hp : place ∈ met
    · rw [if_pos hp] at hc
      have := hits_one (p := touch done) (q := touch met) (Bs := Bs) (by
        refine List.Pairwise.imp_of_mem (fun {B B'} hB1 hB2 hdj => ?_) hB.dj
        rintro ⟨q1, _, q2, _⟩
        obtain ⟨x, hx1, hx2⟩ := touch_iff.mp q1
        obtain ⟨y, hy1, hy2⟩ := touch_iff.mp q2
        obtain ⟨z, hz1, hz2⟩ := C.two (hB.cl B hB1) (hB.cl B' hB2) hx2 hy2 hx1 hy1
        exact hdj z hz1 hz2)
      omega
    · rw [if_neg hp] at hc
      have := hits_le (p := touch done) (q := fun B => touch done B || touch met B) (Bs := Bs) (fun B hBm hq => by
        cases e : touch done B with
        | true => rfl
        | false =>
          exfalso
          rw [e, Bool.false_or] at hq
          obtain ⟨x, hx1, hx2⟩ := touch_iff.mp hq
          have hpl : place ∈ B := C.nx _ (hB.cl B hBm) x hx2 hx1
          obtain ⟨s, hs, _⟩ := hB.cl B hBm place hpl
          rcases hend with h | h | h
          · exact h (lk_key hs)
          · have : touch done B = true := touch_iff.mpr ⟨place, hpl, h⟩
            rw [e] at this
            cases this
          · exact hp h)
      omega
theorem CInv.all {ws : List (Int × Int)} {done : List Int} {count : Nat} (I : CInv ws done count) (h : ∀ t ∈ ks ws, t ∈ done) {Bs : List (List Int)} (hB : Blocks ws Bs) : Bs.length ≤ count := by
  have := I.ct Bs hB
  have e : hits (touch done) Bs = Bs.length := by
    unfold hits
    rw [List.filter_eq_self.mpr]
    intro B hBm
    obtain ⟨t, ht⟩ := hB.ne B hBm
    obtain ⟨s, hs, _⟩ := hB.cl B hBm t ht
    exact touch_iff.mpr ⟨t, ht, h t (lk_key hs)⟩
  omega
end M42

namespace K42
open PySem L2
def topS (i : Nat) : Stmt := PySem.Challenge.pw_reforge_k42_moves.main.body.getD i (.Pass ⟨0, 0, 0, 0⟩)
abbrev sperform_free : Stmt := topS 1
abbrev nperform_free : List Str := ["free", "wanted", "found_at", "ordered", "to", "source", "at"]
theorem scperform_free : FnScope nperform_free ["free", "wanted", "found_at", "ordered"] (defScope sperform_free) := ⟨rfl, rfl, rfl, by decide +kernel, rfl, by decide +kernel, by decide +kernel⟩
abbrev sorder_moves : Stmt := topS 2
abbrev norder_moves : List Str := ["moves", "spare", "wanted", "found_at", "to", "source", "ordered", "done", "first", "_"]
theorem scorder_moves : FnScope norder_moves ["moves", "spare"] (defScope sorder_moves) := ⟨rfl, rfl, rfl, by decide +kernel, rfl, by decide +kernel, by decide +kernel⟩
abbrev sl_purse : Stmt := topS 4
abbrev nl_purse : List Str := ["script", "cells", "cell"]
theorem scl_purse : FnScope nl_purse ["script"] (defScope sl_purse) := ⟨rfl, rfl, rfl, by decide +kernel, rfl, by decide +kernel, by decide +kernel⟩
abbrev sl_mixed : Stmt := topS 5
abbrev nl_mixed : List Str := ["cell", "k", "once", "twice"]
theorem scl_mixed : FnScope nl_mixed ["cell", "k"] (defScope sl_mixed) := ⟨rfl, rfl, rfl, by decide +kernel, rfl, by decide +kernel, by decide +kernel⟩
abbrev sl_take : Stmt := topS 6
abbrev nl_take : List Str := ["purse", "size", "cells", "cell", "number"]
theorem scl_take : FnScope nl_take ["purse", "size"] (defScope sl_take) := ⟨rfl, rfl, rfl, by decide +kernel, rfl, by decide +kernel, by decide +kernel⟩
abbrev sl_is_integer : Stmt := topS 7
abbrev nl_is_integer : List Str := ["thing"]
theorem scl_is_integer : FnScope nl_is_integer ["thing"] (defScope sl_is_integer) := ⟨rfl, rfl, rfl, by decide +kernel, rfl, by decide +kernel, by decide +kernel⟩
abbrev sl_cycles : Stmt := topS 8
abbrev nl_cycles : List Str := ["moves", "source", "pair", "count", "done", "first", "met", "place", "turn", "known"]
theorem scl_cycles : FnScope nl_cycles ["moves"] (defScope sl_cycles) := ⟨rfl, rfl, rfl, by decide +kernel, rfl, by decide +kernel, by decide +kernel⟩
abbrev sl_moved : Stmt := topS 9
abbrev nl_moved : List Str := ["moves", "spare", "told", "pair", "others", "held", "due", "place"]
theorem scl_moved : FnScope nl_moved ["moves", "spare", "told"] (defScope sl_moved) := ⟨rfl, rfl, rfl, by decide +kernel, rfl, by decide +kernel, by decide +kernel⟩
abbrev sl_free : Stmt := topS 10
abbrev nl_free : List Str := ["purse", "many", "pairs", "place"]
theorem scl_free : FnScope nl_free ["purse", "many"] (defScope sl_free) := ⟨rfl, rfl, rfl, by decide +kernel, rfl, by decide +kernel, by decide +kernel⟩
abbrev sl_rings : Stmt := topS 11
abbrev nl_rings : List Str := ["purse", "alike", "pairs", "many", "size", "ring", "k", "tail"]
theorem scl_rings : FnScope nl_rings ["purse", "alike"] (defScope sl_rings) := ⟨rfl, rfl, rfl, by decide +kernel, rfl, by decide +kernel, by decide +kernel⟩
abbrev sl_moves : Stmt := topS 12
abbrev nl_moves : List Str := ["purse", "shape", "pairs", "stride", "shift", "rest", "pair", "moves", "turn"]
theorem scl_moves : FnScope nl_moves ["purse"] (defScope sl_moves) := ⟨rfl, rfl, rfl, by decide +kernel, rfl, by decide +kernel, by decide +kernel⟩
abbrev sl_spare : Stmt := topS 13
abbrev nl_spare : List Str := ["purse", "moves", "taken", "pair", "first", "k"]
theorem scl_spare : FnScope nl_spare ["purse", "moves"] (defScope sl_spare) := ⟨rfl, rfl, rfl, by decide +kernel, rfl, by decide +kernel, by decide +kernel⟩
abbrev slaw : Stmt := topS 14
abbrev nlaw : List Str := ["script", "purse", "moves", "spare", "handed", "told", "again", "back", "great", "turned"]
theorem sclaw : FnScope nlaw ["script"] (defScope slaw) := ⟨rfl, rfl, rfl, by decide +kernel, rfl, by decide +kernel, by decide +kernel⟩
/-- what the top has left -/
structure Txt (K : PySem.W.Frag) (mg : Str → Option Value) : Prop where
  d_perform_free : Go.Def K mg "perform_free" sperform_free ["free", "wanted", "found_at", "ordered"]
  d_order_moves : Go.Def K mg "order_moves" sorder_moves ["moves", "spare"]
  d_l_purse : Go.Def K mg "_law_purse" sl_purse ["script"]
  d_l_mixed : Go.Def K mg "_law_mixed" sl_mixed ["cell", "k"]
  d_l_take : Go.Def K mg "_law_take" sl_take ["purse", "size"]
  d_l_is_integer : Go.Def K mg "_law_is_integer" sl_is_integer ["thing"]
  d_l_cycles : Go.Def K mg "_law_cycles" sl_cycles ["moves"]
  d_l_moved : Go.Def K mg "_law_moved" sl_moved ["moves", "spare", "told"]
  d_l_free : Go.Def K mg "_law_free" sl_free ["purse", "many"]
  d_l_rings : Go.Def K mg "_law_rings" sl_rings ["purse", "alike"]
  d_l_moves : Go.Def K mg "_law_moves" sl_moves ["purse"]
  d_l_spare : Go.Def K mg "_law_spare" sl_spare ["purse", "moves"]
  d_law : Go.Def K mg "law" slaw ["script"]
  m_bool : mg "bool" = none
  m_int : mg "int" = none
  m_isinstance : mg "isinstance" = none
  m_len : mg "len" = none
  m_list : mg "list" = none
  m_range : mg "range" = none
  m_sum : mg "sum" = none
  m_tuple : mg "tuple" = none
section
variable {P : Program} {w : World} {K : PySem.W.Frag} {mg : Str → Option Value} {base : Heap}

/-! ### drawing -/
def spMixed : Sp := fun vs H Q _ => ∃ c k : Int, vs = [.int c, .int k] ∧ ∀ r : Int, Q (.int r) H
theorem ok_mixed (T : Txt K mg) : Go.Kept P w K mg base 1 "_law_mixed" ["cell", "k"] spMixed := by
  have nd := scl_mixed.nd
  refine T.d_l_mixed.ok scl_mixed (fun vs H Q E h => ?_) (fun f cdv A outer s H vs Q E hr h => ?_)
  · obtain ⟨c, k, rfl, _⟩ := h
    rfl
  · obtain ⟨c, k, rfl, q⟩ := h
    have hu := hu_of hr
    refine ⟨_, (pss_cons (ps_set (i := 2) nd rfl (.inl rfl) (pe_op op_mod (pe_callTy Go.call_int1 (by rfl) T.m_int (by decide +kernel) (pa_cons (pe_op op_add (pe_op op_add (pe_op op_mul (pe_op op_mod (pe_callTy Go.call_int1 (by rfl) T.m_int (by decide +kernel) (pa_cons (pv 0) pa_nil)) pe_int) pe_int) (pe_op op_mul (pv 1) pe_int)) pe_int) pa_nil)) pe_int))
        (pss_cons (ps_set (i := 3) nd rfl (.inl rfl) (pe_op op_mod (pe_callTy Go.call_int1 (by rfl) T.m_int (by decide +kernel) (pa_cons (pe_op op_add (pe_op op_mul (pv 2) (pv 2)) (pv 1)) pa_nil)) pe_int))
        (pss_one (ps_ret (pe_op op_fdiv (pe_op op_mod (pe_callTy Go.call_int1 (by rfl) T.m_int (by decide +kernel) (pa_cons (pe_op op_mul (pe_op op_add (pv 3) pe_int) (pe_op op_add (pe_op op_fdiv (pv 3) pe_int) pe_int)) pa_nil)) pe_int) pe_int))))), ?_⟩
    walk_at "go0"
    walk_at "go"
    have h1 : 0 ≤ ((c % 2147483629 * 48271 + k * 69621 + 11) % 2147483647) := Int.emod_nonneg _ (by decide)
    have h2 : ((c % 2147483629 * 48271 + k * 69621 + 11) % 2147483647) < 2147483647 := Int.emod_lt_of_pos _ (by decide)
    refine Go.g_rI (.inl ⟨by omega, by omega⟩) ?_
    walk_at "go"
    have h3 : 0 ≤ ((c % 2147483629 * 48271 + k * 69621 + 11) % 2147483647 * ((c % 2147483629 * 48271 + k * 69621 + 11) % 2147483647) + k) % 2147483587 := Int.emod_nonneg _ (by decide)
    have h4 : ((c % 2147483629 * 48271 + k * 69621 + 11) % 2147483647 * ((c % 2147483629 * 48271 + k * 69621 + 11) % 2147483647) + k) % 2147483587 < 2147483587 := Int.emod_lt_of_pos _ (by decide)
    refine Go.g_rI (.inl ⟨by omega, by omega⟩) ?_
    walk_at "go"
    exact q _
/-! ### the purse: a list of the cells' list, a place in it, two counts, a rest -/
def PurseAt (H : Hp) (p c : Addr) (ns : List Int) : Prop := ∃ (i : Nat) (a b s : Int), H p = some (.lst [.ref c, .int i, .int a, .int b, .int s]) ∧ H c = some (.lst (ns.map V.int)) ∧ p ≠ c
/-- all but p is kept -/
def But (H H' : Hp) (p : Addr) : Prop := ∀ b o, H b = some o → b ≠ p → H' b = some o
def spTake : Sp := fun vs H Q _ => ∃ (p c : Addr) (ns : List Int) (n : Int), vs = [.ref p, .int n] ∧ PurseAt H p c ns ∧ n ≤ 1000000000 ∧
  ∀ (r : Int) (H' : Hp), 0 ≤ r → (r < n ∨ r = 0) → PurseAt H' p c ns → But H H' p → Q (.int r) H'
theorem fmod_in {a n : Int} (h : 2 ≤ n) : 0 ≤ a.fmod n ∧ a.fmod n < n := by
  have h1 := Int.fmod_nonneg_of_pos a (show 0 < n by omega)
  have h2 := Int.fmod_lt_of_pos a (show 0 < n by omega)
  exact ⟨h1, h2⟩
theorem ok_take (T : Txt K mg) : Go.Kept P w K mg base 2 "_law_take" ["purse", "size"] spTake := by
  have nd := scl_take.nd
  have G_law_mixed : Go.Kept P w K mg base 1 "_law_mixed" ["cell", "k"] spMixed := ok_mixed T
  refine T.d_l_take.ok scl_take (fun vs H Q E h => ?_) (fun f cdv A outer s H vs Q E hr h => ?_)
  · obtain ⟨p, c, ns, n, rfl, _⟩ := h
    rfl
  · obtain ⟨p, c, ns, n, rfl, S, hn, q⟩ := h
    have hu := hu_of hr
    refine ⟨_, (pss_cons (ps_set (i := 2) nd rfl (.inl rfl) (pe_ix (Go.ixL (K := K) rfl) (pv 0) pe_int (fun _ _ => rfl)))
        (pss_cons (ps_if (PW.pt (pw_or (pt_cmpR (Go.eqD (K := K) rfl hr.units) (pv 2) (Go.pe_lst pa_nil) (nomark _)) (pw_or1 (pt_cmpR op_lt (pv 1) pe_int (nomark _)))))
        (pss_one (ps_ret pe_int))
        pss_nil)
        (pss_cons (ps_asg (pe_op op_add (pe_ix (Go.ixL (K := K) rfl) (pv 0) pe_int (fun _ _ => rfl)) pe_int) (pg_sub (pv 0) pe_int set_list))
        (pss_cons (ps_if (pt_cmpR op_ge (pe_ix (Go.ixL (K := K) rfl) (pv 0) pe_int (fun _ _ => rfl)) (pe_callB (Go.lenSeq (K := K) rfl) (by rfl) T.m_len (by decide +kernel) (pa_cons (pv 2) pa_nil)) (nomark _))
        (pss_one (ps_ret (pe_op op_modN (pe_callTy Go.call_int1 (by rfl) T.m_int (by decide +kernel) (pa_cons (Go.call G_law_mixed hr (pa_cons (pe_ix (Go.ixL (K := K) rfl) (pv 0) pe_int (fun _ _ => rfl)) (pa_cons (pe_ix (Go.ixL (K := K) rfl) (pv 0) pe_int (fun _ _ => rfl)) pa_nil))) pa_nil)) (pv 1))))
        pss_nil)
        (pss_cons (ps_set (i := 3) nd rfl (.inl rfl) (pe_ix (Go.ixL (K := K) rfl) (pv 2) (pe_ix (Go.ixL (K := K) rfl) (pv 0) pe_int (fun _ _ => rfl)) (fun _ _ => rfl)))
        (pss_cons (ps_if (pt_cmpR op_lt (pv 3) (pe_op op_pow pe_int pe_int) (nomark _))
        (pss_cons (ps_asg (pe_op op_add (pe_ix (Go.ixL (K := K) rfl) (pv 0) pe_int (fun _ _ => rfl)) pe_int) (pg_sub (pv 0) pe_int set_list))
        (pss_cons (ps_if (pt_cmpR op_eq (pe_ix (Go.ixL (K := K) rfl) (pv 0) pe_int (fun _ _ => rfl)) pe_int (nomark _))
        (pss_cons (ps_asg (pe_op op_add (pe_ix (Go.ixL (K := K) rfl) (pv 0) pe_int (fun _ _ => rfl)) pe_int) (pg_sub (pv 0) pe_int set_list))
        (pss_one (ps_asg pe_int (pg_sub (pv 0) pe_int set_list))))
        pss_nil)
        (pss_one (ps_ret (pe_op op_modN (pe_callTy Go.call_int1 (by rfl) T.m_int (by decide +kernel) (pa_cons (Go.call G_law_mixed hr (pa_cons (pv 3) (pa_cons (pe_ix (Go.ixL (K := K) rfl) (pv 0) pe_int (fun _ _ => rfl)) pa_nil))) pa_nil)) (pv 1))))))
        pss_nil)
        (pss_cons (ps_if (pt_cmpR op_eq (pe_ix (Go.ixL (K := K) rfl) (pv 0) pe_int (fun _ _ => rfl)) pe_int (nomark _))
        (pss_one (ps_asg (pv 3) (pg_sub (pv 0) pe_int set_list)))
        pss_nil)
        (pss_cons (ps_set (i := 4) nd rfl (.inl rfl) (pe_op op_modN (pe_callTy Go.call_int1 (by rfl) T.m_int (by decide +kernel) (pa_cons (pe_ix (Go.ixL (K := K) rfl) (pv 0) pe_int (fun _ _ => rfl)) pa_nil)) (pv 1)))
        (pss_cons (ps_asg (pe_op op_fdivN (pe_callTy Go.call_int1 (by rfl) T.m_int (by decide +kernel) (pa_cons (pe_ix (Go.ixL (K := K) rfl) (pv 0) pe_int (fun _ _ => rfl)) pa_nil)) (pv 1)) (pg_sub (pv 0) pe_int set_list))
        (pss_cons (ps_if (pt_cmpR op_eq (pe_ix (Go.ixL (K := K) rfl) (pv 0) pe_int (fun _ _ => rfl)) pe_int (nomark _))
        (pss_one (ps_asg (pe_op op_add (pe_ix (Go.ixL (K := K) rfl) (pv 0) pe_int (fun _ _ => rfl)) pe_int) (pg_sub (pv 0) pe_int set_list)))
        pss_nil)
        (pss_one (ps_ret (pv 4))))))))))))), ?_⟩
    walk_at "go0"
    obtain ⟨i, a, b, z, hp, hc, pc⟩ := S
    walk_at "go"
    intro l hl
    have hpl : p ≠ l := ne_of_none hp hl
    have hcl : c ≠ l := ne_of_none hc hl
    refine Go.g_rEqD (Go.dp_ints (ns := ns) (SqL.of (by walk_at "hp"))) (.lst (SqL.of upd_same) .nil) (Go.shaped_ints _) (by rfl) ?_
    rw [Go.eqv_nil]
    refine ⟨_, rfl, ?_⟩
    have kl : But H (upd H l (.lst [])) p := fun d o e _ => by rw [upd_ne (ne_of_none e hl)]; exact e
    have early : ∀ r, r = 0 → Q (.int r) (upd H l (.lst [])) := fun r hr => q r _ (by omega) (.inr hr) ⟨i, a, b, z, by walk_at "hp", by walk_at "hp", pc⟩ kl
    refine Go.g_dec (fun e => ?_) (fun e => ?_)
    · walk_at "go"
      refine Go.g_yes ?_
      walk_at "go"
      exact early 0 rfl
    walk_at "go"
    refine Go.g_dec (fun e2 => ?_) (fun e2 => ?_)
    · walk_at "go"
      exact early 0 rfl
    have n2 : 2 ≤ n := by omega
    have done : ∀ (a' b' i' : Int) (r : Int) (H' : Hp), 0 ≤ i' → 0 ≤ r → r < n → H' p = some (.lst [.ref c, .int i', .int a', .int b', .int z]) → (∀ d, d ≠ p → H' d = upd H l (.lst []) d) → Q (.int r) H' := fun a' b' i' r H' hi h0 h1 h2 h3 =>
      q r H' h0 (.inl h1) ⟨i'.toNat, a', b', z, by rw [h2]; congr; omega, by rw [h3 c pc.symm]; walk_at "hp", pc⟩ fun d o e hd => by rw [h3 d hd, upd_ne (ne_of_none e hl)]; exact e
    have fin : ∀ (a' b' i' : Int) (r : Int) (H' : Hp), 0 ≤ i' → H' p = some (.lst [.ref c, .int i', .int a', .int b', .int z]) → (∀ d, d ≠ p → H' d = upd H l (.lst []) d) → Q (.int (r.fmod n)) H' := fun a' b' i' r H' hi h2 h3 =>
      done a' b' i' _ H' hi (fmod_in n2).1 (fmod_in n2).2 h2 h3
    walk_at "go"
    refine Go.g_dec (fun e3 => ?_) (fun e3 => ?_)
    · walk_at "go"
      refine ⟨_, _, rfl, fun r => ?_⟩
      walk_at "go"
      refine Go.g_rI (show n ≠ 0 by omega) ?_
      exact fin a (b + 1) i r _ (by omega) (by walk_at "hp") fun d hd => by simp only [upd_ne hd]
    have hi : i < ns.length := by
      rw [List.length_map] at e3
      omega
    walk_at "go"
    refine Go.g_ixL (SqL.of (by walk_at "hp")) (atI_nat (v := .int ns[i]) (by rw [List.getElem?_map, List.getElem?_eq_getElem hi]; rfl)) ?_
    walk_at "go"
    refine Go.g_dec (fun e4 => ?_) (fun e4 => ?_)
    · walk_at "go"
      refine Go.g_dec (fun e5 => ?_) (fun e5 => ?_)
      · walk_at "go"
        refine ⟨_, _, rfl, fun r => ?_⟩
        walk_at "go"
        refine Go.g_rI (show n ≠ 0 by omega) ?_
        exact fin 0 (b + 1) (i + 1) r _ (by omega) (by walk_at "hp") fun d hd => by simp only [upd_ne hd]
      · walk_at "go"
        refine ⟨_, _, rfl, fun r => ?_⟩
        walk_at "go"
        refine Go.g_rI (show n ≠ 0 by omega) ?_
        exact fin (a + 1) (b + 1) i r _ (by omega) (by walk_at "hp") fun d hd => by simp only [upd_ne hd]
    walk_at "go"
    have nz : n ≠ 0 := by omega
    have nc : CDivN = fun (i j : Int) => j ≠ 0 ∧ j.natAbs < 1073741824 := rfl
    refine Go.g_dec (fun e5 => ?_) (fun e5 => ?_)
    all_goals
      walk_at "go"
      refine Go.g_rI nz ?_
      walk_at "go"
      refine Go.g_rI ⟨nz, by omega⟩ ?_
      walk_at "go"
      refine Go.g_dec (fun e6 => ?_) (fun e6 => ?_)
      · walk_at "go"
        exact done _ (b + 1) (i + 1) _ _ (by omega) (fmod_in n2).1 (fmod_in n2).2 (by walk_at "hp") fun d hd => by simp only [upd_ne hd]
      · walk_at "go"
        exact done _ (b + 1) i _ _ (by omega) (fmod_in n2).1 (fmod_in n2).2 (by walk_at "hp") fun d hd => by simp only [upd_ne hd]
/-! ### the purse -/
def spPurse (K : PySem.W.Frag) : Sp := fun vs H Q _ => ∃ (a : Addr) (ns : List Int), vs = [.ref a] ∧ SqL K H a (ns.map V.int) ∧ ns.length ≤ 63 ∧ ∀ (p c : Addr) (ms : List Int) (H' : Hp), Same H H' → H p = none → H c = none → PurseAt H' p c ms → Q (.ref p) H'
theorem same_new {H : Hp} {p : Addr} {o : HO} (h : H p = none) : Same H (upd H p o) := fun b x e => by rw [upd_ne (ne_of_none e h)]; exact e
theorem cut_ints (ns : List Int) (lo hi : Option Int) : ∃ ms : List Int, cutV (ns.map V.int) lo hi = ms.map V.int := by
  unfold cutV
  rw [← List.map_drop, ← List.map_take]
  exact ⟨_, rfl⟩
theorem ok_purse (T : Txt K mg) : Go.Kept P w K mg base 1 "_law_purse" ["script"] (spPurse K) := by
  have nd := scl_purse.nd
  refine T.d_l_purse.ok scl_purse (fun vs H Q E h => ?_) (fun f cdv A outer s H vs Q E hr h => ?_)
  · obtain ⟨p, ns, rfl, _⟩ := h
    rfl
  · obtain ⟨a, ns, rfl, hS, hlen, q⟩ := h
    have hu := hu_of hr
    refine ⟨_, (pss_cons (ps_setLc (i := 1) (own := [("cell", 2)]) (g := gName 2) rfl nd rfl rfl (sw_true rfl rfl rfl (by decide +kernel)) (pi_list (pe_slice (Go.slL (K := K) rfl) (pv 0) po_none (po_some pe_int))) (blkOk_by (own := [("cell", 2)]) (N := nl_purse) (sc := defScope sl_purse) (by decide +kernel)) (fun _ _ _ _ _ => pg_name (i := 2) nd rfl (Or.inl rfl)) (fun _ _ _ _ _ => pts_nil) (fun _ _ _ _ _ => (pe_callTy Go.call_int1 (by rfl) T.m_int (by decide +kernel) (pa_cons (pv 2) pa_nil))))
        (pss_one (ps_ret (Go.pe_lst (pa_cons (pv 1) (pa_cons pe_int (pa_cons pe_int (pa_cons pe_int (pa_cons (pe_op op_mod (pe_callTy Go.call_int1 (by rfl) T.m_int (by decide +kernel) (pa_cons (pe_callB (Go.sumL (K := K) rfl rfl) (by rfl) T.m_sum (by decide +kernel) (pa_cons (pv 1) pa_nil)) pa_nil)) pe_int) pa_nil))))))))), ?_⟩
    walk_at "go0"
    walk_at "go"
    intro b hb
    walk_at "go"
    obtain ⟨ms, em⟩ := cut_ints ns none (some 63)
    have hml : ms.length ≤ 63 := by
      have h1 := cutV_length (ns.map V.int) none (some 63)
      rw [em, List.length_map, List.length_map] at h1
      omega
    rw [em]
    have s1 : Same H (upd H b (.lst (ms.map V.int))) := same_new hb
    refine Go.c_list fun D hD => ⟨fun i H' => Same (upd H b (.lst (ms.map V.int))) H' ∧ H' D = some (.lst ((ms.take i).map V.int)), ⟨same_new hD, upd_same⟩, fun i H' _ h => SqL.of (h.1 _ _ upd_same), fun i x H' hx h => ?_, fun H' h => ?_⟩
    · obtain ⟨sm, hd⟩ := h
      obtain ⟨n, hn, rfl⟩ : ∃ n, ms[i]? = some n ∧ x = V.int n := by
        rw [List.getElem?_map] at hx
        cases e : ms[i]? with
        | none => rw [e] at hx; cases hx
        | some n => rw [e] at hx; exact ⟨n, rfl, (Option.some.inj hx).symm⟩
      walk_at "go"
      refine ⟨rfl, ?_⟩
      walk_at "go"
      refine Go.g_yes ?_
      walk_at "go"
      refine ⟨_, hd, ?_, fun c o e => ?_, ?_⟩
      · rw [List.length_map, List.length_take]
        exact Nat.lt_of_le_of_lt (Nat.min_le_left _ _) (small1000 (by have := (List.getElem?_eq_some_iff.mp hn).1; omega))
      · have hcD : c ≠ D := by
          intro z
          subst z
          rw [hD] at e
          cases e
        rw [upd_ne hcD]
        exact sm c o e
      · rw [upd_same, List.take_add_one, hn, List.map_append]
        rfl
    · obtain ⟨sm, hd⟩ := h
      rw [List.length_map, List.take_length] at hd
      walk_at "go"
      refine Go.g_sum (SqL.of hd) ?_
      walk_at "go"
      intro p hp
      have sD : Same H H' := s1.trans sm
      have hpD : p ≠ D := by
        intro z
        subst z
        rw [hd] at hp
        cases hp
      exact q p D ms _ (sD.trans (same_new hp)) (sD.free hp) (s1.free hD) ⟨0, 0, 0, _, upd_same, by rw [upd_ne hpD.symm]; exact hd, hpD⟩
end
end K42

namespace K42
open PySem L2
section
variable {P : Program} {w : World} {K : PySem.W.Frag} {mg : Str → Option Value} {base : Heap}
/-! ### lists of pairs -/
abbrev Prs := List (Addr × Int × Int)
abbrev Prs.ps (qs : Prs) : List (Int × Int) := qs.map (·.2)
abbrev refsOf (qs : Prs) : List V := qs.map fun q => V.ref q.1
def TupP (H : Hp) (qs : Prs) : Prop := ∀ q ∈ qs, H q.1 = some (.tup [.int q.2.1, .int q.2.2])
structure LstP (H : Hp) (l : Addr) (qs : Prs) : Prop where
  l : H l = some (.lst (refsOf qs))
  t : TupP H qs
theorem TupP.same {H H' : Hp} {qs : Prs} (h : TupP H qs) (s : Same H H') : TupP H' qs := fun q hq => s _ _ (h q hq)
theorem TupP.but {H H' : Hp} {qs : Prs} {p : Addr} {xs : List V} (h : TupP H qs) (hp : H p = some (.lst xs)) (s : But H H' p) : TupP H' qs := fun q hq => s _ _ (h q hq) (ne_of (h q hq) hp (by intro z; cases z))
theorem TupP.upd {H : Hp} {qs : Prs} {p : Addr} {o u : HO} (h : TupP H qs) (hp : H p = some o) (no : ∀ xs, o ≠ .tup xs) : TupP (upd H p u) qs := fun q hq => by
  rw [upd_ne (ne_of (h q hq) hp fun z => no _ z.symm)]
  exact h q hq
theorem TupP.app {H : Hp} {qs : Prs} {q : Addr × Int × Int} (h : TupP H qs) (hq : H q.1 = some (.tup [.int q.2.1, .int q.2.2])) : TupP H (qs ++ [q]) := fun z hz => by
  rcases List.mem_append.mp hz with hz | hz
  · exact h z hz
  · rw [List.mem_singleton] at hz
    subst hz
    exact hq
/-- the pairs that the law builds -/
structure Shape (ps : List (Int × Int)) : Prop where
  nd : (ps.map (·.1)).Nodup
  ln : ps.length ≤ 47
  bd : ∀ p ∈ ps, 0 ≤ p.1 ∧ p.1 ≤ 100 ∧ 0 ≤ p.2 ∧ p.2 ≤ 100
/-- the heap behind a draw and the like: what was kept, the purse at its place -/
structure Drew (H H' : Hp) (p c : Addr) (ns : List Int) : Prop where
  s : PurseAt H' p c ns
  b : But H H' p
theorem But.refl {H : Hp} {p : Addr} : But H H p := fun _ _ e _ => e
theorem But.trans {H H1 H2 : Hp} {p : Addr} (a : But H H1 p) (b : But H1 H2 p) : But H H2 p := fun d o e n => b d o (a d o e n) n
theorem But.new {H H1 : Hp} {p a : Addr} {o : HO} (x : But H H1 p) (h : H1 a = none) : But H (upd H1 a o) p := fun d u e n => by
  have e1 := x d u e n
  rw [upd_ne (ne_of_none e1 h)]
  exact e1
/-- an object that H does not know is written -/
theorem But.mut {H H1 : Hp} {p a : Addr} {o : HO} (x : But H H1 p) (h : H a = none) : But H (upd H1 a o) p := fun d u e n => by
  rw [upd_ne (ne_of_none e h)]
  exact x d u e n
theorem PurseAt.upd {H : Hp} {p c a : Addr} {ns : List Int} {o : HO} (h : PurseAt H p c ns) (hp : p ≠ a) (hc : c ≠ a) : PurseAt (upd H a o) p c ns := by
  obtain ⟨i, x, y, z, h1, h2, h3⟩ := h
  exact ⟨i, x, y, z, by rw [upd_ne hp]; exact h1, by rw [upd_ne hc]; exact h2, h3⟩
theorem PurseAt.ne {H : Hp} {p c a : Addr} {ns : List Int} (h : PurseAt H p c ns) (ha : H a = none) : p ≠ a ∧ c ≠ a := by
  obtain ⟨i, x, y, z, h1, h2, h3⟩ := h
  exact ⟨ne_of_none h1 ha, ne_of_none h2 ha⟩
theorem PurseAt.new {H : Hp} {p c a : Addr} {ns : List Int} {o : HO} (h : PurseAt H p c ns) (ha : H a = none) : PurseAt (L2.upd H a o) p c ns := h.upd (h.ne ha).1 (h.ne ha).2

theorem TupP.purse {H H' : Hp} {qs : Prs} {p c : Addr} {ns : List Int} (h : TupP H qs) (S : PurseAt H p c ns) (s : But H H' p) : TupP H' qs := by
  obtain ⟨i, x, y, z, h1, h2, h3⟩ := S
  exact h.but h1 s
/-- a pair made and appended -/
theorem LstP.app {H : Hp} {l t : Addr} {qs : Prs} {a b : Int} (hl : H l = some (.lst (refsOf qs))) (ht : TupP H qs) (hn : H t = none) : LstP (upd (upd H t (.tup [.int a, .int b])) l (.lst (refsOf qs ++ [.ref t]))) l (qs ++ [(t, a, b)]) := by
  refine ⟨by rw [upd_same, refsOf, refsOf, List.map_append]; rfl, ?_⟩
  have h1 : (upd H t (.tup [.int a, .int b])) l = some (.lst (refsOf qs)) := by rw [upd_ne (ne_of_none hl hn)]; exact hl
  exact TupP.upd (TupP.app (ht.same (same_new hn)) upd_same) h1 fun xs z => by cases z

theorem ps_app (qs : Prs) (x : Addr × Int × Int) : Prs.ps (qs ++ [x]) = qs.ps ++ [x.2] := by
  unfold Prs.ps
  rw [List.map_append]
  rfl
/-- pairs whose targets rise, below n -/
structure Up (ps : List (Int × Int)) (n : Int) : Prop where
  nd : (ps.map (·.1)).Nodup
  bd : ∀ x ∈ ps, 0 ≤ x.1 ∧ x.1 < n ∧ 0 ≤ x.2 ∧ x.2 ≤ 100
theorem Up.nil (n : Int) : Up [] n := ⟨List.nodup_nil, fun _ h => (List.not_mem_nil h).elim⟩
theorem Up.mono {ps : List (Int × Int)} {n m : Int} (u : Up ps n) (h : n ≤ m) : Up ps m := ⟨u.nd, fun x hx => by have := u.bd x hx; omega⟩
theorem Up.snoc {ps : List (Int × Int)} {n b : Int} (u : Up ps n) (h0 : 0 ≤ n) (h1 : 0 ≤ b) (h2 : b ≤ 100) : Up (ps ++ [(n, b)]) (n + 1) := by
  refine ⟨?_, fun x hx => ?_⟩
  · rw [List.map_append]
    refine List.nodup_append.mpr ⟨u.nd, List.nodup_cons.mpr ⟨List.not_mem_nil, List.nodup_nil⟩, fun x hx y hy e => ?_⟩
    obtain ⟨z1, hz1, rfl⟩ := List.mem_map.mp hx
    have := u.bd z1 hz1
    simp only [List.map_cons, List.map_nil, List.mem_singleton] at hy
    omega
  · rcases List.mem_append.mp hx with hx | hx
    · have := u.bd x hx
      omega
    · rw [List.mem_singleton] at hx
      subst hx
      dsimp only
      omega
theorem Up.shape {ps : List (Int × Int)} {n : Int} (u : Up ps n) (h : n ≤ 101) (hl : ps.length ≤ 47) : Shape ps := ⟨u.nd, hl, fun x hx => by have := u.bd x hx; omega⟩

/-! ### free pairs -/
def spFree : Sp := fun vs H Q _ => ∃ (p c : Addr) (ns : List Int) (n : Int), vs = [.ref p, .int n] ∧ PurseAt H p c ns ∧ 0 ≤ n ∧ n ≤ 47 ∧
  ∀ (l : Addr) (qs : Prs) (H' : Hp), PurseAt H' p c ns → But H H' p → H l = none → LstP H' l qs → Shape qs.ps → Q (.ref l) H'
theorem ok_free (T : Txt K mg) : Go.Kept P w K mg base 3 "_law_free" ["purse", "many"] spFree := by
  have nd := scl_free.nd
  have G_law_take : Go.Kept P w K mg base 2 "_law_take" ["purse", "size"] spTake := ok_take T
  refine T.d_l_free.ok scl_free (fun vs H Q E h => ?_) (fun f cdv A outer s H vs Q E hr h => ?_)
  · obtain ⟨p, c, ns, n, rfl, _⟩ := h
    rfl
  · obtain ⟨p, c, ns, n, rfl, S, h0, hn, q⟩ := h
    have hu := hu_of hr
    refine ⟨_, (pss_cons (ps_set (i := 2) nd rfl (.inl rfl) (Go.pe_lst pa_nil))
        (pss_cons (ps_for PassesOwn.never rfl (pi_range1 (by rfl) T.m_range (pa_cons (pv 1) pa_nil)) (pg_name (i := 3) nd rfl (.inl rfl))
        (pss_one (ps_if (pt_cmpR op_lt (Go.call G_law_take hr (pa_cons (pv 0) (pa_cons pe_int pa_nil))) pe_int (nomark _))
        (pss_one (ps_expr (pe_bm PySem.F.plainAttrs_list PySem.F.slot_list_append PySem.F.type_list_append mt_append (pv 2) (pa_cons (Go.pe_tup (pa_cons (pv 3) (pa_cons (Go.call G_law_take hr (pa_cons (pv 0) (pa_cons (pv 1) pa_nil))) pa_nil))) pa_nil))))
        pss_nil)))
        (pss_one (ps_ret (pv 2))))), ?_⟩
    walk_at "go0"
    walk_at "go"
    intro l hl
    walk_at "go"
    have hpl : p ≠ l := (S.ne hl).1
    have lE : LstP (upd H l (.lst [])) l [] := ⟨upd_same, fun _ h => (List.not_mem_nil h).elim⟩
    refine Go.f_range (fun i σ H1 => ∃ (qs : Prs) (v : Option V), σ = [some (.ref p), some (.int n), some (.ref l), v] ∧ PurseAt H1 p c ns ∧ But H H1 p ∧ LstP H1 l qs ∧ Up qs.ps (i : Int) ∧ qs.length ≤ i)
      ⟨[], none, rfl, S.new hl, But.refl.new hl, lE, Up.nil _, Nat.le_refl _⟩ (fun i σ H1 hi h => ?_) (fun σ H1 h => ?_)
    · obtain ⟨qs, v, rfl, S1, B1, L1, u1, l1⟩ := h
      walk_at "go"
      refine ⟨p, c, ns, 4, rfl, S1, by omega, fun r H2 r0 r1 S2 B2 => ?_⟩
      have l2 : H2 l = some (.lst (refsOf qs)) := B2 _ _ L1.l hpl.symm
      have t2 : TupP H2 qs := L1.t.purse S1 B2
      walk_at "go"
      refine Go.g_dec (fun e => ?_) (fun e => ?_)
      · walk_at "go"
        refine ⟨p, c, ns, n, rfl, S2, by omega, fun z H3 z0 z1 S3 B3 => ?_⟩
        have l3 : H3 l = some (.lst (refsOf qs)) := B3 _ _ l2 hpl.symm
        walk_at "go"
        intro t ht
        walk_at "go"
        refine Go.g_append (xs := refsOf qs) (by walk_at "hp") (by rw [List.length_map]; omega) ?_
        have t3 : TupP H3 qs := t2.purse S2 B3
        refine ⟨qs ++ [(t, 0 + (i : Int), z)], _, rfl, (S3.new ht).upd hpl (S.ne hl).2, ((B1.trans (B2.trans B3)).new ht).mut hl, LstP.app l3 t3 ht, ?_, by rw [List.length_append]; simp only [List.length_cons, List.length_nil]; omega⟩
        rw [ps_app]
        have := Up.snoc (b := z) u1 (by omega) z0 (by omega)
        rw [Int.zero_add]
        exact this
      · walk_at "go"
        exact ⟨qs, _, rfl, S2, B1.trans B2, ⟨l2, t2⟩, u1.mono (by omega), by omega⟩
    · obtain ⟨qs, v, rfl, S1, B1, L1, u1, l1⟩ := h
      walk_at "go"
      exact q l qs H1 S1 B1 hl L1 (u1.shape (by omega) (by rw [List.length_map]; omega))
/-! ### rings -/
/-- between two pairs: the list at l has the targets 0, 1, .. -/
structure JR (H0 : Hp) (p c : Addr) (ns : List Int) (l : Addr) (qs : Prs) (H' : Hp) : Prop where
  s : PurseAt H' p c ns
  b : But H0 H' p
  l : LstP H' l qs
  u : Up qs.ps (qs.length : Int)
theorem JR.draw {H0 H1 H2 : Hp} {p c l : Addr} {ns : List Int} {qs : Prs} (j : JR H0 p c ns l qs H1) (hpl : p ≠ l) (S : PurseAt H2 p c ns) (B : But H1 H2 p) : JR H0 p c ns l qs H2 :=
  ⟨S, j.b.trans B, ⟨B _ _ j.l.l hpl.symm, j.l.t.purse j.s B⟩, j.u⟩
theorem JR.app {H0 H1 : Hp} {p c l t : Addr} {ns : List Int} {qs : Prs} {b m : Int} (j : JR H0 p c ns l qs H1) (hl : H0 l = none) (hpl : p ≠ l) (hcl : c ≠ l) (ht : H1 t = none) (h1 : 0 ≤ b) (h2 : b ≤ 100) (hm : m = qs.length) :
    JR H0 p c ns l (qs ++ [(t, m, b)]) (upd (upd H1 t (.tup [.int m, .int b])) l (.lst (refsOf qs ++ [.ref t]))) := by
  refine ⟨(j.s.new ht).upd hpl hcl, (j.b.new ht).mut hl, LstP.app j.l.l j.l.t ht, ?_⟩
  rw [ps_app, List.length_append]
  have := Up.snoc (b := b) j.u (by omega) h1 h2
  subst hm
  exact this
def spRings : Sp := fun vs H Q _ => ∃ (p c : Addr) (ns : List Int) (b : Bool), vs = [.ref p, .bl b] ∧ PurseAt H p c ns ∧
  ∀ (l : Addr) (qs : Prs) (H' : Hp), PurseAt H' p c ns → But H H' p → H l = none → LstP H' l qs → Shape qs.ps → Q (.ref l) H'
theorem ok_rings (T : Txt K mg) : Go.Kept P w K mg base 3 "_law_rings" ["purse", "alike"] spRings := by
  have nd := scl_rings.nd
  have G_law_take : Go.Kept P w K mg base 2 "_law_take" ["purse", "size"] spTake := ok_take T
  refine T.d_l_rings.ok scl_rings (fun vs H Q E h => ?_) (fun f cdv A outer s H vs Q E hr h => ?_)
  · obtain ⟨p, c, ns, n, rfl, _⟩ := h
    rfl
  · obtain ⟨p, c, ns, n, rfl, S, q⟩ := h
    have hu := hu_of hr
    refine ⟨_, (pss_cons (ps_set (i := 2) nd rfl (.inl rfl) (Go.pe_lst pa_nil))
        (pss_cons (ps_set (i := 3) nd rfl (.inl rfl) pe_int)
        (pss_cons (ps_set (i := 4) nd rfl (.inl rfl) (pe_op op_add pe_int (Go.call G_law_take hr (pa_cons (pv 0) (pa_cons pe_int pa_nil)))))
        (C8.pss_cut (ps_for PassesOwn.never rfl (pi_range1 (by rfl) T.m_range (pa_cons (pe_op op_add pe_int (Go.call G_law_take hr (pa_cons (pv 0) (pa_cons pe_int pa_nil)))) pa_nil)) (pg_name (i := 5) nd rfl (.inl rfl))
        (C8.pss_cut (ps_if (pt_not (pt_val (pv 1)))
        (pss_one (ps_set (i := 4) nd rfl (.inl rfl) (pe_op op_add pe_int (Go.call G_law_take hr (pa_cons (pv 0) (pa_cons pe_int pa_nil))))))
        pss_nil)
        (C8.pss_cut (ps_for PassesOwn.never rfl (pi_range1 (by rfl) T.m_range (pa_cons (pv 4) pa_nil)) (pg_name (i := 6) nd rfl (.inl rfl))
        (pss_one (ps_expr (pe_bm PySem.F.plainAttrs_list PySem.F.slot_list_append PySem.F.type_list_append mt_append (pv 2) (pa_cons (Go.pe_tup (pa_cons (pe_op op_add (pv 3) (pv 6)) (pa_cons (pe_op op_add (pv 3) (pe_op op_modN (pe_callTy Go.call_int1 (by rfl) T.m_int (by decide +kernel) (pa_cons (pe_op op_add (pv 6) pe_int) pa_nil)) (pv 4))) pa_nil))) pa_nil)))))
        (pss_one (ps_set (i := 3) nd rfl (.inl rfl) (pe_op op_add (pv 3) (pv 4)))))))
        (pss_cons (ps_for PassesOwn.never rfl (pi_range1 (by rfl) T.m_range (pa_cons (Go.call G_law_take hr (pa_cons (pv 0) (pa_cons pe_int pa_nil))) pa_nil)) (pg_name (i := 7) nd rfl (.inl rfl))
        (pss_cons (ps_expr (pe_bm PySem.F.plainAttrs_list PySem.F.slot_list_append PySem.F.type_list_append mt_append (pv 2) (pa_cons (Go.pe_tup (pa_cons (pv 3) (pa_cons (Go.call G_law_take hr (pa_cons (pv 0) (pa_cons (pv 3) pa_nil))) pa_nil))) pa_nil)))
        (pss_one (ps_set (i := 3) nd rfl (.inl rfl) (pe_op op_add (pv 3) pe_int)))))
        (pss_one (ps_ret (pv 2)))))))), ?_⟩
    walk_at "go0"
    walk_at "go"
    intro l hl
    walk_at "go"
    have hpl : p ≠ l := (S.ne hl).1
    have hcl : c ≠ l := (S.ne hl).2
    have lE : LstP (upd H l (.lst [])) l [] := ⟨upd_same, fun _ h => (List.not_mem_nil h).elim⟩
    refine ⟨p, c, ns, 7, rfl, S.new hl, by omega, fun r H2 r0 r1 S2 B2 => ?_⟩
    have b2 : But H H2 p := (But.refl.new hl).trans B2
    have l2 : LstP H2 l [] := ⟨B2 _ _ upd_same hpl.symm, fun _ h => (List.not_mem_nil h).elim⟩
    walk_at "go"
    have j2 : JR H p c ns l [] H2 := ⟨S2, b2, l2, Up.nil _⟩
    refine ⟨fun σ H' => ∃ (qs : Prs) (sz : Int) (v5 v6 : Option V), σ = [some (.ref p), some (.bl n), some (.ref l), some (.int qs.length), some (.int sz), v5, v6, none] ∧ JR H p c ns l qs H' ∧ qs.length ≤ 28, ?_, ?_⟩
    · walk_at "go"
      refine ⟨p, c, ns, 4, rfl, S2, by omega, fun r' H3 r0' r1' S3 B3 => ?_⟩
      have j3 := j2.draw hpl S3 B3
      walk_at "go"
      refine Go.f_range (fun i σ H' => ∃ (qs : Prs) (sz : Int) (v5 v6 : Option V), σ = [some (.ref p), some (.bl n), some (.ref l), some (.int qs.length), some (.int sz), v5, v6, none] ∧ JR H p c ns l qs H' ∧ qs.length ≤ 7 * i ∧ 1 ≤ sz ∧ sz ≤ 7)
        ⟨[], 1 + r, none, none, rfl, j3, Nat.zero_le _, by omega, by omega⟩ (fun i σ H4 hi h => ?_) (fun σ H4 h => ?_)
      · obtain ⟨qs, sz, v5, v6, rfl, j4, q4, z1, z7⟩ := h
        walk_at "go"
        refine ⟨fun σ H' => ∃ (sz : Int) (v5 v6 : Option V), σ = [some (.ref p), some (.bl n), some (.ref l), some (.int qs.length), some (.int sz), v5, v6, none] ∧ JR H p c ns l qs H' ∧ 1 ≤ sz ∧ sz ≤ 7, ?_, fun σ H5 h => ?_⟩
        · walk_at "go"
          refine Go.g_nbool (fun e => ?_) (fun e => ?_)
          · walk_at "go"
            refine ⟨p, c, ns, 7, rfl, j4.s, by omega, fun r H5 r0 r1 S5 B5 => ?_⟩
            walk_at "go"
            exact ⟨_, _, _, rfl, j4.draw hpl S5 B5, by omega, by omega⟩
          · walk_at "go"
            exact ⟨_, _, _, rfl, j4, z1, z7⟩
        · obtain ⟨sz, v5, v6, rfl, j5, z1, z7⟩ := h
          refine ⟨fun σ H' => ∃ (qs' : Prs) (v5 v6 : Option V), σ = [some (.ref p), some (.bl n), some (.ref l), some (.int qs.length), some (.int sz), v5, v6, none] ∧ JR H p c ns l qs' H' ∧ qs'.length = qs.length + sz.toNat, ?_, fun σ H6 h => ?_⟩
          · walk_at "go"
            refine Go.f_range (fun k σ H' => ∃ (qs' : Prs) (v5 v6 : Option V), σ = [some (.ref p), some (.bl n), some (.ref l), some (.int qs.length), some (.int sz), v5, v6, none] ∧ JR H p c ns l qs' H' ∧ qs'.length = qs.length + k)
              ⟨qs, _, _, rfl, j5, rfl⟩ (fun k σ H6 hk h => ?_) (fun σ H6 h => ?_)
            · obtain ⟨qs', v5, v6, rfl, j6, q6⟩ := h
              have l6 := j6.l.l
              walk_at "go"
              refine Go.g_rI (show sz ≠ 0 by omega) ?_
              walk_at "go"
              intro t ht
              have f1 := Int.fmod_nonneg_of_pos (0 + (k : Int) + 1) (show 0 < sz by omega)
              have f2 := Int.fmod_lt_of_pos (0 + (k : Int) + 1) (show 0 < sz by omega)
              walk_at "go"
              refine Go.g_append (xs := refsOf qs') (by walk_at "hp") (by rw [List.length_map]; omega) ?_
              exact ⟨qs' ++ [(t, _, _)], _, _, rfl, j6.app hl hpl hcl ht (by omega) (by omega) (by omega), by rw [List.length_append, q6]; rfl⟩
            · exact h
          · obtain ⟨qs', v5, v6, rfl, j6, q6⟩ := h
            walk_at "go"
            refine ⟨qs', sz, v5, v6, ?_, j6, by omega, z1, z7⟩
            have : (qs.length : Int) + sz = (qs'.length : Int) := by omega
            rw [this]
      · obtain ⟨qs, sz, v5, v6, rfl, j4, q4, z1, z7⟩ := h
        exact ⟨qs, sz, v5, v6, rfl, j4, by omega⟩
    · intro σ H3 h
      obtain ⟨qs, sz, v5, v6, rfl, j3, q3⟩ := h
      walk_at "go"
      refine ⟨p, c, ns, 12, rfl, j3.s, by omega, fun r' H4 r0' r1' S4 B4 => ?_⟩
      have j4 := j3.draw hpl S4 B4
      walk_at "go"
      refine Go.f_range (fun i σ H' => ∃ (qs' : Prs) (v7 : Option V), σ = [some (.ref p), some (.bl n), some (.ref l), some (.int qs'.length), some (.int sz), v5, v6, v7] ∧ JR H p c ns l qs' H' ∧ qs'.length = qs.length + i)
        ⟨qs, none, rfl, j4, rfl⟩ (fun i σ H5 hi h => ?_) (fun σ H5 h => ?_)
      · obtain ⟨qs', v7, rfl, j5, q5⟩ := h
        have l5 := j5.l.l
        walk_at "go"
        refine ⟨p, c, ns, qs'.length, rfl, j5.s, by omega, fun r H6 r0 r1 S6 B6 => ?_⟩
        have j6 := j5.draw hpl S6 B6
        have l6 := j6.l.l
        walk_at "go"
        intro t ht
        walk_at "go"
        refine Go.g_append (xs := refsOf qs') (by walk_at "hp") (by rw [List.length_map]; omega) ?_
        walk_at "go"
        refine ⟨qs' ++ [(t, _, _)], some (.int (0 + (i : Int))), ?_, j6.app hl hpl hcl ht (by omega) (by omega) rfl, by rw [List.length_append, q5]; rfl⟩
        rw [List.length_append]
        rfl
      · obtain ⟨qs', v7, rfl, j5, q5⟩ := h
        walk_at "go"
        exact q l qs' H5 j5.s j5.b hl j5.l (j5.u.shape (by omega) (by rw [List.length_map]; omega))
end
end K42

namespace K42
open PySem L2
section
variable {P : Program} {w : World} {K : PySem.W.Frag} {mg : Str → Option Value} {base : Heap}
/-! ### the moves -/
theorem prime101 : ∀ d : Fin 101, ∀ s : Fin 101, d.val ≠ 0 → s.val ≠ 0 → (d.val * s.val) % 101 ≠ 0 := by decide +kernel
theorem inj101 {a b s t : Int} (ha : 0 ≤ a ∧ a ≤ 100) (hb : 0 ≤ b ∧ b ≤ 100) (hs : 1 ≤ s ∧ s ≤ 100) (h : (a * s + t) % 101 = (b * s + t) % 101) : a = b := by
  have key : ∀ x y : Int, 0 ≤ x → x ≤ 100 → 0 ≤ y → y ≤ 100 → y < x → (x * s + t) % 101 = (y * s + t) % 101 → False := fun x y x0 x1 y0 y1 l e => by
    have h1 : ((x - y) * s) % 101 = 0 := by
      rw [Int.sub_mul]
      omega
    have h2 := prime101 ⟨(x - y).toNat, by omega⟩ ⟨s.toNat, by omega⟩ (by show (x - y).toNat ≠ 0; omega) (by show s.toNat ≠ 0; omega)
    apply h2
    show ((x - y).toNat * s.toNat) % 101 = 0
    have e1 : (((x - y).toNat * s.toNat : Nat) : Int) = (x - y) * s := by
      rw [Int.natCast_mul, Int.toNat_of_nonneg (by omega), Int.toNat_of_nonneg (by omega)]
    have e2 : ((((x - y).toNat * s.toNat) % 101 : Nat) : Int) = 0 := by
      rw [Int.natCast_emod, e1]
      exact h1
    omega
  by_cases h1 : a = b
  · exact h1
  · by_cases h2 : b < a
    · exact (key a b ha.1 ha.2 hb.1 hb.2 h2 h).elim
    · exact (key b a hb.1 hb.2 ha.1 ha.2 (by omega) h.symm).elim
theorem nodup_map_of {α β : Type} {f : α → β} : ∀ {l : List α}, l.Nodup → (∀ x ∈ l, ∀ y ∈ l, f x = f y → x = y) → (l.map f).Nodup
  | [], _, _ => List.nodup_nil
  | a :: r, h, hi => by
    obtain ⟨h1, h2⟩ := List.nodup_cons.mp h
    rw [List.map_cons]
    refine List.nodup_cons.mpr ⟨fun m => ?_, nodup_map_of h2 fun x hx y hy => hi x (List.mem_cons_of_mem _ hx) y (List.mem_cons_of_mem _ hy)⟩
    obtain ⟨y, hy, e⟩ := List.mem_map.mp m
    have := hi y (List.mem_cons_of_mem _ hy) a List.mem_cons_self e
    exact h1 (this ▸ hy)
def turnP (s t : Int) (p : Int × Int) : Int × Int := ((p.1 * s + t) % 101, (p.2 * s + t) % 101)
theorem Shape.turn {ps : List (Int × Int)} {s t : Int} (h : Shape ps) (hs : 1 ≤ s ∧ s ≤ 100) : Shape (ps.map (turnP s t)) := by
  refine ⟨?_, by rw [List.length_map]; exact h.ln, fun p hp => ?_⟩
  · have e : (ps.map (turnP s t)).map (·.1) = (ps.map (·.1)).map fun a => (a * s + t) % 101 := by
      rw [List.map_map, List.map_map]
      rfl
    rw [e]
    refine nodup_map_of h.nd fun x hx y hy he => ?_
    obtain ⟨p, hp, rfl⟩ := List.mem_map.mp hx
    obtain ⟨q, hq, rfl⟩ := List.mem_map.mp hy
    have bp := h.bd p hp
    have bq := h.bd q hq
    exact inj101 ⟨bp.1, bp.2.1⟩ ⟨bq.1, bq.2.1⟩ hs he
  · obtain ⟨q, hq, rfl⟩ := List.mem_map.mp hp
    unfold turnP
    dsimp only
    omega
theorem Shape.perm {ps qs : List (Int × Int)} (h : Shape ps) (e : ps.Perm qs) : Shape qs :=
  ⟨(e.map (·.1)).nodup_iff.mp h.nd, by rw [← e.length_eq]; exact h.ln, fun p hp => h.bd p (e.mem_iff.mpr hp)⟩
theorem erase_perm {α : Type} : ∀ {l : List α} {k : Nat} {x : α}, l[k]? = some x → (x :: l.eraseIdx k).Perm l
  | [], k, x, h => by simp at h
  | a :: r, 0, x, h => by
    have e : a = x := by simpa using h
    subst e
    exact List.Perm.refl _
  | a :: r, k + 1, x, h => by
    have h' : r[k]? = some x := by simpa using h
    show (x :: a :: r.eraseIdx k).Perm (a :: r)
    exact (List.Perm.swap a x _).trans ((erase_perm h').cons a)
/-- moves so far and rest are the pairs in another order -/
structure JM (H0 : Hp) (p c : Addr) (ns : List Int) (m r : Addr) (ms rs qs : Prs) (H' : Hp) : Prop where
  s : PurseAt H' p c ns
  b : But H0 H' p
  m : LstP H' m ms
  r : LstP H' r rs
  e : (ms ++ rs).Perm qs
def spMoves : Sp := fun vs H Q _ => ∃ (p c : Addr) (ns : List Int), vs = [.ref p] ∧ PurseAt H p c ns ∧
  ∀ (l : Addr) (qs : Prs) (H' : Hp), PurseAt H' p c ns → But H H' p → H l = none → LstP H' l qs → Shape qs.ps → Q (.ref l) H'
theorem ok_moves (T : Txt K mg) : Go.Kept P w K mg base 4 "_law_moves" ["purse"] spMoves := by
  have nd := scl_moves.nd
  have G_law_take : Go.Kept P w K mg base 2 "_law_take" ["purse", "size"] spTake := ok_take T
  have G_law_free : Go.Kept P w K mg base 3 "_law_free" ["purse", "many"] spFree := ok_free T
  have G_law_rings : Go.Kept P w K mg base 3 "_law_rings" ["purse", "alike"] spRings := ok_rings T
  refine T.d_l_moves.ok scl_moves (fun vs H Q E h => ?_) (fun f cdv A outer s H vs Q E hr h => ?_)
  · obtain ⟨p, c, ns, rfl, _⟩ := h
    rfl
  · obtain ⟨p, c, ns, rfl, S, q⟩ := h
    have hu := hu_of hr
    refine ⟨_, (pss_cons (ps_set (i := 1) nd rfl (.inl rfl) (Go.call G_law_take hr (pa_cons (pv 0) (pa_cons pe_int pa_nil))))
        (C8.pss_cut (ps_if (pt_cmpR op_eq (pv 1) pe_int (nomark _))
        (pss_one (ps_set (i := 2) nd rfl (.inl rfl) (Go.call G_law_free hr (pa_cons (pv 0) (pa_cons (Go.call G_law_take hr (pa_cons (pv 0) (pa_cons pe_int pa_nil))) pa_nil)))))
        (pss_one (ps_if (pt_cmpR op_eq (pv 1) pe_int (nomark _))
        (pss_one (ps_set (i := 2) nd rfl (.inl rfl) (Go.call G_law_free hr (pa_cons (pv 0) (pa_cons (pe_op op_add pe_int (Go.call G_law_take hr (pa_cons (pv 0) (pa_cons pe_int pa_nil)))) pa_nil)))))
        (pss_one (ps_set (i := 2) nd rfl (.inl rfl) (Go.call G_law_rings hr (pa_cons (pv 0) (pa_cons (pe_cmpR op_eq (pv 1) pe_int (nomark _)) pa_nil))))))))
        (pss_cons (ps_set (i := 3) nd rfl (.inl rfl) (pe_op op_add pe_int (Go.call G_law_take hr (pa_cons (pv 0) (pa_cons pe_int pa_nil)))))
        (pss_cons (ps_set (i := 4) nd rfl (.inl rfl) (Go.call G_law_take hr (pa_cons (pv 0) (pa_cons pe_int pa_nil))))
        (pss_cons (ps_set (i := 5) nd rfl (.inl rfl) (Go.pe_lst pa_nil))
        (C8.pss_cut (ps_for PassesOwn.never rfl (pi_list (pv 2)) (pg_name (i := 6) nd rfl (.inl rfl))
        (pss_one (ps_expr (pe_bm PySem.F.plainAttrs_list PySem.F.slot_list_append PySem.F.type_list_append mt_append (pv 5) (pa_cons (Go.pe_tup (pa_cons (pe_op op_mod (pe_callTy Go.call_int1 (by rfl) T.m_int (by decide +kernel) (pa_cons (pe_op op_add (pe_op op_mul (pe_ix (Go.ixT (K := K) rfl) (pv 6) pe_int (fun _ _ => rfl)) (pv 3)) (pv 4)) pa_nil)) pe_int) (pa_cons (pe_op op_mod (pe_callTy Go.call_int1 (by rfl) T.m_int (by decide +kernel) (pa_cons (pe_op op_add (pe_op op_mul (pe_ix (Go.ixT (K := K) rfl) (pv 6) pe_int (fun _ _ => rfl)) (pv 3)) (pv 4)) pa_nil)) pe_int) pa_nil))) pa_nil)))))
        (pss_cons (ps_set (i := 7) nd rfl (.inl rfl) (Go.pe_lst pa_nil))
        (pss_cons (ps_for PassesOwn.never rfl (pi_range1 (by rfl) T.m_range (pa_cons (pe_callB (Go.lenSeq (K := K) rfl) (by rfl) T.m_len (by decide +kernel) (pa_cons (pv 2) pa_nil)) pa_nil)) (pg_name (i := 8) nd rfl (.inl rfl))
        (pss_one (ps_expr (pe_bm PySem.F.plainAttrs_list PySem.F.slot_list_append PySem.F.type_list_append mt_append (pv 7) (pa_cons (pe_bm PySem.F.plainAttrs_list PySem.F.slot_list_pop PySem.F.type_list_pop mt_popAt (pv 5) (pa_cons (Go.call G_law_take hr (pa_cons (pv 0) (pa_cons (pe_callB (Go.lenSeq (K := K) rfl) (by rfl) T.m_len (by decide +kernel) (pa_cons (pv 5) pa_nil)) pa_nil))) pa_nil)) pa_nil)))))
        (pss_one (ps_ret (pv 7))))))))))), ?_⟩
    walk_at "go0"
    walk_at "go"
    refine ⟨p, c, ns, 4, rfl, S, by omega, fun r H2 r0 r1 S2 B2 => ?_⟩
    walk_at "go"
    refine ⟨fun σ H' => ∃ (l : Addr) (qs : Prs), σ = [some (.ref p), some (.int r), some (.ref l), none, none, none, none, none, none] ∧ PurseAt H' p c ns ∧ But H H' p ∧ H l = none ∧ LstP H' l qs ∧ Shape qs.ps, ?_, fun σ H3 h => ?_⟩
    · have un : ∀ {H3 : Hp} {l : Addr}, But H H3 p → PurseAt H3 p c ns → H3 l = none → H l = none := fun {H3 l} b S e => by
        cases e1 : H l with
        | none => rfl
        | some o =>
          rw [b l o e1 (S.ne e).1.symm] at e
          cases e
      walk_at "go"
      refine Go.g_dec (fun e => ?_) (fun e => ?_)
      · walk_at "go"
        refine ⟨p, c, ns, 9, rfl, S2, by omega, fun r3 H3 r30 r31 S3 B3 => ?_⟩
        walk_at "go"
        refine ⟨p, c, ns, r3, rfl, S3, by omega, by omega, fun l qs H4 S4 B4 hl L4 Sh => ?_⟩
        walk_at "go"
        exact ⟨l, qs, rfl, S4, B2.trans (B3.trans B4), un (B2.trans B3) S3 hl, L4, Sh⟩
      · walk_at "go"
        refine Go.g_dec (fun e => ?_) (fun e => ?_)
        · walk_at "go"
          refine ⟨p, c, ns, 40, rfl, S2, by omega, fun r3 H3 r30 r31 S3 B3 => ?_⟩
          walk_at "go"
          refine ⟨p, c, ns, 8 + r3, rfl, S3, by omega, by omega, fun l qs H4 S4 B4 hl L4 Sh => ?_⟩
          walk_at "go"
          exact ⟨l, qs, rfl, S4, B2.trans (B3.trans B4), un (B2.trans B3) S3 hl, L4, Sh⟩
        · walk_at "go"
          refine ⟨p, c, ns, _, rfl, S2, fun l qs H4 S4 B4 hl L4 Sh => ?_⟩
          walk_at "go"
          exact ⟨l, qs, rfl, S4, B2.trans B4, un B2 S2 hl, L4, Sh⟩
    · obtain ⟨l, qs, rfl, S3, B3, hl, L3, Sh⟩ := h
      have hpl : p ≠ l := (S.ne hl).1
      walk_at "go"
      refine ⟨p, c, ns, 100, rfl, S3, by omega, fun z4 H4 z40 z41 S4 B4 => ?_⟩
      have l4 : LstP H4 l qs := ⟨B4 _ _ L3.l hpl.symm, L3.t.purse S3 B4⟩
      walk_at "go"
      refine ⟨p, c, ns, 101, rfl, S4, by omega, fun z5 H5 z50 z51 S5 B5 => ?_⟩
      have l5 : LstP H5 l qs := ⟨B5 _ _ l4.l hpl.symm, l4.t.purse S4 B5⟩
      have b5 : But H H5 p := B3.trans (B4.trans B5)
      walk_at "go"
      intro rr hrr
      have hr0 : H rr = none := by
        cases e1 : H rr with
        | none => rfl
        | some o =>
          rw [b5 rr o e1 (S5.ne hrr).1.symm] at hrr
          cases hrr
      have hpr : p ≠ rr := (S5.ne hrr).1
      have hcr : c ≠ rr := (S5.ne hrr).2
      have hlr : l ≠ rr := ne_of_none l5.l hrr
      walk_at "go"
      have st : 1 ≤ 1 + z4 ∧ 1 + z4 ≤ 100 := by omega
      refine ⟨fun σ H' => ∃ (rs : Prs) (v6 : Option V), σ = [some (.ref p), some (.int r), some (.ref l), some (.int (1 + z4)), some (.int z5), some (.ref rr), v6, none, none] ∧ PurseAt H' p c ns ∧ But H H' p ∧ LstP H' l qs ∧ LstP H' rr rs ∧ rs.ps = qs.ps.map (turnP (1 + z4) z5), ?_, fun σ H6 h => ?_⟩
      · have l6 : (upd H5 rr (.lst [])) l = some (.lst (refsOf qs)) := by rw [upd_ne hlr]; exact l5.l
        walk_at "go"
        refine Go.f_list (xs := refsOf qs) (fun i σ H' => ∃ (rs : Prs) (v6 : Option V), σ = [some (.ref p), some (.int r), some (.ref l), some (.int (1 + z4)), some (.int z5), some (.ref rr), v6, none, none] ∧ PurseAt H' p c ns ∧ But H H' p ∧ LstP H' l qs ∧ LstP H' rr rs ∧ rs.ps = (qs.ps.take i).map (turnP (1 + z4) z5))
          ⟨[], none, rfl, S5.new hrr, b5.new hrr, ⟨l6, l5.t.same (same_new hrr)⟩, ⟨upd_same, fun _ h => (List.not_mem_nil h).elim⟩, rfl⟩ (fun i σ H' _ h => ?_) (fun i x σ H' hx h => ?_) (fun σ H' h => ?_)
        · obtain ⟨rs, v6, _, _, _, L, _⟩ := h
          exact SqL.of L.l
        · obtain ⟨rs, v6, rfl, S7, B7, L7, R7, e7⟩ := h
          obtain ⟨t0, ht0, rfl⟩ : ∃ t0, qs[i]? = some t0 ∧ x = V.ref t0.1 := by
            rw [List.getElem?_map] at hx
            cases e : qs[i]? with
            | none => rw [e] at hx; cases hx
            | some n => rw [e] at hx; exact ⟨n, rfl, (Option.some.inj hx).symm⟩
          have ht : H' t0.1 = some (.tup [.int t0.2.1, .int t0.2.2]) := L7.t t0 (List.mem_of_getElem? ht0)
          have hil : i < qs.length := (List.getElem?_eq_some_iff.mp ht0).1
          have hsl := Sh.ln
          rw [List.length_map] at hsl
          have r7 := R7.l
          walk_at "go"
          refine Go.g_rI (Or.inr ⟨by omega, by omega⟩) ?_
          walk_at "go"
          refine Go.g_rI (Or.inr ⟨by omega, by omega⟩) ?_
          walk_at "go"
          intro t1 ht1
          walk_at "go"
          have rl : rs.length = i := by
            have := congrArg List.length e7
            rw [List.length_map, List.length_map, List.length_take, List.length_map] at this
            omega
          refine Go.g_append (xs := refsOf rs) (by walk_at "hp") (by rw [List.length_map]; omega) ?_
          have l8 : (upd (upd H' t1 (.tup [.int ((t0.2.1 * (1 + z4) + z5) % 101), .int ((t0.2.2 * (1 + z4) + z5) % 101)])) rr (.lst (refsOf rs ++ [.ref t1]))) l = some (.lst (refsOf qs)) := by
            rw [upd_ne hlr, upd_ne (ne_of_none L7.l ht1)]
            exact L7.l
          refine ⟨rs ++ [(t1, _, _)], _, rfl, (S7.new ht1).upd hpr hcr, (B7.new ht1).mut hr0, ⟨l8, ?_⟩, LstP.app R7.l R7.t ht1, ?_⟩
          · exact TupP.upd (L7.t.same (same_new ht1)) (show (upd H' t1 _) rr = some (.lst (refsOf rs)) by rw [upd_ne (ne_of_none R7.l ht1)]; exact R7.l) fun xs z => by cases z
          · rw [ps_app, e7, List.take_add_one, Prs.ps, List.getElem?_map, ht0, List.map_append]
            rfl
        · obtain ⟨rs, v6, rfl, S7, B7, L7, R7, e7⟩ := h
          refine ⟨rs, v6, rfl, S7, B7, L7, R7, ?_⟩
          rw [e7, List.take_of_length_le (by rw [List.length_map, List.length_map]; exact Nat.le_refl _)]
      · obtain ⟨rs, v6, rfl, S6, B6, L6, R6, e6⟩ := h
        walk_at "go"
        have l6 := L6.l
        intro m hm
        have hpm : p ≠ m := (S6.ne hm).1
        have hcm : c ≠ m := (S6.ne hm).2
        have hlm : l ≠ m := ne_of_none l6 hm
        have hrm : rr ≠ m := ne_of_none R6.l hm
        have hm0 : H m = none := by
          cases e1 : H m with
          | none => rfl
          | some o =>
            rw [B6 m o e1 hpm.symm] at hm
            cases hm
        have l7 : (upd H6 m (.lst [])) l = some (.lst (refsOf qs)) := by rw [upd_ne hlm]; exact l6
        have hsl := Sh.ln
        rw [List.length_map] at hsl
        have lrs : rs.length = qs.length := by
          have := congrArg List.length e6
          rw [List.length_map, List.length_map, List.length_map] at this
          exact this
        have hrl : (refsOf qs).length = qs.length := List.length_map _
        walk_at "go"
        refine Go.f_range (fun i σ H' => ∃ (ms ts : Prs) (v8 : Option V), σ = [some (.ref p), some (.int r), some (.ref l), some (.int (1 + z4)), some (.int z5), some (.ref rr), v6, some (.ref m), v8] ∧ PurseAt H' p c ns ∧ But H H' p ∧ LstP H' rr ts ∧ LstP H' m ms ∧ (ms ++ ts).Perm rs ∧ ms.length = i)
          ⟨[], rs, none, rfl, S6.new hm, B6.new hm, ⟨by rw [upd_ne hrm]; exact R6.l, R6.t.same (same_new hm)⟩, ⟨upd_same, fun _ h => (List.not_mem_nil h).elim⟩, List.Perm.refl _, rfl⟩ (fun i σ H' hi h => ?_) (fun σ H' h => ?_)
        · obtain ⟨ms, ts, v8, rfl, S8, B8, T8, M8, e8, i8⟩ := h
          have t8 := T8.l
          have m8 := M8.l
          have lms := e8.length_eq
          rw [List.length_append] at lms
          walk_at "go"
          refine ⟨p, c, ns, (refsOf ts).length, rfl, S8, by rw [List.length_map]; omega, fun z9 H9 z90 z91 S9 B9 => ?_⟩
          rw [List.length_map] at z91
          have zk : z9.toNat < ts.length := by omega
          have t9 : H9 rr = some (.lst (refsOf ts)) := B9 _ _ t8 hpr.symm
          have m9 : H9 m = some (.lst (refsOf ms)) := B9 _ _ m8 hpm.symm
          have tt9 : TupP H9 ts := T8.t.purse S8 B9
          have tm9 : TupP H9 ms := M8.t.purse S8 B9
          walk_at "go"
          refine Go.g_popAt (k := z9.toNat) (w := .ref ts[z9.toNat].1) t9 (by omega) (by omega) (by rw [List.getElem?_map, List.getElem?_eq_getElem zk]; rfl) ?_
          walk_at "go"
          refine Go.g_append (xs := refsOf ms) (by rw [upd_ne hrm.symm]; exact m9) (by rw [List.length_map]; omega) ?_
          have ea : (refsOf ts).eraseIdx z9.toNat = refsOf (ts.eraseIdx z9.toNat) := by
            unfold refsOf
            rw [List.eraseIdx_eq_take_drop_succ, List.eraseIdx_eq_take_drop_succ, List.map_append, List.map_take, List.map_drop]
          rw [ea]
          have mem : ts[z9.toNat] ∈ ts := List.getElem_mem zk
          refine ⟨ms ++ [ts[z9.toNat]], ts.eraseIdx z9.toNat, _, rfl, (S9.upd hpr hcr).upd hpm hcm, ((B8.trans B9).mut hr0).mut hm0, ⟨by rw [upd_ne hrm, upd_same], ?_⟩, ⟨by rw [upd_same, refsOf, refsOf, List.map_append]; rfl, ?_⟩, ?_, by rw [List.length_append, i8]; rfl⟩
          · refine TupP.upd (p := m) (TupP.upd (p := rr) (fun q hq => tt9 q (List.mem_of_mem_eraseIdx hq)) t9 fun xs z => by cases z) (show upd H9 rr _ m = _ by rw [upd_ne hrm.symm]; exact m9) fun xs z => by cases z
          · refine TupP.upd (p := m) (TupP.upd (p := rr) (fun q hq => ?_) t9 fun xs z => by cases z) (show upd H9 rr _ m = _ by rw [upd_ne hrm.symm]; exact m9) fun xs z => by cases z
            rcases List.mem_append.mp hq with h | h
            · exact tm9 q h
            · rw [List.mem_singleton] at h
              subst h
              exact tt9 _ mem
          · rw [List.append_assoc]
            exact ((erase_perm (List.getElem?_eq_getElem zk)).append_left ms).trans e8
        · obtain ⟨ms, ts, v8, rfl, S8, B8, T8, M8, e8, i8⟩ := h
          walk_at "go"
          have lms := e8.length_eq
          rw [List.length_append] at lms
          have e0 : ts = [] := List.length_eq_zero_iff.mp (by omega)
          rw [e0, List.append_nil] at e8
          have sh := (Sh.turn (t := z5) st)
          rw [← e6] at sh
          exact q m ms H' S8 B8 hm0 M8 (sh.perm (e8.map (·.2)).symm)
/-! ### the spare place -/
def spSpare (K : PySem.W.Frag) : Sp := fun vs H Q _ => ∃ (p c : Addr) (ns : List Int) (l : Addr) (qs : Prs), vs = [.ref p, .ref l] ∧ PurseAt H p c ns ∧ LstP H l qs ∧ Shape qs.ps ∧ p ≠ l ∧ c ≠ l ∧
  ∀ (r : Int) (H' : Hp), PurseAt H' p c ns → But H H' p → (∀ x ∈ qs.ps, x.1 ≠ r ∧ x.2 ≠ r) → Q (.int r) H'
theorem ok_spare (T : Txt K mg) : Go.Kept P w K mg base 3 "_law_spare" ["purse", "moves"] (spSpare K) := by
  have nd := scl_spare.nd
  have G_law_take : Go.Kept P w K mg base 2 "_law_take" ["purse", "size"] spTake := ok_take T
  refine T.d_l_spare.ok scl_spare (fun vs H Q E h => ?_) (fun f cdv A outer s H vs Q E hr h => ?_)
  · obtain ⟨p, c, ns, l, qs, rfl, _⟩ := h
    rfl
  · obtain ⟨p, c, ns, l, qs, rfl, S, L, Sh, hpl, hcl, q⟩ := h
    have hu := hu_of hr
    refine ⟨_, (pss_cons (ps_set (i := 2) nd rfl (.inl rfl) pe_dnewK)
        (pss_cons (ps_for PassesOwn.never rfl (pi_list (pv 1)) (pg_name (i := 3) nd rfl (.inl rfl))
        (pss_cons (ps_dput hu (pv 2) (pe_ix (Go.ixT (K := K) rfl) (pv 3) pe_int (fun _ _ => rfl)) pe_bl rfl)
        (pss_one (ps_dput hu (pv 2) (pe_ix (Go.ixT (K := K) rfl) (pv 3) pe_int (fun _ _ => rfl)) pe_bl rfl))))
        (pss_cons (ps_set (i := 4) nd rfl (.inl rfl) (Go.call G_law_take hr (pa_cons (pv 0) (pa_cons pe_int pa_nil))))
        (pss_cons (ps_for PassesOwn.never rfl (pi_range1 (by rfl) T.m_range (pa_cons pe_int pa_nil)) (pg_name (i := 5) nd rfl (.inl rfl))
        (pss_one (ps_if (pt_cmp (Go.pc_dnotin hu (pe_op op_mod (pe_callTy Go.call_int1 (by rfl) T.m_int (by decide +kernel) (pa_cons (pe_op op_add (pv 4) (pv 5)) pa_nil)) pe_int) (pv 2)))
        (pss_one (ps_ret (pe_op op_mod (pe_callTy Go.call_int1 (by rfl) T.m_int (by decide +kernel) (pa_cons (pe_op op_add (pv 4) (pv 5)) pa_nil)) pe_int)))
        pss_nil)))
        (pss_one (ps_ret pe_int)))))), ?_⟩
    walk_at "go0"
    walk_at "go"
    intro d hd
    walk_at "go"
    have hl := L.l
    have hsl := Sh.ln
    rw [List.length_map] at hsl
    have hpd : p ≠ d := (S.ne hd).1
    have hcd : c ≠ d := (S.ne hd).2
    have hld : l ≠ d := ne_of_none hl hd
    have l1 : (upd H d (.dK [])) l = some (.lst (refsOf qs)) := by rw [upd_ne hld]; exact hl
    walk_at "go"
    refine Go.f_list (xs := refsOf qs) (fun i σ H' => ∃ (kvs : List (Key × V)) (v : Option V), σ = [some (.ref p), some (.ref l), some (.ref d), v, none, none] ∧ PurseAt H' p c ns ∧ But H H' p ∧ H' l = some (.lst (refsOf qs)) ∧ H' d = some (.dK kvs) ∧ kvs.length ≤ 2 * i ∧ ∀ x ∈ qs.ps.take i, (valV kvs (.inl x.1)).isSome = true ∧ (valV kvs (.inl x.2)).isSome = true)
      ⟨[], none, rfl, S.new hd, But.refl.new hd, l1, upd_same, Nat.zero_le _, fun x hx => by simp at hx⟩ (fun i σ H' _ h => ?_) (fun i x σ H' hx h => ?_) (fun σ H' h => ?_)
    · obtain ⟨_, _, _, _, _, l2, _⟩ := h
      exact SqL.of l2
    · obtain ⟨kvs, v, rfl, S2, B2, l2, d2, n2, b2⟩ := h
      obtain ⟨t0, ht0, rfl⟩ : ∃ t0, qs[i]? = some t0 ∧ x = V.ref t0.1 := by
        rw [List.getElem?_map] at hx
        cases e : qs[i]? with
        | none => rw [e] at hx; cases hx
        | some n => rw [e] at hx; exact ⟨n, rfl, (Option.some.inj hx).symm⟩
      have hil : i < qs.length := (List.getElem?_eq_some_iff.mp ht0).1
      have ht1 : H t0.1 = some (.tup [.int t0.2.1, .int t0.2.2]) := L.t t0 (List.mem_of_getElem? ht0)
      have tp : t0.1 ≠ p := by
        obtain ⟨_, _, _, _, e, _⟩ := S
        exact ne_of ht1 e (by intro z; cases z)
      have ht : H' t0.1 = some (.tup [.int t0.2.1, .int t0.2.2]) := B2 _ _ ht1 tp
      have td : t0.1 ≠ d := ne_of ht d2 (by intro z; cases z)
      have pl : ∀ (ks : List (Key × V)) (k : Key) (z : V), (putK ks k z).length ≤ ks.length + 1 := fun ks k z => by
        unfold putK
        split
        · rw [List.length_map]; omega
        · rw [List.length_append]; exact Nat.le_refl _
      have pl1 := pl kvs (.inl t0.2.1) (.bl true)
      have pl2 := pl (putK kvs (.inl t0.2.1) (.bl true)) (.inl t0.2.2) (.bl true)
      walk_at "go"
      refine Go.g_dputI d2 (by omega) ?_
      walk_at "go"
      refine Go.g_dputI upd_same (by omega) ?_
      refine ⟨_, _, rfl, (S2.upd hpd hcd).upd hpd hcd, (B2.mut hd).mut hd, by rw [upd_ne hld, upd_ne hld]; exact l2, upd_same, by omega, fun x hx => ?_⟩
      rw [valV_put, valV_put, valV_put, valV_put]
      rw [List.take_add_one, Prs.ps, List.getElem?_map, ht0] at hx
      rcases List.mem_append.mp hx with hx | hx
      · have := b2 x hx
        constructor
        · split
          · rfl
          · split
            · rfl
            · exact this.1
        · split
          · rfl
          · split
            · rfl
            · exact this.2
      · have e : x = t0.2 := by simpa using hx
        subst e
        constructor
        · rw [if_pos rfl]
          split <;> rfl
        · rw [if_pos rfl]
          rfl
    · obtain ⟨kvs, v, rfl, S2, B2, l2, d2, n2, b2⟩ := h
      have b3 : ∀ x ∈ qs.ps, (valV kvs (.inl x.1)).isSome = true ∧ (valV kvs (.inl x.2)).isSome = true := fun x hx => b2 x (by rw [List.take_of_length_le (by rw [List.length_map, List.length_map]; exact Nat.le_refl _)]; exact hx)
      walk_at "go"
      refine ⟨p, c, ns, 103, rfl, S2, by omega, fun z4 H4 z40 z41 S4 B4 => ?_⟩
      have hdp : d ≠ p := hpd.symm
      walk_at "go"
      have d4 : H4 d = some (.dK kvs) := B4 _ _ d2 hdp
      have bB : But H H4 p := B2.trans B4
      refine Go.f_range (fun i σ H' => ∃ (v5 : Option V), σ = [some (.ref p), some (.ref l), some (.ref d), v, some (.int z4), v5] ∧ H' = H4) ⟨_, rfl, rfl⟩ (fun i σ H' hi h => ?_) (fun σ H' h => ?_)
      · obtain ⟨v5, rfl, rfl⟩ := h
        walk_at "go"
        refine Go.g_dnotin (.inl d4) ?_
        walk_at "go"
        refine Go.g_nbool (fun e => ?_) (fun e => ?_)
        · walk_at "go"
          refine q _ _ S4 bB fun x hx => ?_
          have := b3 x hx
          constructor
          · intro z
            rw [z] at this
            rw [e] at this
            exact Bool.noConfusion this.1
          · intro z
            rw [z] at this
            rw [e] at this
            exact Bool.noConfusion this.2
        · walk_at "go"
          exact ⟨_, rfl, rfl⟩
      · obtain ⟨v5, rfl, rfl⟩ := h
        walk_at "go"
        refine q 103 _ S4 bB fun x hx => ?_
        have := Sh.bd x hx
        omega
end
end K42

namespace K42
open PySem L2
section
variable {P : Program} {w : World} {K : PySem.W.Frag} {mg : Str → Option Value} {base : Heap}
/-! ### performing free moves -/
/-- a dict of ints, by its look-up -/
def DI (kvs : List (Key × V)) (F : Int → Option Int) : Prop := ∀ k : Int, valV kvs (.inl k) = (F k).map V.int
theorem DI.put {kvs : List (Key × V)} {F : Int → Option Int} (h : DI kvs F) (s t : Int) : DI (putK kvs (.inl s) (.int t)) (M42.updF F s t) := fun k => by
  rw [valV_put]
  unfold M42.updF
  by_cases e : k = s
  · rw [if_pos (by rw [e]), if_pos e]
    rfl
  · rw [if_neg (fun z => e (Sum.inl.inj z)), if_neg e]
    exact h k
theorem putK_len {kvs : List (Key × V)} {k : Key} {v : V} (h : (valV kvs k).isSome = true) : (putK kvs k v).length = kvs.length := by
  unfold putK
  rw [valV_any, if_pos h, List.length_map]
/-- all but three is kept -/
def But3 (H H' : Hp) (p q r : Addr) : Prop := ∀ b o, H b = some o → b ≠ p → b ≠ q → b ≠ r → H' b = some o
/-- between two moves -/
structure JF (H0 : Hp) (af aw ad ao : Addr) (ws : List (Int × Int)) (wk : List (Key × V)) (sp : Int) (n brk : Nat) (F0 : Int → Option Int) (D0 fr0 : List Int) (os : Prs) (F : Int → Option Int) (fr D : List Int) (fk : List (Key × V)) (H' : Hp) : Prop where
  f : H' af = some (.lst (fr.map V.int))
  w : H' aw = some (.dK wk)
  d : H' ad = some (.dK fk)
  o : LstP H' ao os
  b : But3 H0 H' af ad ao
  di : DI fk F
  n : fk.length = n
  I : M42.PInv ws sp os.ps F fr D brk
  D0 : ∀ t ∈ D0, t ∈ D
  f0 : ∀ t ∈ fr0, t ∈ D ∨ t ∈ fr
  s0 : ∀ s, F s = some sp → F0 s = some sp
def spPF : Sp := fun vs H Q _ => ∃ (af aw ad ao : Addr) (ws : List (Int × Int)) (wk : List (Key × V)) (sp : Int) (brk : Nat) (os : Prs) (F : Int → Option Int) (fr D : List Int) (fk : List (Key × V)),
  vs = [.ref af, .ref aw, .ref ad, .ref ao] ∧ af ≠ ao ∧ aw ≠ ad ∧ M42.WsOk ws sp ∧ DI wk (M42.lk ws) ∧ ws.length ≤ 47 ∧ brk ≤ 47 ∧ fk.length ≤ 100 ∧ JF H af aw ad ao ws wk sp fk.length brk F D fr os F fr D fk H ∧
  ∀ (os' : Prs) (F' : Int → Option Int) (D' : List Int) (fk' : List (Key × V)) (H' : Hp), JF H af aw ad ao ws wk sp fk.length brk F D fr os' F' [] D' fk' H' → Q .non H'
theorem ok_pf (T : Txt K mg) : Go.Kept P w K mg base 1 "perform_free" ["free", "wanted", "found_at", "ordered"] spPF := by
  have nd := scperform_free.nd
  refine T.d_perform_free.ok scperform_free (fun vs H Q E h => ?_) (fun f cdv A outer s H vs Q E hr h => ?_)
  · obtain ⟨af, aw, ad, ao, _, _, _, _, _, _, _, _, _, rfl, _⟩ := h
    rfl
  · obtain ⟨af, aw, ad, ao, ws, wk, sp, brk, os0, F0, fr0, D0, fk0, rfl, hfo, hwd, W, DW, lw, lb, lf, J0, q⟩ := h
    have hu := hu_of hr
    refine ⟨_, (pss_one (ps_while PassesOwn.never (pt_cmpR op_gt (pe_callB (Go.lenSeq (K := K) rfl) (by rfl) T.m_len (by decide +kernel) (pa_cons (pv 0) pa_nil)) pe_int (nomark _))
        (pss_cons (ps_set (i := 4) nd rfl (.inl rfl) (pe_bm0 PySem.F.plainAttrs_list PySem.F.slot_list_pop PySem.F.type_list_pop mt_pop (pv 0)))
        (pss_cons (ps_set (i := 5) nd rfl (.inl rfl) (Go.pe_dget hu (pv 1) (pv 4) (fun _ _ => rfl)))
        (pss_cons (ps_set (i := 6) nd rfl (.inl rfl) (Go.pe_dget hu (pv 2) (pv 5) (fun _ _ => rfl)))
        (pss_cons (ps_expr (pe_bm PySem.F.plainAttrs_list PySem.F.slot_list_append PySem.F.type_list_append mt_append (pv 3) (pa_cons (Go.pe_tup (pa_cons (pv 4) (pa_cons (pv 6) pa_nil))) pa_nil)))
        (pss_cons (ps_dput hu (pv 2) (pv 5) (pv 4) rfl)
        (pss_one (ps_if (PW.pt (pw_and (pt_cmpR op_eq (pv 6) (pv 5) (nomark _)) (pw_and1 (pt_cmp (Go.pc_din hu (pv 5) (pv 1))))))
        (pss_one (ps_expr (pe_bm PySem.F.plainAttrs_list PySem.F.slot_list_append PySem.F.type_list_append mt_append (pv 0) (pa_cons (pv 5) pa_nil))))
        pss_nil))))))))), ?_⟩
    walk_at "go0"
    refine Go.g_while (fun m σ H' => ∃ (os : Prs) (F : Int → Option Int) (fr D : List Int) (fk : List (Key × V)) (v4 v5 v6 : Option V), m = ws.length - D.length ∧ σ = [some (.ref af), some (.ref aw), some (.ref ad), some (.ref ao), v4, v5, v6] ∧ JF H af aw ad ao ws wk sp fk0.length brk F0 D0 fr0 os F fr D fk H')
      ⟨_, os0, F0, fr0, D0, fk0, none, none, none, rfl, rfl, J0⟩ (fun m σ H1 h => ?_)
    obtain ⟨os, F, fr, D, fk, v4, v5, v6, rfl, rfl, J⟩ := h
    have hf := J.f
    have hw := J.w
    have hd := J.d
    have ho := J.o.l
    walk_at "go"
    refine Go.g_dec (fun e => ?_) (fun e => ?_)
    · refine ⟨_, fun _ _ h => h, ?_⟩
      obtain ⟨fr', t, rfl⟩ : ∃ fr' t, fr = fr' ++ [t] := by
        rcases List.eq_nil_or_concat fr with h | ⟨a, b, h⟩
        · subst h
          simp at e
        · exact ⟨a, b, by rw [h, List.concat_eq_append]⟩
      rw [List.map_append] at hf
      obtain ⟨htD, htk⟩ := J.I.fd t (by simp)
      obtain ⟨s, hs⟩ := M42.lk_some htk
      obtain ⟨a, ha⟩ := Option.isSome_iff_exists.mp ((J.I.dom s).mpr (M42.lk_val hs))
      have J' := J.I.step W hs ha
      have Dl : D.length + 1 ≤ ws.length := by
        have := M42.nodup_len J'.dn J'.dk
        rw [List.length_append, List.length_map] at this
        exact this
      walk_at "go"
      refine Go.g_pop (ys := fr'.map V.int) hf ?_
      have nfd : af ≠ ad := ne_of hf hd (by intro z; cases z)
      have nfw : af ≠ aw := ne_of hf hw (by intro z; cases z)
      have nod : ao ≠ ad := ne_of ho hd (by intro z; cases z)
      have now : ao ≠ aw := ne_of ho hw (by intro z; cases z)
      walk_at "go"
      refine Go.g_dget (kvs := wk) (v := .int s) (.inl (by walk_at "hp")) (by rw [DW t, hs]; rfl) ?_
      walk_at "go"
      refine Go.g_dget (kvs := fk) (v := .int a) (.inl (by walk_at "hp")) (by rw [J.di s, ha]; rfl) ?_
      walk_at "go"
      intro tp htp
      have ntf : tp ≠ af := fun z => by rw [z, upd_same] at htp; cases htp
      have htp1 : H1 tp = none := by rw [upd_ne ntf] at htp; exact htp
      have nto : tp ≠ ao := fun z => by rw [z, ho] at htp1; cases htp1
      have ntd : tp ≠ ad := fun z => by rw [z, hd] at htp1; cases htp1
      have ntw : tp ≠ aw := fun z => by rw [z, hw] at htp1; cases htp1
      have los := J.I.L
      rw [List.length_map] at los
      have pk : (putK fk (.inl s) (.int t)).length = fk.length := putK_len (by rw [J.di s, ha]; rfl)
      have fin : ∀ (H5 : Hp) (fr'' : List Int), fr'' = M42.nextFree ws fr' a s → H5 af = some (.lst (fr''.map V.int)) → (∀ b, b ≠ af → b ≠ ao → b ≠ ad → b ≠ tp → H5 b = H1 b) → H5 ad = some (.dK (putK fk (.inl s) (.int t))) → H5 ao = some (.lst (refsOf os ++ [.ref tp])) →
          H5 tp = some (.tup [.int t, .int a]) → JF H af aw ad ao ws wk sp fk0.length brk F0 D0 fr0 (os ++ [(tp, t, a)]) (M42.updF F s t) fr'' (D ++ [t]) (putK fk (.inl s) (.int t)) H5 := fun H5 fr'' e1 e2 e3 e4 e5 e6 => by
        refine ⟨e2, by rw [e3 aw nfw.symm now.symm hwd ntw.symm]; exact hw, e4, ⟨by rw [e5, refsOf, refsOf, List.map_append]; rfl, fun x hx => ?_⟩, fun b o hb n1 n2 n3 => ?_, J.di.put s t, by rw [pk]; exact J.n, ?_, fun x hx => List.mem_append_left _ (J.D0 x hx), fun x hx => ?_, fun x hx => ?_⟩
        · rcases List.mem_append.mp hx with hx | hx
          · have h1 := J.o.t x hx
            rw [e3 x.1 (ne_of h1 hf (by intro z; cases z)) (ne_of h1 ho (by intro z; cases z)) (ne_of h1 hd (by intro z; cases z)) (fun z => by rw [z, htp1] at h1; cases h1)]
            exact h1
          · rw [List.mem_singleton] at hx
            subst hx
            exact e6
        · have h1 := J.b b o hb n1 n2 n3
          rw [e3 b n1 n3 n2 (fun z => by rw [z, htp1] at h1; cases h1)]
          exact h1
        · rw [ps_app, e1]
          exact J'
        · rcases J.f0 x hx with h | h
          · exact .inl (List.mem_append_left _ h)
          · rcases List.mem_append.mp h with h | h
            · refine .inr ?_
              rw [e1]
              unfold M42.nextFree
              split
              · exact List.mem_append_left _ h
              · exact h
            · exact .inl (List.mem_append_right _ h)
        · by_cases z : x = s
          · rw [z, M42.updF_same] at hx
            exact absurd (Option.some.inj hx ▸ htk) W.s1
          · rw [M42.updF_ne z] at hx
            exact J.s0 x hx
      have lD : (D ++ [t]).length = D.length + 1 := by rw [List.length_append]; rfl
      walk_at "go"
      refine Go.g_append (xs := refsOf os) (by walk_at "hp") (by rw [List.length_map]; omega) ?_
      walk_at "go"
      have jn := J.n
      refine Go.g_dputI (kvs := fk) (by walk_at "hp") (by omega) ?_
      walk_at "go"
      refine Go.g_dec (fun e2 => ?_) (fun e2 => ?_)
      · have eas : a = s := V.int.inj e2
        walk_at "go"
        refine Go.g_din (kvs := wk) (.inl (by walk_at "hp")) ?_
        walk_at "go"
        rw [DW s, Option.isSome_map]
        refine Go.g_bool (fun e3 => ?_) (fun e3 => ?_)
        · have hsk : s ∈ M42.ks ws := by
            obtain ⟨y, hy⟩ := Option.isSome_iff_exists.mp e3
            exact M42.lk_key hy
          have hfn : (fr' ++ [s]).length ≤ ws.length := by
            have h1 := J'.fn
            unfold M42.nextFree at h1
            rw [if_pos ⟨eas, hsk⟩] at h1
            have h2 := M42.nodup_len h1 (L := M42.ks ws) fun x hx => (J'.fd x (by unfold M42.nextFree; rw [if_pos ⟨eas, hsk⟩]; exact hx)).2
            rw [List.length_map] at h2
            exact h2
          rw [List.length_append] at hfn
          walk_at "go"
          refine Go.g_append (xs := fr'.map V.int) (by walk_at "hp") (by rw [List.length_map]; omega) ?_
          refine ⟨_, ?_, os ++ [(tp, t, a)], M42.updF F s t, fr' ++ [s], D ++ [t], _, _, _, _, rfl, rfl, fin _ _ ?_ ?_ ?_ ?_ ?_ ?_⟩
          · omega
          · unfold M42.nextFree
            rw [if_pos ⟨eas, hsk⟩]
          · rw [upd_same, List.map_append]
            rfl
          · intro b n1 n2 n3 n4
            rw [upd_ne n1, upd_ne n3, upd_ne n2, upd_ne n4, upd_ne n1]
          · walk_at "hp"
          · walk_at "hp"
          · walk_at "hp"
        · walk_at "go"
          refine ⟨_, ?_, os ++ [(tp, t, a)], M42.updF F s t, fr', D ++ [t], _, _, _, _, rfl, rfl, fin _ _ ?_ ?_ ?_ ?_ ?_ ?_⟩
          · omega
          · unfold M42.nextFree
            rw [if_neg]
            intro z
            obtain ⟨y, hy⟩ := M42.lk_some z.2
            rw [hy] at e3
            cases e3
          · walk_at "hp"
          · intro b n1 n2 n3 n4
            rw [upd_ne n3, upd_ne n2, upd_ne n4, upd_ne n1]
          · walk_at "hp"
          · walk_at "hp"
          · walk_at "hp"
      · walk_at "go"
        refine Go.g_no ?_
        walk_at "go"
        refine ⟨_, ?_, os ++ [(tp, t, a)], M42.updF F s t, fr', D ++ [t], _, _, _, _, rfl, rfl, fin _ _ ?_ ?_ ?_ ?_ ?_ ?_⟩
        · omega
        · unfold M42.nextFree
          rw [if_neg]
          intro z
          exact e2 (congrArg V.int z.1)
        · walk_at "hp"
        · intro b n1 n2 n3 n4
          rw [upd_ne n3, upd_ne n2, upd_ne n4, upd_ne n1]
        · walk_at "hp"
        · walk_at "hp"
        · walk_at "hp"
    · have e0 : fr = [] := by
        rw [List.length_map] at e
        exact List.length_eq_zero_iff.mp (by omega)
      subst e0
      exact q os F D fk H1 J
end
end K42

namespace K42
open PySem L2
section
variable {P : Program} {w : World} {K : PySem.W.Frag} {mg : Str → Option Value} {base : Heap}
/-! ### order_moves -/
def neP (x : Int × Int) : Bool := decide (x.1 ≠ x.2)
/-- the pairs with unlike members -/
abbrev oth (ps : List (Int × Int)) : List (Int × Int) := ps.filter neP
def wkOf (ws : List (Int × Int)) : List (Key × V) := ws.map fun x => (.inl x.1, .int x.2)
theorem di_wk (ws : List (Int × Int)) : DI (wkOf ws) (M42.lk ws) := fun k => by
  unfold wkOf M42.lk valV
  induction ws with
  | nil => rfl
  | cons x r ih =>
    rw [List.map_cons, List.find?_cons, List.find?_cons]
    by_cases e : x.1 = k
    · have h1 : decide ((Sum.inl x.1 : Key) = Sum.inl k) = true := by rw [e]; simp
      have h2 : (x.1 == k) = true := by rw [e]; simp
      rw [h1, h2]
      rfl
    · have h1 : decide ((Sum.inl x.1 : Key) = Sum.inl k) = false := decide_eq_false fun z => e (Sum.inl.inj z)
      have h2 : (x.1 == k) = false := by simp [e]
      rw [h1, h2]
      exact ih
theorem wk_len (ws : List (Int × Int)) : (wkOf ws).length = ws.length := List.length_map _
theorem wk_app (ws : List (Int × Int)) (t s : Int) (h : t ∉ M42.ks ws) : putK (wkOf ws) (.inl t) (.int s) = wkOf (ws ++ [(t, s)]) := by
  rw [putK_new _ (by rw [di_wk ws t, M42.lk_none.mpr h]; rfl)]
  unfold wkOf
  rw [List.map_append]
  rfl
def srcF (ws : List (Int × Int)) : Int → Option Int := fun s => if s ∈ M42.vs ws then some s else none
theorem src_app (ws : List (Int × Int)) (t s : Int) : M42.updF (srcF ws) s s = srcF (ws ++ [(t, s)]) := by
  funext k
  unfold M42.updF srcF
  rw [show M42.vs (ws ++ [(t, s)]) = M42.vs ws ++ [s] from List.map_append]
  by_cases e : k = s
  · rw [if_pos e, if_pos (by rw [e]; simp), e]
  · rw [if_neg e]
    by_cases h : k ∈ M42.vs ws
    · rw [if_pos h, if_pos (List.mem_append_left _ h)]
    · rw [if_neg h, if_neg]
      intro z
      rcases List.mem_append.mp z with z | z
      · exact h z
      · exact e (List.mem_singleton.mp z)
theorem putK_le (kvs : List (Key × V)) (k : Key) (v : V) : (putK kvs k v).length ≤ kvs.length + 1 := by
  unfold putK
  split
  · rw [List.length_map]; omega
  · rw [List.length_append]; exact Nat.le_refl _
theorem wk_at {ws : List (Int × Int)} {i : Nat} {k : Key} {v : V} (h : (wkOf ws)[i]? = some (k, v)) : ∃ x, ws[i]? = some x ∧ k = .inl x.1 := by
  unfold wkOf at h
  rw [List.getElem?_map] at h
  cases e : ws[i]? with
  | none => rw [e] at h; cases h
  | some x =>
    rw [e] at h
    have h' := Option.some.inj h
    exact ⟨x, rfl, (congrArg Prod.fst h').symm⟩
theorem wk_keys (ws : List (Int × Int)) : ((wkOf ws).map fun kv => kV kv.1) = (M42.ks ws).map V.int := by
  unfold wkOf
  rw [List.map_map, List.map_map]
  rfl
/-- what is told of an order of moves -/
structure Told (ps : List (Int × Int)) (sp : Int) (os : List (Int × Int)) : Prop where
  ne : ∀ x ∈ os, x.1 ≠ x.2
  ct : ∃ Bs, M42.Blocks (oth ps) Bs ∧ os.length ≤ (oth ps).length + Bs.length
  ex : ∀ t s, M42.lk (oth ps) t = some s → M42.exec os t = s
  ot : ∀ t, t ≠ sp → t ∉ M42.ks (oth ps) → M42.exec os t = t
  ky : ∀ t, t ≠ sp → t ∈ os.map (·.1) → t ∈ M42.ks (oth ps)
  ln : os.length ≤ 94
  sn : sp ∉ M42.ks ps
/-- between two turns over the wanted places -/
structure JO (H0 : Hp) (aw ad ao dn : Addr) (ws : List (Int × Int)) (sp : Int) (i : Nat) (os : Prs) (F : Int → Option Int) (D : List Int) (Bs : List (List Int)) (fk : List (Key × V)) (H' : Hp) : Prop where
  w : H' aw = some (.dK (wkOf ws))
  d : H' ad = some (.dK fk)
  o : LstP H' ao os
  n : H' dn = some (.lst ((os.ps.map (·.1)).map V.int))
  s : Same H0 H'
  di : DI fk F
  fn : fk.length ≤ 47
  I : M42.PInv ws sp os.ps F [] D Bs.length
  B : M42.Blocks ws Bs
  BD : ∀ B ∈ Bs, ∀ t ∈ B, t ∈ D
  sp : ∀ s, F s ≠ some sp
  bi : Bs.length ≤ i
  al : ∀ t ∈ (M42.ks ws).take i, t ∈ D
  nd : dn ≠ ao
/-- [to for to, _ in ordered] -/
theorem firsts {K : PySem.W.Frag} {a0 a1 a2 a3 a4 a5 a7 a8 a9 : Option V} {ao : Addr} {os : Prs} {H : Hp} {Q : VK} (L : LstP H ao os) (hn : os.length ≤ 1000)
    (q : ∀ (D : Addr) (H' : Hp), H D = none → Same H H' → H' D = some (.lst ((os.ps.map (·.1)).map V.int)) → Q (.ref D) H') :
    Go.LcR (gTup K 2 (gCons (gName 4) (gCons (gName 9) gNil))) tYes (tVar 4) [4, 9] [a0, a1, a2, a3, a4, a5, some (.ref ao), a7, a8, a9] Q (Itl K ao) H := by
  have hl := L.l
  refine Go.c_list (xs := refsOf os) fun D hD => ⟨fun i H' => Same H H' ∧ H' D = some (.lst (((os.ps.take i).map (·.1)).map V.int)), ⟨same_new hD, upd_same⟩, fun i H' _ h => SqL.of (h.1 _ _ hl), fun i x H' hx h => ?_, fun H' h => ?_⟩
  · obtain ⟨sm, hd⟩ := h
    obtain ⟨t0, ht0, rfl⟩ : ∃ t0, os[i]? = some t0 ∧ x = V.ref t0.1 := by
      rw [List.getElem?_map] at hx
      cases e : os[i]? with
      | none => rw [e] at hx; cases hx
      | some n => rw [e] at hx; exact ⟨n, rfl, (Option.some.inj hx).symm⟩
    have hil : i < os.length := (List.getElem?_eq_some_iff.mp ht0).1
    have ht : H' t0.1 = some (.tup [.int t0.2.1, .int t0.2.2]) := sm _ _ (L.t t0 (List.mem_of_getElem? ht0))
    walk_at "go"
    refine ⟨rfl, ?_⟩
    walk_at "go"
    refine Go.g_yes ?_
    walk_at "go"
    refine ⟨_, hd, ?_, fun c o e => ?_, ?_⟩
    · rw [List.length_map, List.length_map, List.length_take, List.length_map]
      exact small1000 (by omega) |> fun h => Nat.lt_of_le_of_lt (Nat.le_refl _) h
    · have hcD : c ≠ D := ne_of_none e hD
      rw [upd_ne hcD]
      exact sm c o e
    · rw [upd_same, List.take_add_one, Prs.ps, List.getElem?_map, ht0, List.map_append, List.map_append]
      rfl
  · obtain ⟨sm, hd⟩ := h
    rw [List.take_of_length_le (by rw [List.length_map, List.length_map]; exact Nat.le_refl _)] at hd
    exact q D H' hD sm hd
def spOM (K : PySem.W.Frag) : Sp := fun vs H Q _ => ∃ (l : Addr) (qs : Prs) (sp : Int), vs = [.ref l, .int sp] ∧ LstP H l qs ∧ Shape qs.ps ∧ (∀ x ∈ qs.ps, x.1 ≠ sp ∧ x.2 ≠ sp) ∧
  ∀ (o : Addr) (os : Prs) (H' : Hp), Same H H' → H o = none → LstP H' o os → Told qs.ps sp os.ps → Q (.ref o) H'
theorem ok_om (T : Txt K mg) : Go.Kept P w K mg base 2 "order_moves" ["moves", "spare"] (spOM K) := by
  have nd := scorder_moves.nd
  have G_perform_free : Go.Kept P w K mg base 1 "perform_free" ["free", "wanted", "found_at", "ordered"] spPF := ok_pf T
  refine T.d_order_moves.ok scorder_moves (fun vs H Q E h => ?_) (fun f cdv A outer s H vs Q E hr h => ?_)
  · obtain ⟨l, qs, sp, rfl, _⟩ := h
    rfl
  · obtain ⟨l, qs, sp, rfl, L, Sh, hsp, q⟩ := h
    have hu := hu_of hr
    refine ⟨_, (pss_cons (ps_set (i := 2) nd rfl (.inl rfl) pe_dnewK)
        (pss_cons (ps_set (i := 3) nd rfl (.inr rfl) pe_dnewK)
        (pss_cons (ps_for PassesOwn.never rfl (pi_list (pv 0)) (pg_tup rfl (pgs_cons (pg_name (i := 4) nd rfl (.inl rfl)) (pgs_cons (pg_name (i := 5) nd rfl (.inl rfl)) pgs_nil)))
        (pss_one (ps_if (pt_cmpR op_ne (pv 4) (pv 5) (nomark _))
        (pss_cons (ps_dput hu (pv 2) (pv 4) (pv 5) rfl)
        (pss_one (ps_dput hu (pv 3) (pv 5) (pv 5) rfl)))
        pss_nil)))
        (pss_cons (ps_set (i := 6) nd rfl (.inl rfl) (Go.pe_lst pa_nil))
        (pss_cons (ps_expr (Go.call G_perform_free hr (pa_cons (pe_lock (pe_lc (own := [("to", 4)]) (g := gName 4) rfl nd (pi_keys (pv 2)) (blkOk_by (own := [("to", 4)]) (N := norder_moves) (sc := defScope sorder_moves) (by decide +kernel)) (fun _ _ _ _ _ => pg_name (i := 4) nd rfl (Or.inl rfl)) (fun _ _ _ _ _ => pts_one (pt_cmp (Go.pc_dnotin hu (pv 4) (pv 3)))) (fun _ _ _ _ _ => (pv 4)))) (pa_cons (pv 2) (pa_cons (pv 3) (pa_cons (pv 6) pa_nil))))))
        (pss_cons (ps_setLc (i := 7) (own := [("to", 4), ("_", 9)]) (g := (gTup K 2 (gCons (gName 4) (gCons (gName 9) gNil)))) rfl nd rfl rfl (sw_true rfl rfl rfl (by decide +kernel)) (pi_list (pv 6)) (blkOk_by (own := [("to", 4), ("_", 9)]) (N := norder_moves) (sc := defScope sorder_moves) (by decide +kernel)) (fun _ _ _ _ _ => (pg_tup rfl (pgs_cons (pg_name (i := 4) nd rfl (.inl rfl)) (pgs_cons (pg_name (i := 9) nd rfl (.inl rfl)) pgs_nil)))) (fun _ _ _ _ _ => pts_nil) (fun _ _ _ _ _ => (pv 4)))
        (pss_cons (ps_for PassesOwn.never rfl (pi_list (pe_callTy (call_list_dK rfl) (by rfl) T.m_list (by decide +kernel) (pa_cons (pv 2) pa_nil))) (pg_name (i := 8) nd rfl (.inl rfl))
        (pss_one (ps_if (pt_cmpR (Go.notInSeq (K := K) rfl) (pv 8) (pv 7) (by rfl))
        (pss_cons (ps_expr (pe_bm PySem.F.plainAttrs_list PySem.F.slot_list_append PySem.F.type_list_append mt_append (pv 6) (pa_cons (Go.pe_tup (pa_cons (pv 1) (pa_cons (pv 8) pa_nil))) pa_nil)))
        (pss_cons (ps_dput hu (pv 3) (pv 8) (pv 1) rfl)
        (pss_cons (ps_expr (Go.call G_perform_free hr (pa_cons (Go.pe_lst (pa_cons (pv 8) pa_nil)) (pa_cons (pv 2) (pa_cons (pv 3) (pa_cons (pv 6) pa_nil))))))
        (pss_one (ps_setLc (i := 7) (own := [("to", 4), ("_", 9)]) (g := (gTup K 2 (gCons (gName 4) (gCons (gName 9) gNil)))) rfl nd rfl rfl (sw_true rfl rfl rfl (by decide +kernel)) (pi_list (pv 6)) (blkOk_by (own := [("to", 4), ("_", 9)]) (N := norder_moves) (sc := defScope sorder_moves) (by decide +kernel)) (fun _ _ _ _ _ => (pg_tup rfl (pgs_cons (pg_name (i := 4) nd rfl (.inl rfl)) (pgs_cons (pg_name (i := 9) nd rfl (.inl rfl)) pgs_nil)))) (fun _ _ _ _ _ => pts_nil) (fun _ _ _ _ _ => (pv 4)))))))
        pss_nil)))
        (pss_one (ps_ret (pv 6)))))))))), ?_⟩
    walk_at "go0"
    walk_at "go"
    intro aw haw
    walk_at "go"
    intro ad had
    have hl := L.l
    have nlw : l ≠ aw := ne_of_none hl haw
    have haw1 : (upd H aw (.dK [])) aw = some (.dK []) := upd_same
    have nwd : aw ≠ ad := ne_of_none haw1 had
    have had0 : H ad = none := by
      rw [upd_ne nwd.symm] at had
      exact had
    have nld : l ≠ ad := ne_of_none hl had0
    have hsl := Sh.ln
    rw [List.length_map] at hsl
    walk_at "go"
    refine Go.f_list (xs := refsOf qs) (fun i σ H' => ∃ (fk : List (Key × V)) (v4 v5 : Option V), σ = [some (.ref l), some (.int sp), some (.ref aw), some (.ref ad), v4, v5, none, none, none, none] ∧ Same H H' ∧ H' aw = some (.dK (wkOf (oth (qs.ps.take i)))) ∧ H' ad = some (.dK fk) ∧ DI fk (srcF (oth (qs.ps.take i))) ∧ fk.length ≤ i)
      ⟨[], none, none, rfl, (same_new haw).trans (same_new had), by rw [upd_ne nwd]; exact haw1, upd_same, fun k => rfl, Nat.zero_le _⟩ (fun i σ H' _ h => ?_) (fun i x σ H' hx h => ?_) (fun σ H1 h => ?_)
    · obtain ⟨_, _, _, _, s1, _⟩ := h
      exact SqL.of (s1 _ _ hl)
    · obtain ⟨fk, v4, v5, rfl, s1, w1, d1, di1, n1⟩ := h
      obtain ⟨t0, ht0, rfl⟩ : ∃ t0, qs[i]? = some t0 ∧ x = V.ref t0.1 := by
        rw [List.getElem?_map] at hx
        cases e : qs[i]? with
        | none => rw [e] at hx; cases hx
        | some n => rw [e] at hx; exact ⟨n, rfl, (Option.some.inj hx).symm⟩
      have hil : i < qs.length := (List.getElem?_eq_some_iff.mp ht0).1
      have ht1 : H t0.1 = some (.tup [.int t0.2.1, .int t0.2.2]) := L.t t0 (List.mem_of_getElem? ht0)
      have ht : H' t0.1 = some (.tup [.int t0.2.1, .int t0.2.2]) := s1 _ _ ht1
      have tk : qs.ps.take (i + 1) = qs.ps.take i ++ [t0.2] := by
        rw [List.take_add_one, Prs.ps, List.getElem?_map, ht0]
        rfl
      walk_at "go"
      refine Go.g_ndec (fun e => ?_) (fun e => ?_)
      · have ne0 : t0.2.1 ≠ t0.2.2 := fun z => e (by rw [z])
        have fo : oth (qs.ps.take (i + 1)) = oth (qs.ps.take i) ++ [t0.2] := by
          rw [tk, oth, List.filter_append]
          congr 1
          rw [List.filter_cons, if_pos (show neP t0.2 = true from decide_eq_true ne0)]
          rfl
        have nk : t0.2.1 ∉ M42.ks (oth (qs.ps.take i)) := fun m => by
          obtain ⟨y, hy, ey⟩ := List.mem_map.mp m
          have hy' := (List.mem_filter.mp hy).1
          have nd1 := Sh.nd
          rw [← List.take_append_drop (i + 1) qs.ps, tk, List.map_append, List.map_append] at nd1
          have := (List.nodup_append.mp (List.nodup_append.mp nd1).1).2.2
          exact this y.1 (List.mem_map.mpr ⟨y, hy', rfl⟩) t0.2.1 (by simp) ey
        have lw : (wkOf (oth (qs.ps.take i))).length ≤ i := by
          rw [wk_len]
          exact Nat.le_trans (List.length_filter_le _ _) (by rw [List.length_take]; omega)
        have pl := putK_le fk (.inl t0.2.2) (.int t0.2.2)
        walk_at "go"
        refine Go.g_dputI w1 (by omega) ?_
        walk_at "go"
        refine Go.g_dputI (kvs := fk) (by walk_at "hp") (by omega) ?_
        refine ⟨_, _, _, rfl, fun b o hb => ?_, ?_, upd_same, ?_, by omega⟩
        · have nbw : b ≠ aw := ne_of_none hb haw
          have nbd : b ≠ ad := ne_of_none hb had0
          rw [upd_ne nbd, upd_ne nbw]
          exact s1 b o hb
        · rw [upd_ne nwd, upd_same, wk_app _ _ _ nk, fo]
        · rw [fo]
          have := di1.put t0.2.2 t0.2.2
          rw [src_app _ t0.2.1] at this
          exact this
      · have e0 : t0.2.1 = t0.2.2 := V.int.inj e
        have fo : oth (qs.ps.take (i + 1)) = oth (qs.ps.take i) := by
          rw [tk, oth, List.filter_append, List.filter_cons, if_neg (by unfold neP; simp [e0])]
          simp
        walk_at "go"
        exact ⟨fk, _, _, rfl, s1, by rw [fo]; exact w1, d1, by rw [fo]; exact di1, by omega⟩
    · obtain ⟨fk, v4, v5, rfl, s1, w1, d1, di1, n1⟩ := h
      rw [List.take_of_length_le (by rw [List.length_map, List.length_map]; exact Nat.le_refl _)] at w1 di1
      rw [List.length_map] at n1
      walk_at "go"
      intro ao hao
      have hao0 : H ao = none := s1.free hao
      have naw : aw ≠ ao := ne_of_none w1 hao
      have nad : ad ≠ ao := ne_of_none d1 hao
      have nal : l ≠ ao := ne_of_none hl hao0
      generalize ews : oth qs.ps = ws at w1 di1
      have lws : ws.length ≤ 47 := by
        rw [← ews]
        exact Nat.le_trans (List.length_filter_le _ _) (by rw [List.length_map]; exact hsl)
      have W : M42.WsOk ws sp := by
        rw [← ews]
        refine ⟨?_, fun x hx => of_decide_eq_true (List.mem_filter.mp hx).2, fun m => ?_, fun m => ?_⟩
        · exact List.Nodup.sublist (List.Sublist.map _ List.filter_sublist) Sh.nd
        · obtain ⟨y, hy, e⟩ := List.mem_map.mp m
          exact (hsp y (List.mem_filter.mp hy).1).1 e
        · obtain ⟨y, hy, e⟩ := List.mem_map.mp m
          exact (hsp y (List.mem_filter.mp hy).1).2 e
      walk_at "go"
      refine Go.g_lockE (a := aw) (kvs := wkOf ws) (by walk_at "hp") fun od => ?_
      walk_at "go"
      have b0 : Same H (upd (upd H1 ao (.lst [])) aw (.frz od (.dK (wkOf ws)))) := fun b o hb => by
        rw [upd_ne (ne_of_none hb haw), upd_ne (ne_of_none hb hao0)]
        exact s1 b o hb
      have bd : (upd (upd H1 ao (.lst [])) aw (.frz od (.dK (wkOf ws)))) ad = some (.dK fk) := by rw [upd_ne nwd.symm, upd_ne nad]; exact d1
      have bo : (upd (upd H1 ao (.lst [])) aw (.frz od (.dK (wkOf ws)))) ao = some (.lst []) := by rw [upd_ne naw.symm, upd_same]
      refine Go.c_keys fun D hD => ⟨fun i H' => Same (upd (upd H1 ao (.lst [])) aw (.frz od (.dK (wkOf ws)))) H' ∧ H' D = some (.lst ((((M42.ks ws).take i).filter fun t => decide (t ∉ M42.vs ws)).map V.int)), ⟨same_new hD, upd_same⟩, fun i H' _ h => h.1 _ _ upd_same, fun i k v H' hk h => ?_, fun H' h => ?_⟩
      · obtain ⟨sm, hd⟩ := h
        obtain ⟨x, hx, rfl⟩ := wk_at hk
        have hil : i < ws.length := (List.getElem?_eq_some_iff.mp hx).1
        have hd1 : H' ad = some (.dK fk) := sm _ _ bd
        have tk : (M42.ks ws).take (i + 1) = (M42.ks ws).take i ++ [x.1] := by
          rw [List.take_add_one, M42.ks, List.getElem?_map, hx]
          rfl
        dsimp only [L2.kV]
        walk_at "go"
        refine ⟨rfl, ?_⟩
        walk_at "go"
        refine Go.g_dnotin (.inl hd1) ?_
        walk_at "go"
        rw [di1 x.1, Option.isSome_map]
        have es : (srcF ws x.1).isSome = decide (x.1 ∈ M42.vs ws) := by
          unfold srcF
          by_cases h : x.1 ∈ M42.vs ws
          · rw [if_pos h, decide_eq_true h]; rfl
          · rw [if_neg h, decide_eq_false h]; rfl
        rw [es]
        refine Go.g_ndec (fun e => ?_) (fun e => ?_)
        · walk_at "go"
          refine ⟨_, hd, ?_, fun c o e => ?_, ?_⟩
          · rw [List.length_map]
            refine Nat.lt_of_le_of_lt (List.length_filter_le _ _) ?_
            rw [List.length_take, List.length_map]
            exact small1000 (by omega) |> fun h => Nat.lt_of_le_of_lt (Nat.le_refl _) h
          · rw [upd_ne (ne_of_none e hD)]
            exact sm c o e
          · rw [upd_same, tk, List.filter_append, List.map_append, List.filter_cons, if_pos (decide_eq_true e)]
            rfl
        · refine ⟨sm, ?_⟩
          rw [tk, List.filter_append, List.filter_cons, if_neg (by rw [decide_eq_true_iff]; exact fun h => h e)]
          rw [List.filter_nil, List.append_nil]
          exact hd
      · obtain ⟨sm, hd⟩ := h
        rw [List.take_of_length_le (by rw [List.length_map, wk_len]; exact Nat.le_refl _)] at hd
        have hD0 : H D = none := b0.free hD
        have nDo : D ≠ ao := fun z => by rw [z, bo] at hD; cases hD
        have nDw : D ≠ aw := fun z => by rw [z, upd_same] at hD; cases hD
        have nDd : D ≠ ad := fun z => by rw [z, bd] at hD; cases hD
        refine ⟨sm _ _ upd_same, ?_⟩
        have h3o : (upd H' aw (.dK (wkOf ws))) ao = some (.lst []) := by rw [upd_ne naw.symm]; exact sm _ _ bo
        have h3d : (upd H' aw (.dK (wkOf ws))) ad = some (.dK fk) := by rw [upd_ne nwd.symm]; exact sm _ _ bd
        have h3f : (upd H' aw (.dK (wkOf ws))) D = some (.lst (((M42.ks ws).filter fun t => decide (t ∉ M42.vs ws)).map V.int)) := by rw [upd_ne nDw]; exact hd
        have s3 : Same H (upd H' aw (.dK (wkOf ws))) := fun b o hb => by
          rw [upd_ne (ne_of_none hb haw)]
          exact sm _ _ (b0 b o hb)
        have h3w : (upd H' aw (.dK (wkOf ws))) aw = some (.dK (wkOf ws)) := upd_same
        generalize upd H' aw (.dK (wkOf ws)) = H3 at h3o h3d h3f s3 h3w
        walk_at "go"
        refine ⟨D, aw, ad, ao, ws, wkOf ws, sp, 0, [], srcF ws, (M42.ks ws).filter (fun t => decide (t ∉ M42.vs ws)), [], fk, rfl, nDo, nwd, W, di_wk ws, lws, by omega, by omega,
          ⟨h3f, h3w, h3d, ⟨h3o, fun _ h => (List.not_mem_nil h).elim⟩, fun _ _ e _ _ _ => e, di1, rfl, ?_, fun _ h => h, fun _ h => .inr h, fun _ h => h⟩, fun os F Dd fk' H4 J => ?_⟩
        · refine M42.PInv.start (fun s => rfl) (List.Nodup.sublist List.filter_sublist W.nd) fun t => ?_
          rw [List.mem_filter, decide_eq_true_iff]
        have s4 : Same H H4 := fun b o hb => J.b b o (s3 b o hb) (ne_of_none hb hD0) (ne_of_none hb had0) (ne_of_none hb hao0)
        have lD : ∀ {D : List Int} {os : List (Int × Int)} {F : Int → Option Int} {brk : Nat}, M42.PInv ws sp os F [] D brk → D.length ≤ ws.length := fun I => by
          have := M42.nodup_len I.dn I.dk
          rw [List.length_map] at this
          exact this
        have l4 := lD J.I
        have m4 := J.I.L
        rw [List.length_map] at m4
        have ho4 := J.o.l
        walk_at "go"
        refine firsts J.o (by omega) fun dn H5 hdn s5 d5 => ?_
        have w5 := s5 _ _ J.w
        walk_at "go"
        refine Go.g_listD w5 fun lw hlw => ?_
        rw [wk_keys]
        have s6 : Same H4 (upd H5 lw (.lst ((M42.ks ws).map V.int))) := s5.trans (same_new hlw)
        have j6 : JO H aw ad ao dn ws sp 0 os F Dd [] fk' (upd H5 lw (.lst ((M42.ks ws).map V.int))) := by
          refine ⟨s6 _ _ J.w, s6 _ _ J.d, ⟨s6 _ _ J.o.l, J.o.t.same s6⟩, same_new hlw _ _ d5, s4.trans s6, J.di, by rw [J.n]; omega, J.I, ⟨fun _ h => (List.not_mem_nil h).elim, fun _ h => (List.not_mem_nil h).elim, List.Pairwise.nil⟩, fun _ h => (List.not_mem_nil h).elim, fun s hs => ?_, Nat.le_refl _, fun t h => by simp at h, fun z => ?_⟩
          · have := J.s0 s hs
            unfold srcF at this
            split at this
            · rename_i hv
              have e := Option.some.inj this
              rw [e] at hv
              exact W.s2 hv
            · cases this
          · rw [z, ho4] at hdn
            cases hdn
        have hlw0 : H lw = none := (s4.trans s5).free hlw
        have nlo : lw ≠ ao := fun z => by
          have := s5 _ _ ho4
          rw [← z, hlw] at this
          cases this
        have h6 : (upd H5 lw (.lst ((M42.ks ws).map V.int))) lw = some (.lst ((M42.ks ws).map V.int)) := upd_same
        walk_at "go"
        generalize upd H5 lw (.lst ((M42.ks ws).map V.int)) = H6 at j6 h6
        refine Go.f_list (xs := (M42.ks ws).map V.int) (fun i σ H' => ∃ (os : Prs) (F : Int → Option Int) (Dd : List Int) (Bs : List (List Int)) (fk : List (Key × V)) (dn : Addr) (v8 : Option V), σ = [some (.ref l), some (.int sp), some (.ref aw), some (.ref ad), v4, v5, some (.ref ao), some (.ref dn), v8, none] ∧ JO H aw ad ao dn ws sp i os F Dd Bs fk H' ∧ H' lw = some (.lst ((M42.ks ws).map V.int)))
          ⟨os, F, Dd, [], fk', dn, none, rfl, j6, h6⟩ (fun i σ H' _ h => ?_) (fun i x σ H' hx h => ?_) (fun σ H' h => ?_)
        · obtain ⟨_, _, _, _, _, _, _, _, _, h⟩ := h
          exact SqL.of h
        · obtain ⟨os, F, Dd, Bs, fk, dn, v8, rfl, j, hw7⟩ := h
          obtain ⟨k, hk, rfl⟩ : ∃ k, (M42.ks ws)[i]? = some k ∧ x = V.int k := by
            rw [List.getElem?_map] at hx
            cases e : (M42.ks ws)[i]? with
            | none => rw [e] at hx; cases hx
            | some n => rw [e] at hx; exact ⟨n, rfl, (Option.some.inj hx).symm⟩
          have hil : i < ws.length := by
            have := (List.getElem?_eq_some_iff.mp hk).1
            rw [List.length_map] at this
            exact this
          have kk : k ∈ M42.ks ws := List.mem_of_getElem? hk
          have ksp : k ≠ sp := fun z => W.s1 (z ▸ kk)
          have tk : (M42.ks ws).take (i + 1) = (M42.ks ws).take i ++ [k] := by
            rw [List.take_add_one, hk]
            rfl
          have jo := j.o.l
          have jd := j.d
          have jw := j.w
          have lj := lD j.I
          have mj := j.I.L
          rw [List.length_map] at mj
          have bj := j.bi
          walk_at "go"
          refine Go.g_notInInts (.inl (SqL.of j.n)) ?_
          walk_at "go"
          refine Go.g_ndec (fun e => ?_) (fun e => ?_)
          · have kD : k ∉ Dd := fun z => e ((j.I.M k ksp).mpr z)
            have fk0 := j.I.K k kk kD List.not_mem_nil
            have pk : (putK fk (.inl k) (.int sp)).length = fk.length := putK_len (by rw [j.di k, fk0]; rfl)
            have jfn := j.fn
            walk_at "go"
            intro tp htp
            have ntw : tp ≠ aw := fun z => by rw [z, jw] at htp; cases htp
            have ntd : tp ≠ ad := fun z => by rw [z, jd] at htp; cases htp
            have nto : tp ≠ ao := fun z => by rw [z, jo] at htp; cases htp
            walk_at "go"
            refine Go.g_append (xs := refsOf os) (by walk_at "hp") (by rw [List.length_map]; omega) ?_
            walk_at "go"
            refine Go.g_dputI (kvs := fk) (by walk_at "hp") (by omega) ?_
            walk_at "go"
            intro nf hnf
            have hx : ∀ b o, H' b = some o → b ≠ ao → b ≠ ad → upd (upd (upd H' tp (.tup [.int sp, .int k])) ao (.lst (refsOf os ++ [.ref tp]))) ad (.dK (putK fk (.inl k) (.int sp))) b = some o := fun b o hb n1 n2 => by
              rw [upd_ne n2, upd_ne n1, upd_ne (ne_of_none hb htp)]
              exact hb
            have hxo : upd (upd (upd H' tp (.tup [.int sp, .int k])) ao (.lst (refsOf os ++ [.ref tp]))) ad (.dK (putK fk (.inl k) (.int sp))) ao = some (.lst (refsOf os ++ [.ref tp])) := by rw [upd_ne nad.symm, upd_same]
            have hxd : upd (upd (upd H' tp (.tup [.int sp, .int k])) ao (.lst (refsOf os ++ [.ref tp]))) ad (.dK (putK fk (.inl k) (.int sp))) ad = some (.dK (putK fk (.inl k) (.int sp))) := upd_same
            have hxt : upd (upd (upd H' tp (.tup [.int sp, .int k])) ao (.lst (refsOf os ++ [.ref tp]))) ad (.dK (putK fk (.inl k) (.int sp))) tp = some (.tup [.int sp, .int k]) := by rw [upd_ne ntd, upd_ne nto, upd_same]
            generalize upd (upd (upd H' tp (.tup [.int sp, .int k])) ao (.lst (refsOf os ++ [.ref tp]))) ad (.dK (putK fk (.inl k) (.int sp))) = Hx at hx hxo hxd hxt hnf
            have hxw := hx aw _ jw naw nwd
            have nfo : nf ≠ ao := fun z => by rw [z, hxo] at hnf; cases hnf
            have nfd : nf ≠ ad := fun z => by rw [z, hxd] at hnf; cases hnf
            have nfw : nf ≠ aw := fun z => by rw [z, hxw] at hnf; cases hnf
            have snf : Same Hx (upd Hx nf (.lst [.int k])) := same_new hnf
            have hnn : (upd Hx nf (.lst [.int k])) nf = some (.lst ([k].map V.int)) := upd_same
            have sx : Same H Hx := fun b o hb => hx b o (j.s b o hb) (ne_of_none hb hao0) (ne_of_none hb had0)
            have hnf0 : H nf = none := sx.free hnf
            have tyx : TupP Hx (os ++ [(tp, sp, k)]) := TupP.app (fun q hq => hx _ _ (j.o.t q hq) (ne_of (j.o.t q hq) jo (by intro z; cases z)) (ne_of (j.o.t q hq) jd (by intro z; cases z))) hxt
            have nwx := hx lw _ hw7 nlo (ne_of hw7 jd (by intro z; cases z))
            generalize upd Hx nf (.lst [.int k]) = Hn at snf hnn
            walk_at "go"
            refine ⟨nf, aw, ad, ao, ws, wkOf ws, sp, Bs.length + 1, os ++ [(tp, sp, k)], M42.updF F k sp, [k], Dd, putK fk (.inl k) (.int sp), rfl, nfo, nwd, W, di_wk ws, lws, by omega, by omega,
              ⟨hnn, snf _ _ hxw, snf _ _ hxd, ⟨by rw [refsOf, List.map_append]; exact snf _ _ hxo, tyx.same snf⟩, fun _ _ e _ _ _ => e, j.di.put k sp, rfl, by rw [ps_app]; exact j.I.break1 W kk kD j.sp, fun _ h => h, fun _ h => .inr h, fun _ h => h⟩, fun os' F' D' fk' H7 J7 => ?_⟩
            have kD' : k ∈ D' := (J7.f0 k (List.mem_singleton.mpr rfl)).resolve_right List.not_mem_nil
            obtain ⟨R1, R2, R3⟩ := M42.PInv.round W j.I kk kD j.sp J7.I J7.D0 kD' J7.s0
            have l7 := lD J7.I
            have m7 := J7.I.L
            rw [List.length_map] at m7
            have ho7 := J7.o.l
            walk_at "go"
            refine firsts J7.o (by omega) fun dn' H8 hdn' s8 d8 => ?_
            walk_at "go"
            have s7 : Same H H7 := fun b o hb => J7.b b o (snf _ _ (sx b o hb)) (ne_of_none hb hnf0) (ne_of_none hb had0) (ne_of_none hb hao0)
            have nwl : lw ≠ nf := fun z => by rw [z, hnf] at nwx; cases nwx
            refine ⟨os', F', D', Bs ++ [D'.filter fun t => decide (t ∉ Dd)], fk', dn', _, rfl, ⟨s8 _ _ J7.w, s8 _ _ J7.d, ⟨s8 _ _ J7.o.l, J7.o.t.same s8⟩, d8, s7.trans s8, J7.di, by rw [J7.n]; omega, by rw [List.length_append]; exact J7.I, ⟨?_, ?_, ?_⟩, ?_, R1, by rw [List.length_append]; simp only [List.length_cons, List.length_nil]; omega, ?_, ?_⟩, s8 _ _ (J7.b _ _ (snf _ _ nwx) nwl (ne_of nwx hxd (by intro z; cases z)) nlo)⟩
            · intro B hB
              rcases List.mem_append.mp hB with hB | hB
              · exact j.B.ne B hB
              · rw [List.mem_singleton] at hB
                subst hB
                exact ⟨k, R2⟩
            · intro B hB
              rcases List.mem_append.mp hB with hB | hB
              · exact j.B.cl B hB
              · rw [List.mem_singleton] at hB
                subst hB
                exact R3
            · refine List.pairwise_append.mpr ⟨j.B.dj, List.pairwise_singleton _ _, fun B hB B' hB' t ht ht' => ?_⟩
              rw [List.mem_singleton] at hB'
              subst hB'
              exact of_decide_eq_true (List.mem_filter.mp ht').2 (j.BD B hB t ht)
            · intro B hB t ht
              rcases List.mem_append.mp hB with hB | hB
              · exact J7.D0 t (j.BD B hB t ht)
              · rw [List.mem_singleton] at hB
                subst hB
                exact (List.mem_filter.mp ht).1
            · intro t ht
              rw [tk] at ht
              rcases List.mem_append.mp ht with ht | ht
              · exact J7.D0 t (j.al t ht)
              · rw [List.mem_singleton] at ht
                subst ht
                exact kD'
            · intro z
              rw [z, ho7] at hdn'
              cases hdn'
          · walk_at "go"
            have kD : k ∈ Dd := (j.I.M k ksp).mp e
            refine ⟨os, F, Dd, Bs, fk, dn, _, rfl, ⟨j.w, j.d, j.o, j.n, j.s, j.di, j.fn, j.I, j.B, j.BD, j.sp, by omega, fun t ht => ?_, j.nd⟩, hw7⟩
            rw [tk] at ht
            rcases List.mem_append.mp ht with ht | ht
            · exact j.al t ht
            · rw [List.mem_singleton] at ht
              subst ht
              exact kD
        · obtain ⟨os, F, Dd, Bs, fk, dn, v8, rfl, j, hw7⟩ := h
          walk_at "go"
          have lj := lD j.I
          have mj := j.I.L
          have bj := j.bi
          rw [List.length_map, List.length_map] at bj
          have al : ∀ t ∈ M42.ks ws, t ∈ Dd := fun t ht => j.al t (by rw [List.take_of_length_le (Nat.le_of_eq (List.length_map _).symm)]; exact ht)
          refine q ao os H' j.s hao0 j.o ⟨j.I.O, ⟨Bs, ?_, ?_⟩, fun t s hts => ?_, fun t h1 h2 => ?_, fun t h1 h2 => ?_, by omega, fun m => ?_⟩
          · rw [ews]
            exact j.B
          · rw [ews]
            omega
          · rw [ews] at hts
            exact j.I.B t (al t (M42.lk_key hts)) s hts
          · rw [ews] at h2
            exact j.I.C t (fun z => h2 (j.I.dk t z)) h1
          · rw [ews]
            exact j.I.dk t ((j.I.M t h1).mp h2)
          · obtain ⟨y, hy, e⟩ := List.mem_map.mp m
            exact (hsp y hy).1 e
end
end K42

namespace K42
open PySem L2
section
variable {P : Program} {w : World} {K : PySem.W.Frag} {mg : Str → Option Value} {base : Heap}
def spIsInt : Sp := fun vs H Q _ => ∃ n : Int, vs = [.int n] ∧ Q (.bl true) H
theorem ok_isInt (T : Txt K mg) : Go.Kept P w K mg base 1 "_law_is_integer" ["thing"] spIsInt := by
  have nd := scl_is_integer.nd
  refine T.d_l_is_integer.ok scl_is_integer (fun vs H Q E h => ?_) (fun f cdv A outer s H vs Q E hr h => ?_)
  · obtain ⟨n, rfl, _⟩ := h
    rfl
  · obtain ⟨n, rfl, q⟩ := h
    have hu := hu_of hr
    refine ⟨_, (pss_one (ps_ret (pe_and (pe_callB (Go.isi (K := K) rfl) (by rfl) T.m_isinstance (by decide +kernel) (pa_cons (pv 0) (pa_cons (pe_bltn (v := .ty "int") (by rfl) T.m_int (by decide +kernel) rfl) pa_nil))) (pe_one (pe_not (pe_callB (Go.isi (K := K) rfl) (by rfl) T.m_isinstance (by decide +kernel) (pa_cons (pv 0) (pa_cons (pe_bltn (v := .ty "bool") (by rfl) T.m_bool (by decide +kernel) rfl) pa_nil)))))))), ?_⟩
    walk_at "go0"
    walk_at "go"
    refine Go.g_isi (Go.ty_int n) (b := true) (by decide +kernel) ?_
    walk_at "go"
    refine Go.g_yes ?_
    walk_at "go"
    refine Go.g_isi (Go.ty_int n) (b := false) (by decide +kernel) ?_
    walk_at "go"
    exact q
/-! ### the count of cycles -/
def mkOf (met : List Int) : List (Key × V) := met.map fun m => (.inl m, .bl true)
theorem mk_some (met : List Int) (k : Int) : (valV (mkOf met) (.inl k)).isSome = decide (k ∈ met) := by
  rw [← valV_any, Bool.eq_iff_iff, List.any_eq_true, decide_eq_true_iff]
  unfold mkOf
  constructor
  · rintro ⟨x, hx, e⟩
    obtain ⟨m, hm, rfl⟩ := List.mem_map.mp hx
    have e' := of_decide_eq_true e
    exact Sum.inl.inj e' ▸ hm
  · intro h
    exact ⟨_, List.mem_map.mpr ⟨k, h, rfl⟩, by simp⟩
theorem mk_app (met : List Int) (k : Int) (h : k ∉ met) : putK (mkOf met) (.inl k) (.bl true) = mkOf (met ++ [k]) := by
  rw [putK_new]
  · unfold mkOf
    rw [List.map_append]
    rfl
  · have := mk_some met k
    rw [decide_eq_false h] at this
    cases e : valV (mkOf met) (.inl k) with
    | none => rfl
    | some x => rw [e] at this; cases this
/-- a dict's keys that are ints: a set of them -/
def Has (dk : List (Key × V)) (S : List Int) : Prop := ∀ k : Int, (valV dk (.inl k)).isSome = decide (k ∈ S)
theorem Has.put {dk : List (Key × V)} {S : List Int} (h : Has dk S) (k : Int) (v : V) : Has (putK dk (.inl k) v) (S ++ [k]) := fun j => by
  rw [valV_put]
  by_cases e : j = k
  · rw [if_pos (by rw [e]), decide_eq_true (by rw [e]; simp)]
    rfl
  · rw [if_neg fun z => e (Sum.inl.inj z), h j]
    congr 1
    simp [e]
/-- between two walks -/
structure JC (Hl : Hp) (dn : Addr) (ws : List (Int × Int)) (i : Nat) (done : List Int) (count : Nat) (dk : List (Key × V)) (H' : Hp) : Prop where
  s : ∀ b o, Hl b = some o → b ≠ dn → H' b = some o
  d : H' dn = some (.dK dk)
  h : Has dk done
  n : dk.length ≤ 50 * i
  I : M42.CInv ws done count
  al : ∀ t ∈ (M42.ks ws).take i, t ∈ done
def spCyc : Sp := fun vs H Q _ => ∃ (l : Addr) (qs : Prs), vs = [.ref l] ∧ LstP H l qs ∧ Shape qs.ps ∧ ∀ (n : Nat) (H' : Hp), Same H H' → (∀ Bs, M42.Blocks (oth qs.ps) Bs → Bs.length ≤ n) → Q (.int n) H'
theorem ok_cyc (T : Txt K mg) : Go.Kept P w K mg base 1 "_law_cycles" ["moves"] spCyc := by
  have nd := scl_cycles.nd
  refine T.d_l_cycles.ok scl_cycles (fun vs H Q E h => ?_) (fun f cdv A outer s H vs Q E hr h => ?_)
  · obtain ⟨l, qs, rfl, _⟩ := h
    rfl
  · obtain ⟨l, qs, rfl, L, Sh, q⟩ := h
    have hu := hu_of hr
    refine ⟨_, (pss_cons (ps_set (i := 1) nd rfl (.inl rfl) pe_dnewK)
        (pss_cons (ps_for PassesOwn.never rfl (pi_list (pv 0)) (pg_name (i := 2) nd rfl (.inl rfl))
        (pss_one (ps_if (pt_cmpR op_ne (pe_ix (Go.ixT (K := K) rfl) (pv 2) pe_int (fun _ _ => rfl)) (pe_ix (Go.ixT (K := K) rfl) (pv 2) pe_int (fun _ _ => rfl)) (nomark _))
        (pss_one (ps_dput hu (pv 1) (pe_ix (Go.ixT (K := K) rfl) (pv 2) pe_int (fun _ _ => rfl)) (pe_ix (Go.ixT (K := K) rfl) (pv 2) pe_int (fun _ _ => rfl)) rfl))
        pss_nil)))
        (pss_cons (ps_set (i := 3) nd rfl (.inl rfl) pe_int)
        (pss_cons (ps_set (i := 4) nd rfl (.inl rfl) pe_dnewK)
        (pss_cons (ps_lock (ps_for PassesOwn.never rfl (pi_keys (pv 1)) (pg_name (i := 5) nd rfl (.inl rfl))
        (pss_cons (ps_set (i := 6) nd rfl (.inl rfl) pe_dnewK)
        (pss_cons (ps_set (i := 7) nd rfl (.inl rfl) (pv 5))
        (C8.pss_cut (ps_for PassesOwn.never rfl (pi_range1 (by rfl) T.m_range (pa_cons (pe_op op_add (pe_callB Go.call_lenD (by rfl) T.m_len (by decide +kernel) (pa_cons (pv 1) pa_nil)) pe_int) pa_nil)) (pg_name (i := 8) nd rfl (.inl rfl))
        (pss_cons (ps_if (PW.pt (pw_or (pt_cmp (Go.pc_dnotin hu (pv 7) (pv 1))) (pw_or (pt_cmp (Go.pc_din hu (pv 7) (pv 4))) (pw_or1 (pt_cmp (Go.pc_din hu (pv 7) (pv 6)))))))
        (pss_one ps_break)
        pss_nil)
        (pss_cons (ps_dput hu (pv 6) (pv 7) pe_bl rfl)
        (pss_one (ps_set (i := 7) nd rfl (.inl rfl) (Go.pe_dget hu (pv 1) (pv 7) (fun _ _ => rfl)))))))
        (C8.pss_cut (ps_if (pt_cmp (Go.pc_din hu (pv 7) (pv 6)))
        (pss_one (ps_set (i := 3) nd rfl (.inl rfl) (pe_op op_add (pv 3) pe_int)))
        pss_nil)
        (pss_one (ps_lock (ps_for PassesOwn.never rfl (pi_keys (pv 6)) (pg_name (i := 9) nd rfl (.inl rfl))
        (pss_one (ps_dput hu (pv 4) (pv 9) pe_bl rfl)))))))))))
        (pss_one (ps_ret (pv 3)))))))), ?_⟩
    walk_at "go0"
    walk_at "go"
    intro aw haw
    have hl := L.l
    have nlw : l ≠ aw := ne_of_none hl haw
    have hsl := Sh.ln
    rw [List.length_map] at hsl
    walk_at "go"
    refine Go.f_list (xs := refsOf qs) (fun i σ H' => ∃ (v2 : Option V), σ = [some (.ref l), some (.ref aw), v2, none, none, none, none, none, none, none] ∧ Same H H' ∧ H' aw = some (.dK (wkOf (oth (qs.ps.take i)))))
      ⟨none, rfl, same_new haw, upd_same⟩ (fun i σ H' _ h => ?_) (fun i x σ H' hx h => ?_) (fun σ H1 h => ?_)
    · obtain ⟨_, _, s1, _⟩ := h
      exact SqL.of (s1 _ _ hl)
    · obtain ⟨v2, rfl, s1, w1⟩ := h
      obtain ⟨t0, ht0, rfl⟩ : ∃ t0, qs[i]? = some t0 ∧ x = V.ref t0.1 := by
        rw [List.getElem?_map] at hx
        cases e : qs[i]? with
        | none => rw [e] at hx; cases hx
        | some n => rw [e] at hx; exact ⟨n, rfl, (Option.some.inj hx).symm⟩
      have hil : i < qs.length := (List.getElem?_eq_some_iff.mp ht0).1
      have ht1 : H t0.1 = some (.tup [.int t0.2.1, .int t0.2.2]) := L.t t0 (List.mem_of_getElem? ht0)
      have ht : H' t0.1 = some (.tup [.int t0.2.1, .int t0.2.2]) := s1 _ _ ht1
      have tk : qs.ps.take (i + 1) = qs.ps.take i ++ [t0.2] := by
        rw [List.take_add_one, Prs.ps, List.getElem?_map, ht0]
        rfl
      walk_at "go"
      refine Go.g_ndec (fun e => ?_) (fun e => ?_)
      · have ne0 : t0.2.1 ≠ t0.2.2 := fun z => e (by rw [z])
        have fo : oth (qs.ps.take (i + 1)) = oth (qs.ps.take i) ++ [t0.2] := by
          rw [tk, oth, List.filter_append]
          congr 1
          rw [List.filter_cons, if_pos (show neP t0.2 = true from decide_eq_true ne0)]
          rfl
        have nk : t0.2.1 ∉ M42.ks (oth (qs.ps.take i)) := fun m => by
          obtain ⟨y, hy, ey⟩ := List.mem_map.mp m
          have hy' := (List.mem_filter.mp hy).1
          have nd1 := Sh.nd
          rw [← List.take_append_drop (i + 1) qs.ps, tk, List.map_append, List.map_append] at nd1
          have := (List.nodup_append.mp (List.nodup_append.mp nd1).1).2.2
          exact this y.1 (List.mem_map.mpr ⟨y, hy', rfl⟩) t0.2.1 (by simp) ey
        have lw : (wkOf (oth (qs.ps.take i))).length ≤ i := by
          rw [wk_len]
          exact Nat.le_trans (List.length_filter_le _ _) (by rw [List.length_take]; omega)
        walk_at "go"
        refine Go.g_dputI w1 (by omega) ?_
        refine ⟨_, rfl, fun b o hb => ?_, ?_⟩
        · have nbw : b ≠ aw := ne_of_none hb haw
          rw [upd_ne nbw]
          exact s1 b o hb
        · rw [upd_same, wk_app _ _ _ nk, fo]
      · have e0 : t0.2.1 = t0.2.2 := V.int.inj e
        have fo : oth (qs.ps.take (i + 1)) = oth (qs.ps.take i) := by
          rw [tk, oth, List.filter_append, List.filter_cons, if_neg (by unfold neP; simp [e0])]
          simp
        walk_at "go"
        exact ⟨_, rfl, s1, by rw [fo]; exact w1⟩
    · obtain ⟨v2, rfl, s1, w1⟩ := h
      rw [List.take_of_length_le (by rw [List.length_map, List.length_map]; exact Nat.le_refl _)] at w1
      generalize ews : oth qs.ps = ws at w1 q
      have lws : ws.length ≤ 47 := by
        rw [← ews]
        exact Nat.le_trans (List.length_filter_le _ _) (by rw [List.length_map]; exact hsl)
      walk_at "go"
      intro dn hdn
      have nwd : aw ≠ dn := ne_of_none w1 hdn
      have hdn0 : H dn = none := s1.free hdn
      walk_at "go"
      refine Go.g_lock (a := aw) (kvs := wkOf ws) (by walk_at "hp") fun od => ?_
      have hla : (upd (upd H1 dn (.dK [])) aw (.frz od (.dK (wkOf ws)))) aw = some (.frz od (.dK (wkOf ws))) := upd_same
      have hld : (upd (upd H1 dn (.dK [])) aw (.frz od (.dK (wkOf ws)))) dn = some (.dK []) := by rw [upd_ne nwd.symm, upd_same]
      have hls : Same H (upd (upd H1 dn (.dK [])) aw (.frz od (.dK (wkOf ws)))) := fun b o hb => by
        rw [upd_ne (ne_of_none hb haw), upd_ne (ne_of_none hb hdn0)]
        exact s1 b o hb
      walk_at "go"
      generalize upd (upd H1 dn (.dK [])) aw (.frz od (.dK (wkOf ws))) = Hl at hla hld hls
      have lwk := wk_len ws
      refine Go.f_keys (fun i σ H' => ∃ (done : List Int) (count : Nat) (dk : List (Key × V)) (v5 v6 v7 v8 v9 : Option V), σ = [some (.ref l), some (.ref aw), v2, some (.int count), some (.ref dn), v5, v6, v7, v8, v9] ∧ JC Hl dn ws i done count dk H')
        ⟨[], 0, [], none, none, none, none, none, rfl, ⟨fun _ _ e _ => e, hld, fun k => rfl, Nat.zero_le _, M42.CInv.start ws, fun t h => by simp at h⟩⟩ (fun i σ H' _ h => ?_) (fun i k v σ H' hk h => ?_) (fun σ H' h => ?_)
      · obtain ⟨_, _, _, _, _, _, _, _, _, j⟩ := h
        exact j.s _ _ hla nwd
      · obtain ⟨done, count, dk, v5, v6, v7, v8, v9, rfl, j⟩ := h
        obtain ⟨x, hx, rfl⟩ := wk_at hk
        have hil : i < ws.length := (List.getElem?_eq_some_iff.mp hx).1
        have xk : x.1 ∈ M42.ks ws := List.mem_map.mpr ⟨x, List.mem_of_getElem? hx, rfl⟩
        have ja := j.s _ _ hla nwd
        have jd := j.d
        have tk : (M42.ks ws).take (i + 1) = (M42.ks ws).take i ++ [x.1] := by
          rw [List.take_add_one, M42.ks, List.getElem?_map, hx]
          rfl
        dsimp only [L2.kV]
        walk_at "go"
        intro mt hmt
        have nma : mt ≠ aw := fun z => by rw [z, ja] at hmt; cases hmt
        have nmd : mt ≠ dn := fun z => by rw [z, jd] at hmt; cases hmt
        walk_at "go"
        refine ⟨fun σ H2 => ∃ (met : List Int) (place : Int) (v8 : Option V), σ = [some (.ref l), some (.ref aw), v2, some (.int count), some (.ref dn), some (.int x.1), some (.ref mt), some (.int place), v8, v9] ∧ Same H' H2 ∧ H2 mt = some (.dK (mkOf met)) ∧ M42.Chain ws met place ∧ (place ∉ M42.ks ws ∨ place ∈ done ∨ place ∈ met) ∧ met.length ≤ 48 ∧ (x.1 ∈ done ∨ x.1 ∈ met), ?_, fun σ H2 h => ?_⟩
        · have ja2 : (upd H' mt (.dK [])) aw = some (.frz od (.dK (wkOf ws))) := by rw [upd_ne nma.symm]; exact ja
          walk_at "go"
          refine Go.f_range (fun n σ H2 => ∃ (met : List Int) (place : Int) (v8 : Option V), σ = [some (.ref l), some (.ref aw), v2, some (.int count), some (.ref dn), some (.int x.1), some (.ref mt), some (.int place), v8, v9] ∧ Same H' H2 ∧ H2 mt = some (.dK (mkOf met)) ∧ M42.Chain ws met place ∧ met.length = n ∧ met.Nodup ∧ (∀ m ∈ met, m ∈ M42.ks ws) ∧ ((met = [] ∧ place = x.1) ∨ x.1 ∈ met))
            ⟨[], x.1, v8, rfl, same_new hmt, upd_same, M42.Chain.nil ws _, rfl, List.nodup_nil, fun _ h => (List.not_mem_nil h).elim, .inl ⟨rfl, rfl⟩⟩ (fun n σ H2 hn h => ?_) (fun σ H2 h => ?_)
          · obtain ⟨met, place, v8, rfl, s2, m2, C2, l2, n2, k2, f2⟩ := h
            have a2 := s2 _ _ ja
            have d2 := s2 _ _ jd
            have ml : met.length ≤ ws.length := by
              have := M42.nodup_len n2 k2
              rw [List.length_map] at this
              exact this
            walk_at "go"
            refine Go.g_dnotin (.inr ⟨od, a2⟩) ?_
            walk_at "go"
            rw [di_wk ws place, Option.isSome_map]
            refine Go.g_nbool (fun e => ?_) (fun e => ?_)
            · refine Go.g_yes ?_
              walk_at "go"
              refine ⟨met, place, _, rfl, s2, m2, C2, .inl fun z => ?_, by omega, ?_⟩
              · obtain ⟨y, hy⟩ := M42.lk_some z
                rw [hy] at e
                cases e
              · rcases f2 with ⟨_, f2⟩ | f2
                · obtain ⟨y, hy⟩ := M42.lk_some xk
                  rw [f2, hy] at e
                  cases e
                · exact .inr f2
            · obtain ⟨s, hs⟩ := Option.isSome_iff_exists.mp e
              walk_at "go"
              refine Go.g_din (.inl d2) ?_
              walk_at "go"
              rw [j.h place]
              refine Go.g_dec (fun e2 => ?_) (fun e2 => ?_)
              · refine Go.g_yes ?_
                walk_at "go"
                refine ⟨met, place, _, rfl, s2, m2, C2, .inr (.inl e2), by omega, ?_⟩
                rcases f2 with ⟨_, f2⟩ | f2
                · exact .inl (f2 ▸ e2)
                · exact .inr f2
              · walk_at "go"
                refine Go.g_din (.inl m2) ?_
                walk_at "go"
                rw [mk_some met place]
                refine Go.g_dec (fun e3 => ?_) (fun e3 => ?_)
                · walk_at "go"
                  refine ⟨met, place, _, rfl, s2, m2, C2, .inr (.inr e3), by omega, ?_⟩
                  rcases f2 with ⟨f1, f2⟩ | f2
                  · rw [f1] at e3
                    exact (List.not_mem_nil e3).elim
                  · exact .inr f2
                · have lm : (mkOf met).length = met.length := List.length_map _
                  have am : aw ≠ mt := nma.symm
                  walk_at "go"
                  refine Go.g_dputI m2 (by omega) ?_
                  walk_at "go"
                  refine Go.g_dget (kvs := wkOf ws) (v := .int s) (.inr ⟨od, by walk_at "hp"⟩) (by rw [di_wk ws place, hs]; rfl) ?_
                  walk_at "go"
                  refine ⟨met ++ [place], s, _, rfl, fun b o hb => ?_, ?_, C2.snoc hs, by rw [List.length_append, l2]; rfl, ?_, ?_, ?_⟩
                  · rw [upd_ne (ne_of_none hb hmt)]
                    exact s2 b o hb
                  · rw [upd_same, mk_app met place e3]
                  · exact List.nodup_append.mpr ⟨n2, List.nodup_cons.mpr ⟨List.not_mem_nil, List.nodup_nil⟩, fun a ha b hb z => by
                      rw [List.mem_singleton] at hb
                      exact e3 (hb ▸ z ▸ ha)⟩
                  · intro m hm
                    rcases List.mem_append.mp hm with hm | hm
                    · exact k2 m hm
                    · rw [List.mem_singleton] at hm
                      rw [hm]
                      exact M42.lk_key hs
                  · refine .inr ?_
                    rcases f2 with ⟨_, f2⟩ | f2
                    · rw [f2]
                      exact List.mem_append_right _ (List.mem_singleton.mpr rfl)
                    · exact List.mem_append_left _ f2
          · obtain ⟨met, place, v8, rfl, s2, m2, C2, l2, n2, k2, f2⟩ := h
            have := M42.nodup_len n2 k2
            rw [List.length_map] at this
            omega
        · obtain ⟨met, place, v8, rfl, s2, m2, C2, e2, l2, f2⟩ := h
          refine ⟨fun σ H3 => ∃ c : Nat, σ = [some (.ref l), some (.ref aw), v2, some (.int c), some (.ref dn), some (.int x.1), some (.ref mt), some (.int place), v8, v9] ∧ H3 = H2 ∧ c = if place ∈ met then count + 1 else count, ?_, fun σ H3 h => ?_⟩
          · walk_at "go"
            refine Go.g_din (.inl m2) ?_
            walk_at "go"
            rw [mk_some met place]
            refine Go.g_dec (fun e3 => ?_) (fun e3 => ?_)
            · walk_at "go"
              exact ⟨count + 1, rfl, rfl, by rw [if_pos e3]⟩
            · walk_at "go"
              exact ⟨count, rfl, rfl, by rw [if_neg e3]⟩
          · obtain ⟨c, rfl, rfl, hc⟩ := h
            have d2 := s2 _ _ jd
            refine Go.g_lock m2 fun od2 => ?_
            have m3 : (upd H3 mt (.frz od2 (.dK (mkOf met)))) mt = some (.frz od2 (.dK (mkOf met))) := upd_same
            have d3 : (upd H3 mt (.frz od2 (.dK (mkOf met)))) dn = some (.dK dk) := by rw [upd_ne nmd.symm]; exact d2
            have jn := j.n
            walk_at "go"
            refine Go.f_keys (fun n σ H4 => ∃ (dk' : List (Key × V)) (v9 : Option V), σ = [some (.ref l), some (.ref aw), v2, some (.int c), some (.ref dn), some (.int x.1), some (.ref mt), some (.int place), v8, v9] ∧ (∀ b o, upd H3 mt (.frz od2 (.dK (mkOf met))) b = some o → b ≠ dn → H4 b = some o) ∧ H4 dn = some (.dK dk') ∧ Has dk' (done ++ met.take n) ∧ dk'.length ≤ dk.length + n)
              ⟨dk, v9, rfl, fun _ _ e _ => e, d3, by rw [List.take_zero, List.append_nil]; exact j.h, Nat.le_refl _⟩ (fun n σ H4 _ h => ?_) (fun n k v σ H4 hk h => ?_) (fun σ H4 h => ?_)
            · obtain ⟨_, _, _, s4, _⟩ := h
              exact s4 _ _ m3 nmd
            · obtain ⟨dk', v9, rfl, s4, d4, h4, l4⟩ := h
              obtain ⟨m, hm, rfl⟩ : ∃ m, met[n]? = some m ∧ k = .inl m := by
                unfold mkOf at hk
                rw [List.getElem?_map] at hk
                cases e : met[n]? with
                | none => rw [e] at hk; cases hk
                | some m =>
                  rw [e] at hk
                  exact ⟨m, rfl, (congrArg Prod.fst (Option.some.inj hk)).symm⟩
              have hnl : n < met.length := (List.getElem?_eq_some_iff.mp hm).1
              have pl := putK_le dk' (.inl m) (.bl true)
              dsimp only [L2.kV]
              walk_at "go"
              refine Go.g_dputI d4 (by omega) ?_
              refine ⟨_, _, rfl, fun b o hb nb => ?_, upd_same, ?_, by omega⟩
              · rw [upd_ne nb]
                exact s4 b o hb nb
              · rw [List.take_add_one, hm, ← List.append_assoc]
                exact h4.put m (.bl true)
            · obtain ⟨dk', v9, rfl, s4, d4, h4, l4⟩ := h
              rw [show (mkOf met).length = met.length from List.length_map _] at h4 l4
              rw [List.take_length] at h4
              refine ⟨s4 _ _ m3 nmd, done ++ met, c, dk', _, _, _, _, _, rfl, fun b o hb nb => ?_, by rw [upd_ne nmd.symm]; exact d4, h4, by omega, j.I.turn C2 e2 hc, fun t ht => ?_⟩
              · have h5 := s2 _ _ (j.s b o hb nb)
                have nbm : b ≠ mt := fun z => by
                  have := j.s b o hb nb
                  rw [z, hmt] at this
                  cases this
                rw [upd_ne nbm]
                exact s4 b o (by rw [upd_ne nbm]; exact h5) nb
              · rw [tk] at ht
                rcases List.mem_append.mp ht with ht | ht
                · exact List.mem_append_left _ (j.al t ht)
                · rw [List.mem_singleton] at ht
                  subst ht
                  rcases f2 with f2 | f2
                  · exact List.mem_append_left _ f2
                  · exact List.mem_append_right _ f2
      · obtain ⟨done, count, dk, v5, v6, v7, v8, v9, rfl, j⟩ := h
        refine ⟨j.s _ _ hla nwd, ?_⟩
        walk_at "go"
        refine q count _ (fun b o hb => ?_) fun Bs hB => j.I.all (fun t ht => j.al t (by rw [List.take_of_length_le (by rw [lwk, List.length_map]; exact Nat.le_refl _)]; exact ht)) hB
        rw [upd_ne (ne_of_none hb haw)]
        exact j.s b o (hls b o hb) (ne_of_none hb hdn0)
end
end K42

namespace K42
open PySem L2
section
variable {P : Program} {w : World} {K : PySem.W.Frag} {mg : Str → Option Value} {base : Heap}
/-! ### what is asked of the moves told -/
/-- all keys are ints -/
def IK (kvs : List (Key × V)) : Prop := ∀ kv ∈ kvs, ∃ p : Int, kv.1 = .inl p
theorem IK.put {kvs : List (Key × V)} (h : IK kvs) (k : Int) (v : V) : IK (putK kvs (.inl k) v) := by
  unfold putK
  split
  · intro kv hkv
    obtain ⟨x, hx, rfl⟩ := List.mem_map.mp hkv
    by_cases e : x.1 = .inl k
    · rw [if_pos e]
      exact ⟨k, e⟩
    · rw [if_neg e]
      exact h x hx
  · intro kv hkv
    rcases List.mem_append.mp hkv with h1 | h1
    · exact h kv h1
    · rw [List.mem_singleton] at h1
      subst h1
      exact ⟨k, rfl⟩
theorem IK.at {kvs : List (Key × V)} (h : IK kvs) {i : Nat} {k : Key} {v : V} (e : kvs[i]? = some (k, v)) : ∃ p : Int, k = .inl p ∧ (valV kvs (.inl p)).isSome = true := by
  have hm := List.mem_of_getElem? e
  obtain ⟨p, hp⟩ := h _ hm
  refine ⟨p, hp, ?_⟩
  rw [← valV_any, List.any_eq_true]
  exact ⟨(k, v), hm, decide_eq_true hp⟩
/-- what the dict of the contents says behind some moves -/
def heldF (os : List (Int × Int)) : Int → Option Int := fun p => if p ∈ os.map (·.1) then some (M42.exec os p) else none
theorem held_get (os : List (Int × Int)) (p : Int) : ((heldF os p).map V.int).getD (.int p) = .int (M42.exec os p) := by
  unfold heldF
  by_cases h : p ∈ os.map (·.1)
  · rw [if_pos h]; rfl
  · rw [if_neg h, M42.exec_out os p h]; rfl
theorem held_app (os : List (Int × Int)) (t a : Int) : M42.updF (heldF os) t (M42.exec os a) = heldF (os ++ [(t, a)]) := by
  funext p
  unfold M42.updF heldF
  rw [List.map_append, M42.exec_app]
  by_cases e : p = t
  · rw [if_pos e, if_pos (by rw [e]; simp), if_pos e]
  · rw [if_neg e, if_neg e]
    by_cases h : p ∈ os.map (·.1)
    · rw [if_pos h, if_pos (List.mem_append_left _ h)]
    · rw [if_neg h, if_neg]
      intro z
      rcases List.mem_append.mp z with z | z
      · exact h z
      · exact e (by simpa using z)
theorem lk_app (ps : List (Int × Int)) (t a : Int) (h : t ∉ M42.ks ps) : M42.updF (M42.lk ps) t a = M42.lk (ps ++ [(t, a)]) := by
  funext p
  unfold M42.updF M42.lk
  rw [List.find?_append]
  by_cases e : p = t
  · subst e
    have h0 := M42.lk_none.mpr h
    unfold M42.lk at h0
    rw [Option.map_eq_none_iff] at h0
    rw [if_pos rfl, h0]
    simp
  · rw [if_neg e]
    have : List.find? (fun x => x.1 == p) [(t, a)] = none := by simp [Ne.symm e]
    rw [this, Option.or_none]
theorem lk_oth {ps : List (Int × Int)} (nd : (M42.ks ps).Nodup) {t s : Int} (h : M42.lk ps t = some s) : (t ≠ s → M42.lk (oth ps) t = some s) ∧ (t = s → t ∉ M42.ks (oth ps)) := by
  have hm := M42.lk_mem h
  have nd2 : (M42.ks (oth ps)).Nodup := List.Nodup.sublist (List.Sublist.map _ List.filter_sublist) nd
  refine ⟨fun ne => M42.lk_of nd2 (List.mem_filter.mpr ⟨hm, decide_eq_true ne⟩), fun e m => ?_⟩
  obtain ⟨y, hy⟩ := M42.lk_some m
  have hy2 := List.mem_filter.mp (M42.lk_mem hy)
  have := M42.lk_of nd hy2.1
  rw [h] at this
  have e2 := Option.some.inj this
  have ne : t ≠ y := of_decide_eq_true hy2.2
  exact ne (e.trans e2)
def spMoved : Sp := fun vs H Q _ => ∃ (l t : Addr) (qs os : Prs) (sp : Int), vs = [.ref l, .int sp, .ref t] ∧ LstP H l qs ∧ LstP H t os ∧ Shape qs.ps ∧ Told qs.ps sp os.ps ∧ ∀ (H' : Hp), Same H H' → Q (.bl true) H'
theorem ok_moved (T : Txt K mg) : Go.Kept P w K mg base 2 "_law_moved" ["moves", "spare", "told"] spMoved := by
  have nd := scl_moved.nd
  have G_law_is_integer : Go.Kept P w K mg base 1 "_law_is_integer" ["thing"] spIsInt := ok_isInt T
  have G_law_cycles : Go.Kept P w K mg base 1 "_law_cycles" ["moves"] spCyc := ok_cyc T
  refine T.d_l_moved.ok scl_moved (fun vs H Q E h => ?_) (fun f cdv A outer s H vs Q E hr h => ?_)
  · obtain ⟨l, t, qs, os, sp, rfl, _⟩ := h
    rfl
  · obtain ⟨l, t, qs, os, sp, rfl, L, O, Sh, Td, q⟩ := h
    have hu := hu_of hr
    refine ⟨_, (pss_cons (ps_setLc (i := 4) (own := [("pair", 3)]) (g := gName 3) rfl nd rfl rfl (sw_true rfl rfl rfl (by decide +kernel)) (pi_list (pv 0)) (blkOk_by (own := [("pair", 3)]) (N := nl_moved) (sc := defScope sl_moved) (by decide +kernel)) (fun _ _ _ _ _ => pg_name (i := 3) nd rfl (Or.inl rfl)) (fun _ _ _ _ _ => pts_one (pt_cmpR op_ne (pe_ix (Go.ixT (K := K) rfl) (pv 3) pe_int (fun _ _ => rfl)) (pe_ix (Go.ixT (K := K) rfl) (pv 3) pe_int (fun _ _ => rfl)) (nomark _))) (fun _ _ _ _ _ => (pv 3)))
        (pss_cons (ps_if (pt_cmpR op_gt (pe_callB (Go.lenSeq (K := K) rfl) (by rfl) T.m_len (by decide +kernel) (pa_cons (pv 2) pa_nil)) (pe_op op_add (pe_callB (Go.lenSeq (K := K) rfl) (by rfl) T.m_len (by decide +kernel) (pa_cons (pv 4) pa_nil)) (Go.call G_law_cycles hr (pa_cons (pv 0) pa_nil))) (nomark _))
        (pss_one (ps_ret pe_bl))
        pss_nil)
        (pss_cons (ps_set (i := 5) nd rfl (.inl rfl) pe_dnewK)
        (pss_cons (ps_for PassesOwn.never rfl (pi_list (pv 2)) (pg_name (i := 3) nd rfl (.inl rfl))
        (pss_cons (ps_if (PW.pt (pw_or (pt_not (pt_val (pe_callB (Go.isi (K := K) rfl) (by rfl) T.m_isinstance (by decide +kernel) (pa_cons (pv 3) (pa_cons (pe_bltn (v := .ty "tuple") (by rfl) T.m_tuple (by decide +kernel) rfl) pa_nil))))) (pw_or1 (pt_cmpR op_ne (pe_callB (Go.lenSeq (K := K) rfl) (by rfl) T.m_len (by decide +kernel) (pa_cons (pv 3) pa_nil)) pe_int (nomark _)))))
        (pss_one (ps_ret pe_bl))
        pss_nil)
        (pss_cons (ps_if (PW.pt (pw_or (pt_not (pt_val (Go.call G_law_is_integer hr (pa_cons (pe_ix (Go.ixT (K := K) rfl) (pv 3) pe_int (fun _ _ => rfl)) pa_nil)))) (pw_or (pt_not (pt_val (Go.call G_law_is_integer hr (pa_cons (pe_ix (Go.ixT (K := K) rfl) (pv 3) pe_int (fun _ _ => rfl)) pa_nil)))) (pw_or1 (pt_cmpR op_eq (pe_ix (Go.ixT (K := K) rfl) (pv 3) pe_int (fun _ _ => rfl)) (pe_ix (Go.ixT (K := K) rfl) (pv 3) pe_int (fun _ _ => rfl)) (nomark _))))))
        (pss_one (ps_ret pe_bl))
        pss_nil)
        (pss_one (ps_dput hu (pv 5) (pe_ix (Go.ixT (K := K) rfl) (pv 3) pe_int (fun _ _ => rfl)) (Go.pe_dget2 hu (pv 5) (pe_ix (Go.ixT (K := K) rfl) (pv 3) pe_int (fun _ _ => rfl)) (pe_ix (Go.ixT (K := K) rfl) (pv 3) pe_int (fun _ _ => rfl)) ⟨by rfl, by rfl, by rfl, by rfl⟩) rfl)))))
        (pss_cons (ps_set (i := 6) nd rfl (.inl rfl) pe_dnewK)
        (pss_cons (ps_for PassesOwn.never rfl (pi_list (pv 0)) (pg_name (i := 3) nd rfl (.inl rfl))
        (pss_one (ps_dput hu (pv 6) (pe_ix (Go.ixT (K := K) rfl) (pv 3) pe_int (fun _ _ => rfl)) (pe_ix (Go.ixT (K := K) rfl) (pv 3) pe_int (fun _ _ => rfl)) rfl)))
        (pss_cons (ps_lock (ps_for PassesOwn.never rfl (pi_keys (pv 5)) (pg_name (i := 7) nd rfl (.inl rfl))
        (pss_one (ps_if (PW.pt (pw_and (pt_cmpR op_ne (pv 7) (pv 1) (nomark _)) (pw_and1 (pt_cmpR op_ne (Go.pe_dget hu (pv 5) (pv 7) (fun _ _ => rfl)) (Go.pe_dget2 hu (pv 6) (pv 7) (pv 7) ⟨by rfl, by rfl, by rfl, by rfl⟩) (nomark _)))))
        (pss_one (ps_ret pe_bl))
        pss_nil))))
        (pss_cons (ps_lock (ps_for PassesOwn.never rfl (pi_keys (pv 6)) (pg_name (i := 7) nd rfl (.inl rfl))
        (pss_one (ps_if (pt_cmpR op_ne (Go.pe_dget2 hu (pv 5) (pv 7) (pv 7) ⟨by rfl, by rfl, by rfl, by rfl⟩) (Go.pe_dget hu (pv 6) (pv 7) (fun _ _ => rfl)) (nomark _))
        (pss_one (ps_ret pe_bl))
        pss_nil))))
        (pss_one (ps_ret pe_bl)))))))))), ?_⟩
    walk_at "go0"
    have hl := L.l
    have ho := O.l
    have hsl := Sh.ln
    rw [List.length_map] at hsl
    have hol := Td.ln
    rw [List.length_map] at hol
    walk_at "go"
    refine Go.c_list (xs := refsOf qs) fun D hD => ⟨fun i H' => Same H H' ∧ H' D = some (.lst (refsOf ((qs.take i).filter fun q => neP q.2))), ⟨same_new hD, upd_same⟩, fun i H' _ h => SqL.of (h.1 _ _ hl), fun i x H' hx h => ?_, fun H1 h => ?_⟩
    · obtain ⟨sm, hd⟩ := h
      obtain ⟨t0, ht0, rfl⟩ : ∃ t0, qs[i]? = some t0 ∧ x = V.ref t0.1 := by
        rw [List.getElem?_map] at hx
        cases e : qs[i]? with
        | none => rw [e] at hx; cases hx
        | some n => rw [e] at hx; exact ⟨n, rfl, (Option.some.inj hx).symm⟩
      have hil : i < qs.length := (List.getElem?_eq_some_iff.mp ht0).1
      have ht : H' t0.1 = some (.tup [.int t0.2.1, .int t0.2.2]) := sm _ _ (L.t t0 (List.mem_of_getElem? ht0))
      walk_at "gg"
      refine ⟨rfl, ?_⟩
      walk_at "gg"
      refine Go.g_ndec (fun e => ?_) (fun e => ?_)
      · have ne0 : neP t0.2 = true := decide_eq_true fun z => e (by rw [z])
        walk_at "gg"
        refine ⟨_, hd, ?_, fun c o e => ?_, ?_⟩
        · rw [List.length_map]
          refine Nat.lt_of_le_of_lt (List.length_filter_le _ _) ?_
          rw [List.length_take]
          exact small1000 (by omega) |> fun h => Nat.lt_of_le_of_lt (Nat.le_refl _) h
        · rw [upd_ne (ne_of_none e hD)]
          exact sm c o e
        · rw [upd_same, List.take_add_one, ht0, List.filter_append, refsOf, refsOf, List.map_append]
          show _ = some (HO.lst (_ ++ List.map _ (List.filter _ [t0])))
          rw [List.filter_cons, if_pos ne0]
          rfl
      · have ne0 : ¬ neP t0.2 = true := fun z => of_decide_eq_true z (V.int.inj e)
        refine ⟨sm, ?_⟩
        rw [List.take_add_one, ht0, List.filter_append]
        show _ = some (HO.lst (refsOf (_ ++ List.filter _ [t0])))
        rw [List.filter_cons, if_neg ne0, List.filter_nil, List.append_nil]
        exact hd
    · obtain ⟨s1, hd1⟩ := h
      rw [List.take_of_length_le (by rw [List.length_map]; exact Nat.le_refl _)] at hd1
      have lo : (refsOf (qs.filter fun q => neP q.2)).length = (oth qs.ps).length := by
        rw [List.length_map, oth, Prs.ps, List.filter_map, List.length_map]
        rfl
      have ho1 := s1 _ _ ho
      have hl1 := s1 _ _ hl
      walk_at "gg"
      refine ⟨l, qs, rfl, ⟨hl1, L.t.same s1⟩, Sh, fun n H2 s2 hn => ?_⟩
      obtain ⟨Bs, hB, hc⟩ := Td.ct
      have hn2 := hn Bs hB
      rw [List.length_map] at hc
      walk_at "gg"
      refine Go.g_dec (fun e => ?_) (fun _ => ?_)
      · exfalso
        rw [lo, List.length_map] at e
        omega
      have s3 : Same H H2 := s1.trans s2
      walk_at "gg"
      intro hd hhd
      have nhd0 : H hd = none := s3.free hhd
      have ho2 : (upd H2 hd (.dK [])) t = some (.lst (refsOf os)) := same_new hhd _ _ (s3 _ _ ho)
      walk_at "gg"
      refine Go.f_list (xs := refsOf os) (fun i σ H' => ∃ (hk : List (Key × V)) (v3 : Option V), σ = [some (.ref l), some (.int sp), some (.ref t), v3, some (.ref D), some (.ref hd), none, none] ∧ Same H H' ∧ H' hd = some (.dK hk) ∧ DI hk (heldF (os.ps.take i)) ∧ IK hk ∧ hk.length ≤ i)
        ⟨[], none, rfl, s3.trans (same_new hhd), upd_same, fun k => rfl, fun _ h => (List.not_mem_nil h).elim, Nat.le_refl _⟩ (fun i σ H' _ h => ?_) (fun i x σ H' hx h => ?_) (fun σ H3 h => ?_)
      · obtain ⟨_, _, _, s, _⟩ := h
        exact SqL.of (s _ _ ho)
      · obtain ⟨hk, v3, rfl, s4, h4, di4, ik4, n4⟩ := h
        obtain ⟨t0, ht0, rfl⟩ : ∃ t0, os[i]? = some t0 ∧ x = V.ref t0.1 := by
          rw [List.getElem?_map] at hx
          cases e : os[i]? with
          | none => rw [e] at hx; cases hx
          | some n => rw [e] at hx; exact ⟨n, rfl, (Option.some.inj hx).symm⟩
        have hil : i < os.length := (List.getElem?_eq_some_iff.mp ht0).1
        have ht : H' t0.1 = some (.tup [.int t0.2.1, .int t0.2.2]) := s4 _ _ (O.t t0 (List.mem_of_getElem? ht0))
        have ne0 : t0.2.1 ≠ t0.2.2 := Td.ne t0.2 (List.mem_map.mpr ⟨t0, List.mem_of_getElem? ht0, rfl⟩)
        walk_at "gg"
        refine Go.g_isi (Go.ty_tup ht) (b := true) (by decide +kernel) ?_
        walk_at "gg"
        refine Go.g_ndec (fun e => ?_) (fun _ => ?_)
        · exact absurd rfl e
        walk_at "gg"
        refine ⟨_, rfl, ?_⟩
        walk_at "gg"
        refine ⟨_, rfl, ?_⟩
        walk_at "gg"
        refine Go.g_dec (fun e => ?_) (fun _ => ?_)
        · exact absurd (V.int.inj e) ne0
        walk_at "gg"
        rw [di4 t0.2.2, held_get]
        have tk : os.ps.take (i + 1) = os.ps.take i ++ [(t0.2.1, t0.2.2)] := by
          rw [List.take_add_one, Prs.ps, List.getElem?_map, ht0]
          rfl
        have pl := putK_le hk (.inl t0.2.1) (.int (M42.exec (os.ps.take i) t0.2.2))
        refine ⟨_, _, rfl, fun b o hb => ?_, upd_same, ?_, ik4.put _ _, by omega⟩
        · rw [upd_ne (ne_of_none hb nhd0)]
          exact s4 b o hb
        · rw [tk, ← held_app]
          exact di4.put _ _
      · obtain ⟨hk, v3, rfl, s4, h4, di4, ik4, n4⟩ := h
        rw [List.take_of_length_le (by rw [List.length_map, List.length_map]; exact Nat.le_refl _)] at di4
        rw [List.length_map] at n4
        walk_at "gg"
        intro dd hdd
        have ndd0 : H dd = none := s4.free hdd
        have nhd : hd ≠ dd := ne_of_none h4 hdd
        have hl4 : (upd H3 dd (.dK [])) l = some (.lst (refsOf qs)) := same_new hdd _ _ (s4 _ _ hl)
        walk_at "gg"
        refine Go.f_list (xs := refsOf qs) (fun i σ H' => ∃ (dk : List (Key × V)) (v3 : Option V), σ = [some (.ref l), some (.int sp), some (.ref t), v3, some (.ref D), some (.ref hd), some (.ref dd), none] ∧ Same H H' ∧ H' hd = some (.dK hk) ∧ H' dd = some (.dK dk) ∧ DI dk (M42.lk (qs.ps.take i)) ∧ IK dk ∧ dk.length ≤ i)
          ⟨[], v3, rfl, s4.trans (same_new hdd), same_new hdd _ _ h4, upd_same, fun k => rfl, fun _ h => (List.not_mem_nil h).elim, Nat.le_refl _⟩ (fun i σ H' _ h => ?_) (fun i x σ H' hx h => ?_) (fun σ H4 h => ?_)
        · obtain ⟨_, _, _, s, _⟩ := h
          exact SqL.of (s _ _ hl)
        · obtain ⟨dk, v3, rfl, s5, h5, d5, di5, ik5, n5⟩ := h
          obtain ⟨t0, ht0, rfl⟩ : ∃ t0, qs[i]? = some t0 ∧ x = V.ref t0.1 := by
            rw [List.getElem?_map] at hx
            cases e : qs[i]? with
            | none => rw [e] at hx; cases hx
            | some n => rw [e] at hx; exact ⟨n, rfl, (Option.some.inj hx).symm⟩
          have hil : i < qs.length := (List.getElem?_eq_some_iff.mp ht0).1
          have ht : H' t0.1 = some (.tup [.int t0.2.1, .int t0.2.2]) := s5 _ _ (L.t t0 (List.mem_of_getElem? ht0))
          have tk : qs.ps.take (i + 1) = qs.ps.take i ++ [(t0.2.1, t0.2.2)] := by
            rw [List.take_add_one, Prs.ps, List.getElem?_map, ht0]
            rfl
          have nk : t0.2.1 ∉ M42.ks (qs.ps.take i) := fun m => by
            have nd1 := Sh.nd
            rw [← List.take_append_drop (i + 1) qs.ps, tk, List.map_append, List.map_append] at nd1
            have := (List.nodup_append.mp (List.nodup_append.mp nd1).1).2.2
            exact this t0.2.1 m t0.2.1 (by simp) rfl
          have pl := putK_le dk (.inl t0.2.1) (.int t0.2.2)
          walk_at "gg"
          refine ⟨_, _, rfl, fun b o hb => ?_, ?_, upd_same, ?_, ik5.put _ _, by omega⟩
          · rw [upd_ne (ne_of_none hb ndd0)]
            exact s5 b o hb
          · rw [upd_ne nhd]
            exact h5
          · rw [tk, ← lk_app _ _ _ nk]
            exact di5.put _ _
        · obtain ⟨dk, v3, rfl, s5, h5, d5, di5, ik5, n5⟩ := h
          rw [List.take_of_length_le (by rw [List.length_map, List.length_map]; exact Nat.le_refl _)] at di5
          have ndh : dd ≠ hd := nhd.symm
          have hold : ∀ p : Int, (valV hk (.inl p)).isSome = true → valV hk (.inl p) = some (.int (M42.exec os.ps p)) ∧ p ∈ os.ps.map (·.1) := fun p hp => by
            have h1 := di4 p
            unfold heldF at h1
            by_cases h : p ∈ os.ps.map (·.1)
            · rw [if_pos h] at h1
              exact ⟨h1, h⟩
            · rw [if_neg h] at h1
              rw [h1] at hp
              cases hp
          have nd2 := Sh.nd
          walk_at "gg"
          refine Go.g_lock h5 fun od => ?_
          have e1 : (upd H4 hd (.frz od (.dK hk))) hd = some (.frz od (.dK hk)) := upd_same
          have e2 : (upd H4 hd (.frz od (.dK hk))) dd = some (.dK dk) := by rw [upd_ne ndh]; exact d5
          walk_at "gg"
          refine Go.f_keys (fun i σ H' => ∃ (v7 : Option V), σ = [some (.ref l), some (.int sp), some (.ref t), v3, some (.ref D), some (.ref hd), some (.ref dd), v7] ∧ H' = upd H4 hd (.frz od (.dK hk)))
            ⟨none, rfl, rfl⟩ (fun i σ H' _ h => ?_) (fun i k v σ H' hk2 h => ?_) (fun σ H5 h => ?_)
          · obtain ⟨_, _, rfl⟩ := h
            exact e1
          · obtain ⟨v7, rfl, rfl⟩ := h
            obtain ⟨p, rfl, hp⟩ := ik4.at hk2
            obtain ⟨hv, hm⟩ := hold p hp
            dsimp only [L2.kV]
            walk_at "gg"
            refine Go.g_ndec (fun e => ?_) (fun e => ?_)
            · have np : p ≠ sp := fun z => e (by rw [z])
              walk_at "gg"
              refine Go.g_dget (.inr ⟨od, e1⟩) hv ?_
              walk_at "gg"
              have ky := Td.ky p np hm
              obtain ⟨s, hs⟩ := M42.lk_some ky
              have h6 := Td.ex p s hs
              have h7 : M42.lk qs.ps p = some s := M42.lk_of nd2 (List.mem_filter.mp (M42.lk_mem hs)).1
              rw [di5 p, h7, h6]
              walk_at "gg"
              refine Go.g_ndec (fun e => ?_) (fun e => ?_)
              · exact absurd rfl e
              · walk_at "gg"
                exact ⟨_, rfl, rfl⟩
            · walk_at "gg"
              exact ⟨_, rfl, rfl⟩
          · obtain ⟨v7, rfl, rfl⟩ := h
            refine ⟨e1, ?_⟩
            have e3 : upd (upd H4 hd (.frz od (.dK hk))) hd (.dK hk) = H4 := by
              funext b
              by_cases z : b = hd
              · rw [z, upd_same, h5]
              · rw [upd_ne z, upd_ne z]
            rw [e3]
            walk_at "gg"
            refine Go.g_lock d5 fun od2 => ?_
            have f1 : (upd H4 dd (.frz od2 (.dK dk))) dd = some (.frz od2 (.dK dk)) := upd_same
            have f2 : (upd H4 dd (.frz od2 (.dK dk))) hd = some (.dK hk) := by rw [upd_ne nhd]; exact h5
            walk_at "gg"
            refine Go.f_keys (fun i σ H' => ∃ (v7 : Option V), σ = [some (.ref l), some (.int sp), some (.ref t), v3, some (.ref D), some (.ref hd), some (.ref dd), v7] ∧ H' = upd H4 dd (.frz od2 (.dK dk)))
              ⟨v7, rfl, rfl⟩ (fun i σ H' _ h => ?_) (fun i k v σ H' hk2 h => ?_) (fun σ H5 h => ?_)
            · obtain ⟨_, _, rfl⟩ := h
              exact f1
            · obtain ⟨v7, rfl, rfl⟩ := h
              obtain ⟨p, rfl, hp⟩ := ik5.at hk2
              rw [di5 p, Option.isSome_map] at hp
              obtain ⟨s, hs⟩ := Option.isSome_iff_exists.mp hp
              dsimp only [L2.kV]
              walk_at "gg"
              refine Go.g_dget (v := .int s) (.inr ⟨od2, f1⟩) (by rw [di5 p, hs]; rfl) ?_
              walk_at "gg"
              rw [di4 p, held_get]
              have ex : M42.exec os.ps p = s := by
                obtain ⟨h8, h9⟩ := lk_oth nd2 hs
                by_cases z : p = s
                · by_cases zs : p = sp
                  · exfalso
                    have hm := M42.lk_mem hs
                    exact Td.sn (List.mem_map.mpr ⟨_, hm, zs⟩)
                  · rw [Td.ot p zs (h9 z)]
                    exact z
                · exact Td.ex p s (h8 z)
              rw [ex]
              walk_at "gg"
              refine Go.g_ndec (fun e => ?_) (fun e => ?_)
              · exact absurd rfl e
              · walk_at "gg"
                exact ⟨_, rfl, rfl⟩
            · obtain ⟨v7, rfl, rfl⟩ := h
              refine ⟨f1, ?_⟩
              walk_at "gg"
              refine q _ fun b o hb => ?_
              rw [upd_ne (ne_of_none hb ndd0), upd_ne (ne_of_none hb ndd0)]
              exact s5 b o hb
end
end K42

namespace K42
open PySem L2
section
variable {P : Program} {w : World} {K : PySem.W.Frag} {mg : Str → Option Value} {base : Heap}
/-! ### the law -/
def prData (q : Addr × Int × Int) : PyData := .tuple [.int q.2.1, .int q.2.2]
theorem dpAll_prs {H : Hp} : ∀ {qs : Prs}, TupP H qs → DpAll K H (refsOf qs) (qs.map prData)
  | [], _ => .nil
  | q :: r, h => .cons (.tup (SqT.of (h q List.mem_cons_self)) (.cons (.int _) (.cons (.int _) .nil))) (dpAll_prs fun x hx => h x (List.mem_cons_of_mem _ hx))
theorem dp_prs {H : Hp} {a : Addr} {qs : Prs} (h : LstP H a qs) : Dp K H (.ref a) (.list (qs.map prData)) := .lst (SqL.of h.l) (dpAll_prs h.t)
theorem lay_prs (qs : Prs) : PyData.canLayAll0 (qs.map prData) = true ∧ PyData.depthAll (qs.map prData) ≤ 1 := by
  induction qs with
  | nil => exact ⟨by simp [PyData.canLayAll0], by simp [PyData.depthAll]⟩
  | cons n r ih => exact ⟨by simp [prData, PyData.canLayAll0, PyData.canLay0, ih.1], by simp [prData, PyData.depthAll, PyData.depth]; omega⟩
theorem shaped_prs (qs : Prs) : SeqAt.shaped (.list (qs.map prData)) = true := by
  unfold SeqAt.shaped
  have := (lay_prs qs).2
  simp [PyData.canLay0, PyData.depth, (lay_prs qs).1]
  omega
theorem eqv_prs (qs : Prs) : PyData.eqv (.list (qs.map prData)) (.list (qs.map prData)) = true := SeqAt.eqv_refl _ (by simp [PyData.canLay0, (lay_prs qs).1])
def spLaw (K : PySem.W.Frag) : Sp := fun vs H Q _ => ∃ (a : Addr) (ns : List Int), vs = [.ref a] ∧ SqL K H a (ns.map V.int) ∧ ns.length ≤ 63 ∧ ∀ H', Q (.bl true) H'
theorem ok_law_at (T : Txt K mg) {f : Addr} {fd : FuncData} (F : Fun K "law" "law" slaw f fd) : FnOk P w K mg base CX0 5 f fd ["script"] (spLaw K) := by
  have nd := sclaw.nd
  have G_law_purse : Go.Kept P w K mg base 1 "_law_purse" ["script"] (spPurse K) := ok_purse T
  have G_law_moves : Go.Kept P w K mg base 4 "_law_moves" ["purse"] spMoves := ok_moves T
  have G_law_spare : Go.Kept P w K mg base 3 "_law_spare" ["purse", "moves"] (spSpare K) := ok_spare T
  have G_order_moves : Go.Kept P w K mg base 2 "order_moves" ["moves", "spare"] (spOM K) := ok_om T
  have G_law_moved : Go.Kept P w K mg base 2 "_law_moved" ["moves", "spare", "told"] spMoved := ok_moved T
  have G_law_take : Go.Kept P w K mg base 2 "_law_take" ["purse", "size"] spTake := ok_take T
  refine F.ok sclaw (fun vs H Q E h => ?_) (fun cdv A outer s H vs Q E hr h => ?_)
  · obtain ⟨a, ns, rfl, _⟩ := h
    rfl
  · obtain ⟨a, ns, rfl, hS, hlen, q⟩ := h
    have hu := hu_of hr
    refine ⟨_, (pss_cons (ps_set (i := 1) nd rfl (.inl rfl) (Go.call G_law_purse hr (pa_cons (pv 0) pa_nil)))
        (pss_cons (ps_set (i := 2) nd rfl (.inl rfl) (Go.call G_law_moves hr (pa_cons (pv 1) pa_nil)))
        (pss_cons (ps_set (i := 3) nd rfl (.inl rfl) (Go.call G_law_spare hr (pa_cons (pv 1) (pa_cons (pv 2) pa_nil))))
        (pss_cons (ps_set (i := 4) nd rfl (.inl rfl) (pe_callTy (Go.listOf (K := K) rfl) (by rfl) T.m_list (by decide +kernel) (pa_cons (pv 2) pa_nil)))
        (pss_cons (ps_set (i := 5) nd rfl (.inl rfl) (Go.call G_order_moves hr (pa_cons (pv 4) (pa_cons (pv 3) pa_nil))))
        (pss_cons (ps_if (PW.pt (pw_or (pt_not (pt_val (pe_callB (Go.isi (K := K) rfl) (by rfl) T.m_isinstance (by decide +kernel) (pa_cons (pv 5) (pa_cons (pe_bltn (v := .ty "list") (by rfl) T.m_list (by decide +kernel) rfl) pa_nil))))) (pw_or1 (pt_cmpR (Go.neD (K := K) rfl hr.units) (pv 4) (pv 2) (nomark _)))))
        (pss_one (ps_ret pe_bl))
        pss_nil)
        (pss_cons (ps_if (pt_not (pt_val (Go.call G_law_moved hr (pa_cons (pv 2) (pa_cons (pv 3) (pa_cons (pe_callTy (Go.listOf (K := K) rfl) (by rfl) T.m_list (by decide +kernel) (pa_cons (pv 5) pa_nil)) pa_nil))))))
        (pss_one (ps_ret pe_bl))
        pss_nil)
        (pss_cons (ps_expr (pe_bm0 PySem.F.plainAttrs_list PySem.F.slot_list_clear PySem.F.type_list_clear mt_clear (pv 5)))
        (pss_cons (ps_if (pt_cmpR (Go.neD (K := K) rfl hr.units) (pv 4) (pv 2) (nomark _))
        (pss_one (ps_ret pe_bl))
        pss_nil)
        (pss_cons (ps_set (i := 6) nd rfl (.inl rfl) (Go.call G_order_moves hr (pa_cons (pv 4) (pa_cons (pv 3) pa_nil))))
        (pss_cons (ps_if (PW.pt (pw_or (pt_not (pt_val (pe_callB (Go.isi (K := K) rfl) (by rfl) T.m_isinstance (by decide +kernel) (pa_cons (pv 6) (pa_cons (pe_bltn (v := .ty "list") (by rfl) T.m_list (by decide +kernel) rfl) pa_nil))))) (pw_or1 (pt_not (pt_val (Go.call G_law_moved hr (pa_cons (pv 2) (pa_cons (pv 3) (pa_cons (pe_callTy (Go.listOf (K := K) rfl) (by rfl) T.m_list (by decide +kernel) (pa_cons (pv 6) pa_nil)) pa_nil)))))))))
        (pss_one (ps_ret pe_bl))
        pss_nil)
        (pss_cons (ps_set (i := 7) nd rfl (.inl rfl) (pe_callTy (Go.listOf (K := K) rfl) (by rfl) T.m_list (by decide +kernel) (pa_cons (pv 2) pa_nil)))
        (pss_cons (ps_expr (pe_bm0 PySem.F.plainAttrs_list PySem.F.slot_list_reverse PySem.F.type_list_reverse mt_reverse (pv 7)))
        (pss_cons (ps_set (i := 8) nd rfl (.inl rfl) (pe_op op_add pe_int (Go.call G_law_take hr (pa_cons (pv 1) (pa_cons pe_int pa_nil)))))
        (pss_cons (ps_set (i := 9) nd rfl (.inl rfl) (Go.call G_order_moves hr (pa_cons (pe_callTy (Go.listOf (K := K) rfl) (by rfl) T.m_list (by decide +kernel) (pa_cons (pv 7) pa_nil)) (pa_cons (pv 8) pa_nil))))
        (pss_one (ps_ret (pe_and (pe_callB (Go.isi (K := K) rfl) (by rfl) T.m_isinstance (by decide +kernel) (pa_cons (pv 9) (pa_cons (pe_bltn (v := .ty "list") (by rfl) T.m_list (by decide +kernel) rfl) pa_nil))) (pe_one (Go.call G_law_moved hr (pa_cons (pv 7) (pa_cons (pv 8) (pa_cons (pe_callTy (Go.listOf (K := K) rfl) (by rfl) T.m_list (by decide +kernel) (pa_cons (pv 9) pa_nil)) pa_nil))))))))))))))))))))))), ?_⟩
    walk_at "go0"
    walk_at "gg"
    refine ⟨a, ns, rfl, hS, hlen, fun p c ms H1 s1 hp hc S1 => ?_⟩
    walk_at "gg"
    refine ⟨p, c, ms, rfl, S1, fun l qs H2 S2 B2 hl L2 Sh => ?_⟩
    have npl : p ≠ l := (S1.ne hl).1
    have ncl : c ≠ l := (S1.ne hl).2
    walk_at "gg"
    refine ⟨p, c, ms, l, qs, rfl, S2, L2, Sh, npl, ncl, fun sp H3 S3 B3 hsp => ?_⟩
    have L3 : LstP H3 l qs := ⟨B3 _ _ L2.l npl.symm, L2.t.purse S2 B3⟩
    have l3 := L3.l
    walk_at "gg"
    refine Go.g_listOf (.inl (SqL.of l3)) fun b hb => ?_
    have L4 : LstP (upd H3 b (.lst (refsOf qs))) l qs := ⟨same_new hb _ _ l3, L3.t.same (same_new hb)⟩
    have B4 : LstP (upd H3 b (.lst (refsOf qs))) b qs := ⟨upd_same, L3.t.same (same_new hb)⟩
    have S4 := S3.new (o := .lst (refsOf qs)) hb
    generalize upd H3 b (.lst (refsOf qs)) = H4 at L4 B4 S4
    walk_at "gg"
    refine ⟨b, qs, sp, rfl, B4, Sh, hsp, fun o os H5 s5 ho O5 T5 => ?_⟩
    have o5 := O5.l
    walk_at "gg"
    refine Go.g_isi (Go.ty_lst o5) (b := true) (by decide +kernel) ?_
    walk_at "gg"
    have L5 : LstP H5 l qs := ⟨s5 _ _ L4.l, L4.t.same s5⟩
    have B5 : LstP H5 b qs := ⟨s5 _ _ B4.l, B4.t.same s5⟩
    refine Go.g_rNeD (dp_prs B5) (dp_prs L5) (shaped_prs qs) (shaped_prs qs) ?_
    rw [eqv_prs]
    walk_at "gg"
    refine Go.g_listOf (.inl (SqL.of o5)) fun t ht => ?_
    have s6 : Same H5 (upd H5 t (.lst (refsOf os))) := same_new ht
    have L6 : LstP (upd H5 t (.lst (refsOf os))) l qs := ⟨s6 _ _ L5.l, L5.t.same s6⟩
    have O6 : LstP (upd H5 t (.lst (refsOf os))) t os := ⟨upd_same, O5.t.same s6⟩
    generalize upd H5 t (.lst (refsOf os)) = H6 at s6 L6 O6
    walk_at "gg"
    refine ⟨l, t, qs, os, sp, rfl, L6, O6, Sh, T5, fun H7 s7 => ?_⟩
    have o7 := s7 _ _ (s6 _ _ o5)
    walk_at "gg"
    refine Go.g_clear o7 ?_
    have L7 : LstP H7 l qs := ⟨s7 _ _ L6.l, L6.t.same s7⟩
    have B7 : LstP H7 b qs := ⟨s7 _ _ (s6 _ _ B5.l), (B5.t.same s6).same s7⟩
    have nlo : l ≠ o := ne_of_none L4.l ho
    have nbo : b ≠ o := ne_of_none B4.l ho
    have L8 : LstP (upd H7 o (.lst [])) l qs := ⟨by rw [upd_ne nlo]; exact L7.l, L7.t.upd o7 fun xs z => by cases z⟩
    have B8 : LstP (upd H7 o (.lst [])) b qs := ⟨by rw [upd_ne nbo]; exact B7.l, B7.t.upd o7 fun xs z => by cases z⟩
    have S8 : PurseAt (upd H7 o (.lst [])) p c ms := by
      obtain ⟨i, x, y, z, h1, h2, h3⟩ := S4
      exact PurseAt.upd ⟨i, x, y, z, s7 _ _ (s6 _ _ (s5 _ _ h1)), s7 _ _ (s6 _ _ (s5 _ _ h2)), h3⟩ (ne_of_none h1 ho) (ne_of_none h2 ho)
    generalize upd H7 o (.lst []) = H8 at L8 B8 S8
    walk_at "gg"
    refine Go.g_rNeD (dp_prs B8) (dp_prs L8) (shaped_prs qs) (shaped_prs qs) ?_
    rw [eqv_prs]
    walk_at "gg"
    refine ⟨b, qs, sp, rfl, B8, Sh, hsp, fun o' os' H9 s9 ho' O9 T9 => ?_⟩
    have o9 := O9.l
    walk_at "gg"
    refine Go.g_isi (Go.ty_lst o9) (b := true) (by decide +kernel) ?_
    walk_at "gg"
    refine Go.g_listOf (.inl (SqL.of o9)) fun t' ht' => ?_
    have sa : Same H8 (upd H9 t' (.lst (refsOf os'))) := s9.trans (same_new ht')
    have La : LstP (upd H9 t' (.lst (refsOf os'))) l qs := ⟨sa _ _ L8.l, L8.t.same sa⟩
    have Oa : LstP (upd H9 t' (.lst (refsOf os'))) t' os' := ⟨upd_same, O9.t.same (same_new ht')⟩
    generalize upd H9 t' (.lst (refsOf os')) = Ha at sa La Oa
    walk_at "gg"
    refine ⟨l, t', qs, os', sp, rfl, La, Oa, Sh, T9, fun Hb sb => ?_⟩
    have Lb : LstP Hb l qs := ⟨sb _ _ La.l, La.t.same sb⟩
    have lb := Lb.l
    walk_at "gg"
    refine Go.g_listOf (.inl (SqL.of lb)) fun r hr' => ?_
    have sc : Same Hb (upd Hb r (.lst (refsOf qs))) := same_new hr'
    have rc : (upd Hb r (.lst (refsOf qs))) r = some (.lst (refsOf qs)) := upd_same
    walk_at "gg"
    refine Go.g_reverse rc ?_
    rw [upd_upd]
    have er : (refsOf qs).reverse = refsOf qs.reverse := (List.map_reverse ..).symm
    rw [er]
    have sd : Same Hb (upd Hb r (.lst (refsOf qs.reverse))) := same_new hr'
    have Rd : LstP (upd Hb r (.lst (refsOf qs.reverse))) r qs.reverse := ⟨upd_same, fun x hx => sd _ _ (Lb.t x (List.mem_reverse.mp hx))⟩
    have Sd : PurseAt (upd Hb r (.lst (refsOf qs.reverse))) p c ms := by
      obtain ⟨i, x, y, z, h1, h2, h3⟩ := S8
      exact PurseAt.new ⟨i, x, y, z, sb _ _ (sa _ _ h1), sb _ _ (sa _ _ h2), h3⟩ hr'
    have npr : p ≠ r ∧ c ≠ r := by
      obtain ⟨i, x, y, z, h1, h2, h3⟩ := S8
      exact PurseAt.ne ⟨i, x, y, z, sb _ _ (sa _ _ h1), sb _ _ (sa _ _ h2), h3⟩ hr'
    generalize upd Hb r (.lst (refsOf qs.reverse)) = Hd at sd Rd Sd
    walk_at "gg"
    refine ⟨p, c, ms, 9000, rfl, Sd, by omega, fun z He z0 z1 Se Be => ?_⟩
    have Re : LstP He r qs.reverse := ⟨Be _ _ Rd.l npr.1.symm, Rd.t.purse Sd Be⟩
    have re := Re.l
    have She : Shape (Prs.ps qs.reverse) := Sh.perm ((List.reverse_perm qs).map (·.2)).symm
    have hg : ∀ x ∈ Prs.ps qs.reverse, x.1 ≠ 103 + z ∧ x.2 ≠ 103 + z := fun x hx => by
      have := She.bd x hx
      omega
    walk_at "gg"
    refine Go.g_listOf (.inl (SqL.of re)) fun u hu' => ?_
    have sf : Same He (upd He u (.lst (refsOf qs.reverse))) := same_new hu'
    have Rf : LstP (upd He u (.lst (refsOf qs.reverse))) r qs.reverse := ⟨sf _ _ re, Re.t.same sf⟩
    have Uf : LstP (upd He u (.lst (refsOf qs.reverse))) u qs.reverse := ⟨upd_same, Re.t.same sf⟩
    generalize upd He u (.lst (refsOf qs.reverse)) = Hf at sf Rf Uf
    walk_at "gg"
    refine ⟨u, qs.reverse, 103 + z, rfl, Uf, She, hg, fun o2 os2 Hg sg ho2 Og Tg => ?_⟩
    have og := Og.l
    walk_at "gg"
    refine Go.g_isi (Go.ty_lst og) (b := true) (by decide +kernel) ?_
    walk_at "gg"
    refine Go.g_listOf (.inl (SqL.of og)) fun t2 ht2 => ?_
    have sh : Same Hg (upd Hg t2 (.lst (refsOf os2))) := same_new ht2
    have Rh : LstP (upd Hg t2 (.lst (refsOf os2))) r qs.reverse := ⟨sh _ _ (sg _ _ Rf.l), (Rf.t.same sg).same sh⟩
    have Oh : LstP (upd Hg t2 (.lst (refsOf os2))) t2 os2 := ⟨upd_same, Og.t.same sh⟩
    generalize upd Hg t2 (.lst (refsOf os2)) = Hh at sh Rh Oh
    walk_at "gg"
    exact ⟨r, t2, qs.reverse, os2, 103 + z, rfl, Rh, Oh, She, Tg, fun Hi _ => q Hi⟩
end
/-! ### what the top has left, and the law's own head -/
theorem all_mk {P : Program} {w : World} {K : PySem.W.Frag} {h : Heap} {mg : Str → Option Value} {fa : Addr} (X : K.In h) (G : h.Ns mainGlobals mg) (hfa : mg "law" = some (.ref fa))
    {f0 f1 f2 f3 f4 f5 f6 f7 f8 f9 f10 f11 f12 : Addr} {od0 an0 od1 an1 od2 an2 od3 an3 od4 an4 od5 an5 od6 an6 od7 an7 od8 an8 od9 an9 od10 an10 od11 an11 od12 an12 : Option Addr} {sl0 sl1 sl2 sl3 sl4 sl5 sl6 sl7 sl8 sl9 sl10 sl11 sl12 : Array (Option Value)} {oc0 kV0 dc0 pm0 cd0 ct0 oc1 kV1 dc1 pm1 cd1 ct1 oc2 kV2 dc2 pm2 cd2 ct2 oc3 kV3 dc3 pm3 cd3 ct3 oc4 kV4 dc4 pm4 cd4 ct4 oc5 kV5 dc5 pm5 cd5 ct5 oc6 kV6 dc6 pm6 cd6 ct6 oc7 kV7 dc7 pm7 cd7 ct7 oc8 kV8 dc8 pm8 cd8 ct8 oc9 kV9 dc9 pm9 cd9 ct9 oc10 kV10 dc10 pm10 cd10 ct10 oc11 kV11 dc11 pm11 cd11 ct11 oc12 kV12 dc12 pm12 cd12 ct12 : Value}
    (a0 : PySem.W.nsIn K mainGlobals "perform_free" = some (some (.ref f0))) (l0 : K.lookup f0 = some ⟨oc0, od0, .func (PySem.W.fnOf "perform_free" "perform_free" (defArgs sperform_free) (defBody sperform_free) (defScope sperform_free) .none kV0 dc0 pm0 an0 cd0 ct0), sl0⟩) (c0 : PySem.W.codeIn K cd0 "perform_free" = true) (k0 : PySem.W.keepIn K (.ref f0) = true)
    (a1 : PySem.W.nsIn K mainGlobals "order_moves" = some (some (.ref f1))) (l1 : K.lookup f1 = some ⟨oc1, od1, .func (PySem.W.fnOf "order_moves" "order_moves" (defArgs sorder_moves) (defBody sorder_moves) (defScope sorder_moves) .none kV1 dc1 pm1 an1 cd1 ct1), sl1⟩) (c1 : PySem.W.codeIn K cd1 "order_moves" = true) (k1 : PySem.W.keepIn K (.ref f1) = true)
    (a2 : PySem.W.nsIn K mainGlobals "_law_purse" = some (some (.ref f2))) (l2 : K.lookup f2 = some ⟨oc2, od2, .func (PySem.W.fnOf "_law_purse" "_law_purse" (defArgs sl_purse) (defBody sl_purse) (defScope sl_purse) .none kV2 dc2 pm2 an2 cd2 ct2), sl2⟩) (c2 : PySem.W.codeIn K cd2 "_law_purse" = true) (k2 : PySem.W.keepIn K (.ref f2) = true)
    (a3 : PySem.W.nsIn K mainGlobals "_law_mixed" = some (some (.ref f3))) (l3 : K.lookup f3 = some ⟨oc3, od3, .func (PySem.W.fnOf "_law_mixed" "_law_mixed" (defArgs sl_mixed) (defBody sl_mixed) (defScope sl_mixed) .none kV3 dc3 pm3 an3 cd3 ct3), sl3⟩) (c3 : PySem.W.codeIn K cd3 "_law_mixed" = true) (k3 : PySem.W.keepIn K (.ref f3) = true)
    (a4 : PySem.W.nsIn K mainGlobals "_law_take" = some (some (.ref f4))) (l4 : K.lookup f4 = some ⟨oc4, od4, .func (PySem.W.fnOf "_law_take" "_law_take" (defArgs sl_take) (defBody sl_take) (defScope sl_take) .none kV4 dc4 pm4 an4 cd4 ct4), sl4⟩) (c4 : PySem.W.codeIn K cd4 "_law_take" = true) (k4 : PySem.W.keepIn K (.ref f4) = true)
    (a5 : PySem.W.nsIn K mainGlobals "_law_is_integer" = some (some (.ref f5))) (l5 : K.lookup f5 = some ⟨oc5, od5, .func (PySem.W.fnOf "_law_is_integer" "_law_is_integer" (defArgs sl_is_integer) (defBody sl_is_integer) (defScope sl_is_integer) .none kV5 dc5 pm5 an5 cd5 ct5), sl5⟩) (c5 : PySem.W.codeIn K cd5 "_law_is_integer" = true) (k5 : PySem.W.keepIn K (.ref f5) = true)
    (a6 : PySem.W.nsIn K mainGlobals "_law_cycles" = some (some (.ref f6))) (l6 : K.lookup f6 = some ⟨oc6, od6, .func (PySem.W.fnOf "_law_cycles" "_law_cycles" (defArgs sl_cycles) (defBody sl_cycles) (defScope sl_cycles) .none kV6 dc6 pm6 an6 cd6 ct6), sl6⟩) (c6 : PySem.W.codeIn K cd6 "_law_cycles" = true) (k6 : PySem.W.keepIn K (.ref f6) = true)
    (a7 : PySem.W.nsIn K mainGlobals "_law_moved" = some (some (.ref f7))) (l7 : K.lookup f7 = some ⟨oc7, od7, .func (PySem.W.fnOf "_law_moved" "_law_moved" (defArgs sl_moved) (defBody sl_moved) (defScope sl_moved) .none kV7 dc7 pm7 an7 cd7 ct7), sl7⟩) (c7 : PySem.W.codeIn K cd7 "_law_moved" = true) (k7 : PySem.W.keepIn K (.ref f7) = true)
    (a8 : PySem.W.nsIn K mainGlobals "_law_free" = some (some (.ref f8))) (l8 : K.lookup f8 = some ⟨oc8, od8, .func (PySem.W.fnOf "_law_free" "_law_free" (defArgs sl_free) (defBody sl_free) (defScope sl_free) .none kV8 dc8 pm8 an8 cd8 ct8), sl8⟩) (c8 : PySem.W.codeIn K cd8 "_law_free" = true) (k8 : PySem.W.keepIn K (.ref f8) = true)
    (a9 : PySem.W.nsIn K mainGlobals "_law_rings" = some (some (.ref f9))) (l9 : K.lookup f9 = some ⟨oc9, od9, .func (PySem.W.fnOf "_law_rings" "_law_rings" (defArgs sl_rings) (defBody sl_rings) (defScope sl_rings) .none kV9 dc9 pm9 an9 cd9 ct9), sl9⟩) (c9 : PySem.W.codeIn K cd9 "_law_rings" = true) (k9 : PySem.W.keepIn K (.ref f9) = true)
    (a10 : PySem.W.nsIn K mainGlobals "_law_moves" = some (some (.ref f10))) (l10 : K.lookup f10 = some ⟨oc10, od10, .func (PySem.W.fnOf "_law_moves" "_law_moves" (defArgs sl_moves) (defBody sl_moves) (defScope sl_moves) .none kV10 dc10 pm10 an10 cd10 ct10), sl10⟩) (c10 : PySem.W.codeIn K cd10 "_law_moves" = true) (k10 : PySem.W.keepIn K (.ref f10) = true)
    (a11 : PySem.W.nsIn K mainGlobals "_law_spare" = some (some (.ref f11))) (l11 : K.lookup f11 = some ⟨oc11, od11, .func (PySem.W.fnOf "_law_spare" "_law_spare" (defArgs sl_spare) (defBody sl_spare) (defScope sl_spare) .none kV11 dc11 pm11 an11 cd11 ct11), sl11⟩) (c11 : PySem.W.codeIn K cd11 "_law_spare" = true) (k11 : PySem.W.keepIn K (.ref f11) = true)
    (a12 : PySem.W.nsIn K mainGlobals "law" = some (some (.ref f12))) (l12 : K.lookup f12 = some ⟨oc12, od12, .func (PySem.W.fnOf "law" "law" (defArgs slaw) (defBody slaw) (defScope slaw) .none kV12 dc12 pm12 an12 cd12 ct12), sl12⟩) (c12 : PySem.W.codeIn K cd12 "law" = true) (k12 : PySem.W.keepIn K (.ref f12) = true)
    (z0 : PySem.W.nsIn K mainGlobals "bool" = some none)
    (z1 : PySem.W.nsIn K mainGlobals "int" = some none)
    (z2 : PySem.W.nsIn K mainGlobals "isinstance" = some none)
    (z3 : PySem.W.nsIn K mainGlobals "len" = some none)
    (z4 : PySem.W.nsIn K mainGlobals "list" = some none)
    (z5 : PySem.W.nsIn K mainGlobals "range" = some none)
    (z6 : PySem.W.nsIn K mainGlobals "sum" = some none)
    (z7 : PySem.W.nsIn K mainGlobals "tuple" = some none)
    : ∃ fd : FuncData, (∀ (s : Shared) (v : Value), BindsTo s fd ⟨[v], []⟩ [("script", v)]) ∧ ∀ base : Heap, K.In base → base.Ns mainGlobals mg → FnOk P w K mg base CX0 5 fa fd ["script"] (spLaw K) := by
  have e := hfa.symm.trans (PySem.W.mg_of X G a12)
  cases e
  have F0 := fun_mk (st := sperform_free) l0 c0 k0
  have b0 := F0.binds (ps := ["free", "wanted", "found_at", "ordered"]) fun _ _ _ _ _ _ us hl => match us, hl with | [_, _, _, _], _ => rfl
  have F1 := fun_mk (st := sorder_moves) l1 c1 k1
  have b1 := F1.binds (ps := ["moves", "spare"]) fun _ _ _ _ _ _ us hl => match us, hl with | [_, _], _ => rfl
  have F2 := fun_mk (st := sl_purse) l2 c2 k2
  have b2 := F2.binds (ps := ["script"]) fun _ _ _ _ _ _ us hl => match us, hl with | [_], _ => rfl
  have F3 := fun_mk (st := sl_mixed) l3 c3 k3
  have b3 := F3.binds (ps := ["cell", "k"]) fun _ _ _ _ _ _ us hl => match us, hl with | [_, _], _ => rfl
  have F4 := fun_mk (st := sl_take) l4 c4 k4
  have b4 := F4.binds (ps := ["purse", "size"]) fun _ _ _ _ _ _ us hl => match us, hl with | [_, _], _ => rfl
  have F5 := fun_mk (st := sl_is_integer) l5 c5 k5
  have b5 := F5.binds (ps := ["thing"]) fun _ _ _ _ _ _ us hl => match us, hl with | [_], _ => rfl
  have F6 := fun_mk (st := sl_cycles) l6 c6 k6
  have b6 := F6.binds (ps := ["moves"]) fun _ _ _ _ _ _ us hl => match us, hl with | [_], _ => rfl
  have F7 := fun_mk (st := sl_moved) l7 c7 k7
  have b7 := F7.binds (ps := ["moves", "spare", "told"]) fun _ _ _ _ _ _ us hl => match us, hl with | [_, _, _], _ => rfl
  have F8 := fun_mk (st := sl_free) l8 c8 k8
  have b8 := F8.binds (ps := ["purse", "many"]) fun _ _ _ _ _ _ us hl => match us, hl with | [_, _], _ => rfl
  have F9 := fun_mk (st := sl_rings) l9 c9 k9
  have b9 := F9.binds (ps := ["purse", "alike"]) fun _ _ _ _ _ _ us hl => match us, hl with | [_, _], _ => rfl
  have F10 := fun_mk (st := sl_moves) l10 c10 k10
  have b10 := F10.binds (ps := ["purse"]) fun _ _ _ _ _ _ us hl => match us, hl with | [_], _ => rfl
  have F11 := fun_mk (st := sl_spare) l11 c11 k11
  have b11 := F11.binds (ps := ["purse", "moves"]) fun _ _ _ _ _ _ us hl => match us, hl with | [_, _], _ => rfl
  have F12 := fun_mk (st := slaw) l12 c12 k12
  have b12 := F12.binds (ps := ["script"]) fun _ _ _ _ _ _ us hl => match us, hl with | [_], _ => rfl
  have T : Txt K mg := ⟨⟨_, _, F0, b0, PySem.W.mg_of X G a0⟩, ⟨_, _, F1, b1, PySem.W.mg_of X G a1⟩, ⟨_, _, F2, b2, PySem.W.mg_of X G a2⟩, ⟨_, _, F3, b3, PySem.W.mg_of X G a3⟩, ⟨_, _, F4, b4, PySem.W.mg_of X G a4⟩, ⟨_, _, F5, b5, PySem.W.mg_of X G a5⟩, ⟨_, _, F6, b6, PySem.W.mg_of X G a6⟩, ⟨_, _, F7, b7, PySem.W.mg_of X G a7⟩, ⟨_, _, F8, b8, PySem.W.mg_of X G a8⟩, ⟨_, _, F9, b9, PySem.W.mg_of X G a9⟩, ⟨_, _, F10, b10, PySem.W.mg_of X G a10⟩, ⟨_, _, F11, b11, PySem.W.mg_of X G a11⟩, ⟨_, _, F12, b12, PySem.W.mg_of X G a12⟩, PySem.W.mg_none_of X G z0, PySem.W.mg_none_of X G z1, PySem.W.mg_none_of X G z2, PySem.W.mg_none_of X G z3, PySem.W.mg_none_of X G z4, PySem.W.mg_none_of X G z5, PySem.W.mg_none_of X G z6, PySem.W.mg_none_of X G z7⟩
  refine ⟨PySem.W.fnOf "law" "law" (defArgs slaw) (defBody slaw) (defScope slaw) .none kV12 dc12 pm12 an12 cd12 ct12, fun s v => .of_eq rfl, fun base _ _ => ?_⟩
  exact ok_law_at T F12
end K42
open PySem PySem.W PyProof.Rows
set_option maxRecDepth 100000 in
set_option maxHeartbeats 0 in
theorem PySem.Challenge.cw_reforge_k42_moves_holds : PySem.Challenge.rw_reforge_k42_moves.Holds := by
  w_on; o_law; k_head; (case hw => w_witness2)
  k_fill
  refine L2.walk_of (l := PySem.Challenge.rw_reforge_k42_moves) (n := 63) (k := 5) (x := "script") (CX := fun _ => L2.CX0) (sp := fun w => K42.spLaw _) rfl (by decide) rfl ⟨rfl, by decide, by decide⟩ (fun w h Y => PySem.W.kIn_of Y) ?F (fun _ _ a ns hl _ hS => ⟨a, ns, rfl, hS, hl, fun _ => rfl⟩) (fun _ _ _ _ _ h => h)
  case F =>
    intro w mg fa h KX G hmg
    refine' K42.all_mk KX G hmg ?a0 ?l0 ?c0 ?k0 ?a1 ?l1 ?c1 ?k1 ?a2 ?l2 ?c2 ?k2 ?a3 ?l3 ?c3 ?k3 ?a4 ?l4 ?c4 ?k4 ?a5 ?l5 ?c5 ?k5 ?a6 ?l6 ?c6 ?k6 ?a7 ?l7 ?c7 ?k7 ?a8 ?l8 ?c8 ?k8 ?a9 ?l9 ?c9 ?k9 ?a10 ?l10 ?c10 ?k10 ?a11 ?l11 ?c11 ?k11 ?a12 ?l12 ?c12 ?k12 ?z0 ?z1 ?z2 ?z3 ?z4 ?z5 ?z6 ?z7
    (case a0 => k_is)
    (case l0 => k_is)
    (case c0 => k_is)
    (case k0 => k_is)
    (case a1 => k_is)
    (case l1 => k_is)
    (case c1 => k_is)
    (case k1 => k_is)
    (case a2 => k_is)
    (case l2 => k_is)
    (case c2 => k_is)
    (case k2 => k_is)
    (case a3 => k_is)
    (case l3 => k_is)
    (case c3 => k_is)
    (case k3 => k_is)
    (case a4 => k_is)
    (case l4 => k_is)
    (case c4 => k_is)
    (case k4 => k_is)
    (case a5 => k_is)
    (case l5 => k_is)
    (case c5 => k_is)
    (case k5 => k_is)
    (case a6 => k_is)
    (case l6 => k_is)
    (case c6 => k_is)
    (case k6 => k_is)
    (case a7 => k_is)
    (case l7 => k_is)
    (case c7 => k_is)
    (case k7 => k_is)
    (case a8 => k_is)
    (case l8 => k_is)
    (case c8 => k_is)
    (case k8 => k_is)
    (case a9 => k_is)
    (case l9 => k_is)
    (case c9 => k_is)
    (case k9 => k_is)
    (case a10 => k_is)
    (case l10 => k_is)
    (case c10 => k_is)
    (case k10 => k_is)
    (case a11 => k_is)
    (case l11 => k_is)
    (case c11 => k_is)
    (case k11 => k_is)
    (case a12 => k_is)
    (case l12 => k_is)
    (case c12 => k_is)
    (case k12 => k_is)
    (case z0 => k_is)
    (case z1 => k_is)
    (case z2 => k_is)
    (case z3 => k_is)
    (case z4 => k_is)
    (case z5 => k_is)
    (case z6 => k_is)
    (case z7 => k_is)
#print axioms PySem.Challenge.cw_reforge_k42_moves_holds
