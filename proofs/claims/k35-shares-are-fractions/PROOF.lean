import PyProof.Rows.All
import Wide.All
import OpenK.AllK
import Wide.FinOn
import HandS.ForMost
import HandS.ForExc
import HandS.Flow
import HandS.Style
import HandS.Wide
import HandS.IsInst
import HandS.TupAny
import HandS.TupMul
import HandS.NoneIn
import PySem.Challenge.RW_lapfold_k35_whole_shares_are_fractions
set_option Elab.async false
set_option maxRecDepth 100000
set_option maxHeartbeats 4000000
/-! Lf.base: own words over the hand layer: operators of any kind, calls by standing defs, frames, deep data. -/
namespace Lf
open PySem PySem.Spec PyProof.Rows L2
/-! ### operators, by whatever kind the values are -/
section
variable {X : Cx}
theorem opr_or {f : Value → Value → Sem Value} {r1 r2 : R2} (h1 : OpR X f r1) (h2 : OpR X f r2) : OpR X f (fun x y H Q => r1 x y H Q ∨ r2 x y H Q) := by
  intro pins s σ H x y v u Q I rx ry h
  rcases h with h | h
  · exact h1 pins s σ H x y v u Q I rx ry h
  · exact h2 pins s σ H x y v u Q I rx ry h
def rAddI : R2 := rI0 fun i j => .int (i + j)
def rAddS : R2 := fun x y H Q => ∃ i j, x = .str i ∧ y = .str j ∧ i.length + j.length ≤ sizeLine ∧ Q (.str (i ++ j)) H
def rPlus (K : PySem.W.Frag) : R2 := fun x y H Q => rAddI x y H Q ∨ rAddS x y H Q ∨ rCat x y H Q ∨ rCatA K x y H Q
theorem op_plus : OpR X (binaryOp .Add) (rPlus X.K) := opr_or op_add (opr_or op_add_str (opr_or op_cat op_catA))
def rMulS : R2 := rI CMul fun i j => .int (i * j)
def rMulW : R2 := rI CMulW fun i j => .int (i * j)
theorem op_mulS : OpR X (binaryOp .Mult) rMulS := op_mul
def rTimes (K : PySem.W.Frag) : R2 := fun x y H Q => rMulS x y H Q ∨ rMulW x y H Q ∨ rRep x y H Q ∨ rRepT K x y H Q
theorem op_timesA : OpR X (binaryOp .Mult) (rTimes X.K) := opr_or op_mul (opr_or op_mulW (opr_or op_rep op_repT))
def rEqA (K : PySem.W.Frag) : R2 := fun x y H Q => rEq x y H Q ∨ rEqD K x y H Q
def rNeA (K : PySem.W.Frag) : R2 := fun x y H Q => rNe x y H Q ∨ rNeD K x y H Q
theorem op_eqA (hu : X.A.units + 64 < cLine) : OpR X (compareOp .Eq) (rEqA X.K) := opr_or op_eq (op_eqD hu)
theorem op_neA (hu : X.A.units + 64 < cLine) : OpR X (compareOp .NotEq) (rNeA X.K) := opr_or op_ne (op_neD hu)
def rLenA (K : PySem.W.Frag) : List V → Hp → VK → Prop := fun xs H Q => ∃ x n, xs = [x] ∧ LenV K x H n ∧ Q (.int n) H
theorem call_lenA : CallR X (.builtin "len") (rLenA X.K) := call_len
def rAbs : List V → Hp → VK → Prop := fun xs H Q => ∃ i, xs = [.int i] ∧ Q (.int (if i < 0 then -i else i)) H
theorem call_absA : CallR X (.builtin "abs") rAbs := call_abs
def rMax2 : List V → Hp → VK → Prop := fun xs H Q => ∃ i j, xs = [.int i, .int j] ∧ Q (.int (if j > i then j else i)) H
theorem call_max2A (hc : X.calm = true) : CallR X (.builtin "max") rMax2 := call_max2 hc
theorem call_isiA : CallR X (.builtin "isinstance") (rIsi X.K) := call_isi
def rIntC : List V → Hp → VK → Prop := fun xs H Q => (∃ i, xs = [.int i] ∧ Q (.int i) H) ∨ ∃ k, xs = [.bl k] ∧ Q (.int (if k then 1 else 0)) H
theorem call_intA : CallR X (.type "int") rIntC := call_int1
def rListOf (K : PySem.W.Frag) : List V → Hp → VK → Prop := fun xs H Q => ∃ p ys, xs = [.ref p] ∧ (SqL K H p ys ∨ SqT K H p ys) ∧ ∀ l, H l = none → Q (.ref l) (upd H l (.lst ys))
theorem call_listA : CallR X (.type "list") (rListOf X.K) := call_list_of
end
section
variable {X : Cx}
theorem pe_tyN {x : Str} {p : Pos} {n : String} (hg : Gl X x) (hm : X.mg x = none) (hv : bootBuiltins x = some (.type n)) (hn : x ≠ "__name__" := by decide) (hdb : (x == ("__debug__" : Str)) = false := by decide) : PE X (.Name x p) (tC (.ty n)) :=
  pe_bltn (v := .ty n) hg hm hv rfl hn hdb
end
/-! ### frames: all that stood stands, but for what lies at M -/
def Fr (M : List Addr) (H H' : Hp) : Prop := ∀ b o, H b = some o → b ∉ M → H' b = some o
section
variable {M N : List Addr} {H H1 H2 : Hp} {a b p q : Addr} {o u : HO} {K : PySem.W.Frag} {xs : List V}
theorem Fr.refl (M : List Addr) (H : Hp) : Fr M H H := fun _ _ h _ => h
theorem Fr.trans (h1 : Fr M H H1) (h2 : Fr M H1 H2) : Fr M H H2 := fun b o h n => h2 b o (h1 b o h n) n
theorem Fr.wk (h : Fr N H H1) (s : ∀ a, a ∈ N → a ∈ M) : Fr M H H1 := fun b o e n => h b o e fun z => n (s b z)
theorem Fr.nil (h : Fr [] H H1) : Fr M H H1 := h.wk fun _ z => absurd z (by simp)
theorem Fr.of_same (h : Same H H1) : Fr M H H1 := fun b o e _ => h b o e
theorem Fr.same (h : Fr [] H H1) : Same H H1 := fun b o e => h b o e (by simp)
theorem Fr.new (h : Fr M H H1) (e : H1 p = none) : Fr M H (upd H1 p o) := fun b u q n => by
  have z := h b u q n
  rw [upd_ne (ne_of_none z e)]; exact z
theorem Fr.put (h : Fr M H H1) (e : p ∈ M) : Fr M H (upd H1 p o) := fun b u q n => by
  have z := h b u q n
  have c : b ≠ p := by intro c; subst c; exact n e
  rw [upd_ne c]; exact z
/-- a place that was free at H may change -/
theorem Fr.mut (h : Fr M H H1) (e : H p = none) : Fr M H (upd H1 p o) := fun b u q n => by
  rw [upd_ne (ne_of_none q e)]; exact h b u q n
/-- places that were free at H are forgotten -/
theorem Fr.drop (h : Fr (p :: M) H H1) (e : H p = none) : Fr M H H1 := fun b u q n => h b u q (by
  intro z
  rcases List.mem_cons.mp z with z | z
  · exact ne_of_none q e z
  · exact n z)
theorem Fr.free (h : Fr [] H H1) (e : H1 p = none) : H p = none := h.same.free e
theorem Fr.freeM (h : Fr M H H1) (e : H1 p = none) (hp : p ∉ M) : H p = none := by
  cases q : H p with
  | none => rfl
  | some o => rw [h p o q hp] at e; cases e
/-- then places that were free at H change -/
theorem Fr.then (h : Fr M H H1) (g : Fr N H1 H2) (e : ∀ a ∈ N, H a = none) : Fr M H H2 := fun b o q n => g b o (h b o q n) fun z => ne_of_none q (e b z) rfl
theorem Fr.then1 (h : Fr M H H1) (g : Fr [p] H1 H2) (e : H p = none) : Fr M H H2 := h.then g (by simpa using e)
theorem Fr.at (h : Fr M H H1) (e : H p = some o) (hp : p ∉ M := by simp) : H1 p = some o := h p o e hp
/-- the changed places are lists, not tuples: tuples stay -/
def Lists (M : List Addr) (H : Hp) : Prop := ∀ a ∈ M, ∃ xs, H a = some (.lst xs)
theorem Fr.tup (h : Fr M H H1) (l : ∀ a ∈ M, ∀ xs o, H a ≠ some (.tup xs) ∧ H a ≠ some (.frz o (.tup xs))) (s : SqT K H a xs) : SqT K H1 a xs := by
  rcases s with (s | ⟨o, s⟩) | s
  · exact .inl (.inl (h _ _ s fun z => (l a z xs (⟨.none, none, .seq #[] 0, #[]⟩)).1 s))
  · exact .inl (.inr ⟨o, h _ _ s fun z => (l a z xs o).2 s⟩)
  · exact .inr s
theorem Fr.tup0 (h : Fr [] H H1) (s : SqT K H a xs) : SqT K H1 a xs := h.tup (fun _ z => absurd z (by simp)) s
theorem Fr.seq0 (h : Fr [] H H1) (s : SqL K H a xs) : SqL K H1 a xs := h.same.seq s
end
/-! ### the built-ins' names are the built-ins' -/
structure Blt (mg : Str → Option Value) : Prop where
  n_abs : mg "abs" = none
  n_len : mg "len" = none
  n_max : mg "max" = none
  n_min : mg "min" = none
  n_list : mg "list" = none
  n_range : mg "range" = none
  n_isinstance : mg "isinstance" = none
  n_tuple : mg "tuple" = none
  n_int : mg "int" = none
  n_bool : mg "bool" = none
  n_str : mg "str" = none
  n_dict : mg "dict" = none
  n_sorted : mg "sorted" = none
  n_set : mg "set" = none
  n_enumerate : mg "enumerate" = none
  n_reversed : mg "reversed" = none
  n_sum : mg "sum" = none
  n_all : mg "all" = none
  n_any : mg "any" = none
/-! ### defs that stand, by their promise -/
structure DefOk (P : Program) (w : World) (K : PySem.W.Frag) (mg : Str → Option Value) (base : Heap) (CX : CXT) (x : Str) (ps : List Str) (k : Nat) (sp : Sp) : Prop where
  ex : ∃ (f : Addr) (fd : FuncData), FnOk P w K mg base CX k f fd ps sp ∧ PySem.W.keepIn K (.ref f) = true ∧ Binds K fd ps [] ∧ mg x = some (.ref f)
section
variable {X : Cx} {CX : CXT} {k : Nat} {ps : List Str} {sp : Sp} {E : XK} {x : Str} {p pos : Pos} {e : Expr} {es : List Expr} {t : TA}
theorem pe_callD (F : DefOk X.prog X.w X.K X.mg X.base CX x ps k sp) (hr : Room k X.A) (hx : Passes CX X E) (ha : PA X (e :: es) t) (hg : Gl X x := by rfl) (hdb : (x == ("__debug__" : Str)) = false := by decide)
    (he : starEach (e :: es) X.env = (false, eval e X.env) :: starEach es X.env := by rfl) (hpl : (backTo pos (starEach es X.env)).any (·.1) = false := by rfl) : PE X (.Call (.Name x p) (e :: es) [] pos) (tCall sp [] E t) := by
  obtain ⟨f, fd, F, hk, hb, hm⟩ := F.ex
  exact pe_call F hr hg hm hk hb .nil hx ha hdb he hpl
theorem pe_callD0 (F : DefOk X.prog X.w X.K X.mg X.base CX x ps k sp) (hr : Room k X.A) (hx : Passes CX X E) (hg : Gl X x := by rfl) (hdb : (x == ("__debug__" : Str)) = false := by decide) : PE X (.Call (.Name x p) [] [] pos) (tCall sp [] E tNil) := by
  obtain ⟨f, fd, F, hk, hb, hm⟩ := F.ex
  exact pe_call0 F hr hg hm hk hb .nil hx hdb
end
/-- the def st stands at the name x -/
structure Here (K : PySem.W.Frag) (mg : Str → Option Value) (x : Str) (st : Stmt) (ps : List Str) : Prop where
  ex : ∃ (f : Addr) (fd : FuncData), Fun K x x st f fd ∧ mg x = some (.ref f) ∧ Binds K fd ps []
section
variable {P : Program} {w : World} {K : PySem.W.Frag} {mg : Str → Option Value} {base : Heap}
theorem Here.ok {x : Str} {st : Stmt} {N ps : List Str} {k : Nat} {sp : Sp} (F : Here K mg x st ps) (S : FnScope N ps (defScope st)) (len : ∀ vs H Q E, sp vs H Q E → vs.length = ps.length)
    (hbody : ∀ (f : Addr) (cdv : Value) (A : Around) (outer : List Env) (s : Shared) (H : Hp) (vs : List V) (Q : VK) (E : XK), Room k (A.deeper (envOfC x (defScope st) s.heap.objs.size f cdv)) → sp vs H Q E →
      ∃ t, PSs (cxOf CX0 P w K mg base N x (defScope st) f cdv A outer s H E).nox (defBody st) t ∧ t { nx := fun _ H' => Q .non H', rt := Q } (start N vs) H) : DefOk P w K mg base CX0 x ps (k + 1) sp := by
  obtain ⟨f, fd, F, hm, hb⟩ := F.ex
  exact ⟨f, fd, F.ok S len (hbody f), F.kp, hb, hm⟩
theorem DefOk.mono {CX : CXT} {x : Str} {ps : List Str} {j k : Nat} {sp : Sp} (F : DefOk P w K mg base CX x ps j sp) (h : j ≤ k) : DefOk P w K mg base CX x ps k sp := by
  obtain ⟨f, fd, F, r⟩ := F.ex
  exact ⟨f, fd, F.mono h, r⟩
theorem DefOk.imp {CX : CXT} {x : Str} {ps : List Str} {k : Nat} {sp sp' : Sp} (F : DefOk P w K mg base CX x ps k sp) (h : ∀ vs H Q E, sp' vs H Q E → sp vs H Q E) : DefOk P w K mg base CX x ps k sp' := by
  obtain ⟨f, fd, F, r⟩ := F.ex
  exact ⟨f, fd, F.imp h, r⟩
theorem here_mk {h : Heap} {x : Str} {st : Stmt} {ps : List Str} {f : Addr} {oc : Value} {od an : Option Addr} {osl : Array (Option Value)} {kV doc pm cdv ct : Value} (X : K.In h) (G : h.Ns mainGlobals mg)
    (a : PySem.W.nsIn K mainGlobals x = some (some (.ref f)))
    (l : K.lookup f = some ⟨oc, od, .func (PySem.W.fnOf x x (defArgs st) (defBody st) (defScope st) .none kV doc pm an cdv ct), osl⟩)
    (c : PySem.W.codeIn K cdv x = true) (k : PySem.W.keepIn K (.ref f) = true)
    (hb : ∀ (us : List Value), us.length = ps.length → bindArgs (PySem.W.fnOf x x (defArgs st) (defBody st) (defScope st) .none kV doc pm an cdv ct) ⟨us, []⟩ = pure (ps.zip us)) : Here K mg x st ps :=
  ⟨f, _, fun_mk (st := st) l c k, PySem.W.mg_of X G a, Binds.all hb⟩
end
/-! ### deep data that never changes -/
inductive D where
  | non | bl (b : Bool) | int (i : Int) | str (x : Str) | tup (ds : List D)
mutual
def Rp (K : PySem.W.Frag) (H : Hp) : D → V → Prop
  | .non, v => v = .non
  | .bl b, v => v = .bl b
  | .int i, v => v = .int i
  | .str x, v => v = .str x
  | .tup ds, v => ∃ a vs, v = .ref a ∧ SqT K H a vs ∧ RpL K H ds vs
def RpL (K : PySem.W.Frag) (H : Hp) : List D → List V → Prop
  | [], vs => vs = []
  | d :: ds, vs => ∃ v r, vs = v :: r ∧ Rp K H d v ∧ RpL K H ds r
end
/-- tuples stay -/
def Kp (H H' : Hp) : Prop := ∀ a xs, Rd H a (.tup xs) → Rd H' a (.tup xs)
section
variable {M : List Addr} {H H1 H2 : Hp} {a p q : Addr} {K : PySem.W.Frag} {xs : List V} {o : HO}
theorem Kp.refl (H : Hp) : Kp H H := fun _ _ h => h
theorem Kp.trans (h : Kp H H1) (g : Kp H1 H2) : Kp H H2 := fun a xs s => g a xs (h a xs s)
theorem Kp.sq (h : Kp H H1) (s : SqT K H a xs) : SqT K H1 a xs := by
  rcases s with s | s
  · exact .inl (h _ _ s)
  · exact .inr s
theorem Fr.kp0 (h : Fr [] H H1) : Kp H H1 := fun _ _ s => by
  rcases s with s | ⟨o, s⟩
  · exact .inl (h.at s)
  · exact .inr ⟨o, h.at s⟩
theorem Fr.kpL (h : Fr [p] H H1) (e : H p = some (.lst xs)) : Kp H H1 := fun a ys s => by
  rcases s with s | ⟨o, s⟩
  · exact .inl (h.at s (by simp; rintro rfl; rw [e] at s; cases s))
  · exact .inr ⟨o, h.at s (by simp; rintro rfl; rw [e] at s; cases s)⟩
theorem Fr.kpL2 {ys : List V} (h : Fr [p, q] H H1) (e : H p = some (.lst xs)) (e2 : H q = some (.lst ys)) : Kp H H1 := fun a ys s => by
  rcases s with s | ⟨o, s⟩
  · exact .inl (h.at s (by simp; constructor <;> (rintro rfl; simp_all)))
  · exact .inr ⟨o, h.at s (by simp; constructor <;> (rintro rfl; simp_all))⟩
theorem Same.kp (h : Same H H1) : Kp H H1 := (Fr.of_same (M := []) h).kp0
mutual
theorem Rp.mono (k : Kp H H1) : ∀ {d : D} {v : V}, Rp K H d v → Rp K H1 d v
  | .non, _, h => h
  | .bl _, _, h => h
  | .int _, _, h => h
  | .str _, _, h => h
  | .tup _, _, ⟨a, vs, e, s, r⟩ => ⟨a, vs, e, k.sq s, RpL.mono k r⟩
theorem RpL.mono (k : Kp H H1) : ∀ {ds : List D} {vs : List V}, RpL K H ds vs → RpL K H1 ds vs
  | [], _, h => h
  | _ :: _, _, ⟨v, r, e, h, t⟩ => ⟨v, r, e, Rp.mono k h, RpL.mono k t⟩
end
theorem RpL.length : ∀ {ds : List D} {vs : List V}, RpL K H ds vs → vs.length = ds.length
  | [], _, h => by cases h; rfl
  | _ :: _, _, ⟨_, r, e, _, t⟩ => by cases e; simp [RpL.length t]
end
end Lf
namespace Lf
open PySem PySem.Spec PyProof.Rows L2
/-! ### readings, step by step: each rule keeps what follows as one function -/
section
variable {K : PySem.W.Frag} {σ : L2.St} {H H1 : Hp} {Q : VK} {R : Bool → Hp → Prop} {S : L2.St → Hp → Prop} {L : List V → Hp → Prop} {ta tb tc te : TE} {tt tu : TT} {v x y : V} {a b p : Addr} {D : Ends} {xs ys : List V} {t u : TS} {i j : Int} {tr : TA}
def IsB (x : V) (H : Hp) (R : Bool → Hp → Prop) : Prop := ∃ k, x = .bl k ∧ R k H
def AndB (x : V) (te : TE) (σ : L2.St) (H : Hp) (Q : VK) : Prop := ∃ c, x = .bl c ∧ if c = true then te σ H Q else Q (.bl false) H
def OrB (x : V) (te : TE) (σ : L2.St) (H : Hp) (Q : VK) : Prop := ∃ c, x = .bl c ∧ if c = true then Q (.bl true) H else te σ H Q
def NotB (x : V) (H : Hp) (Q : VK) : Prop := ∃ c, x = .bl c ∧ Q (.bl (!c)) H
def NewT (xs : List V) (H : Hp) (Q : VK) : Prop := xs.length ≤ sizeLine ∧ ∀ p, H p = none → Q (.ref p) (upd H p (.tup xs))
def NewL (xs : List V) (H : Hp) (Q : VK) : Prop := xs.length ≤ sizeLine ∧ ∀ p, H p = none → Q (.ref p) (upd H p (.lst xs))
def Two (k l : Nat) (vs : List V) (σ : L2.St) (H : Hp) (S : L2.St → Hp → Prop) : Prop := ∃ v w, vs = [v, w] ∧ S ((σ.set k (some v)).set l (some w)) H
theorem rd_var {k : Nat} (h : σ[k]? = some (some v)) (q : Q v H) : tVar k σ H Q := ⟨v, h, q⟩
theorem rd_c (q : Q v H) : tC v σ H Q := q
theorem rd_op {r : R2} (q : ta σ H fun x H1 => tb σ H1 fun y H2 => r x y H2 Q) : tOp r ta tb σ H Q := q
theorem rd_un {r : V → Hp → VK → Prop} (q : ta σ H fun x H1 => r x H1 Q) : tUn r ta σ H Q := q
theorem rd_test (q : te σ H fun x H' => IsB x H' R) : tTest te σ H R := q
theorem rd_b (q : te σ H fun x H' => IsB x H' R) : tB te σ H R := q
theorem rd_isb {c : Bool} (q : R c H) : IsB (.bl c) H R := ⟨c, rfl, q⟩
theorem rd_and (q : tt σ H fun c H1 => if c = true then tu σ H1 R else R false H1) : tAnd tt tu σ H R := q
theorem rd_or (q : tt σ H fun c H1 => if c = true then R true H1 else tu σ H1 R) : tOr tt tu σ H R := q
theorem rd_not (q : tt σ H fun c H1 => R (!c) H1) : tNot tt σ H R := q
theorem rd_andV (q : ta σ H fun x H1 => AndB x tb σ H1 Q) : tAndV ta tb σ H Q := q
theorem rd_orV (q : ta σ H fun x H1 => OrB x tb σ H1 Q) : tOrV ta tb σ H Q := q
theorem rd_andb {c : Bool} (q : if c = true then te σ H Q else Q (.bl false) H) : AndB (.bl c) te σ H Q := ⟨c, rfl, q⟩
theorem rd_orb {c : Bool} (q : if c = true then Q (.bl true) H else te σ H Q) : OrB (.bl c) te σ H Q := ⟨c, rfl, q⟩
theorem rd_notV (q : ta σ H fun x H1 => NotB x H1 Q) : tNotV ta σ H Q := q
theorem rd_notb {c : Bool} (q : Q (.bl (!c)) H) : NotB (.bl c) H Q := ⟨c, rfl, q⟩
theorem rd_ife (q : tt σ H fun c H1 => if c = true then ta σ H1 Q else tb σ H1 Q) : tIf tt ta tb σ H Q := q
theorem rd_seq (q : t { D with nx := u D } σ H) : tSeq t u D σ H := q
theorem rd_seqc (h : ∀ N : L2.St → Hp → Prop, (∀ σ H, u D σ H → N σ H) → t { D with nx := N } σ H) : tSeq t u D σ H := h (u D) fun _ _ x => x
theorem rd_drop (q : te σ H fun _ H1 => D.nx σ H1) : tDrop te D σ H := q
theorem rd_ret (q : te σ H D.rt) : tRet te D σ H := q
theorem rd_retN (q : D.rt .non H) : tRetN D σ H := q
theorem rd_next (q : D.nx σ H) : tNext D σ H := q
theorem rd_break (q : D.bk σ H) : tBreak D σ H := q
theorem rd_cont (q : D.ct σ H) : tCont D σ H := q
theorem rd_if (q : tt σ H fun b H1 => if b = true then t D σ H1 else u D σ H1) : tIfS tt t u D σ H := q
theorem rd_asg {g : TG} (q : te σ H fun x H1 => g x σ H1 D.nx) : tAsg te g D σ H := q
theorem rd_gname {k : Nat} (q : S (σ.set k (some v)) H) : gName k v σ H S := q
theorem rd_gtup {n : Nat} {g : TGs} (h : SqT K H a xs) (hl : xs.length = n) (q : g xs σ H S) : gTup K n g (.ref a) σ H S := ⟨a, xs, rfl, h, hl, q⟩
theorem rd_gnil (q : S σ H) : gNil [] σ H S := ⟨rfl, q⟩
theorem rd_gcons {g : TG} {gs : TGs} (q : g v σ H fun σ' H' => gs xs σ' H' S) : gCons g gs (v :: xs) σ H S := ⟨v, xs, rfl, q⟩
theorem rd_gsub {to ti : TE} {ts : TSet} (q : to σ H fun o H1 => ti σ H1 fun i H2 => ts o i v H2 fun H3 => S σ H3) : gSub to ti ts v σ H S := q
theorem rd_par {k l : Nat} (q : tr σ H fun vs H1 => Two k l vs σ H1 D.nx) : tPar k l tr D σ H := q
theorem rd_two {k l : Nat} (q : S ((σ.set k (some x)).set l (some y)) H) : Two k l [x, y] σ H S := ⟨x, y, rfl, q⟩
theorem rd_nil (q : L [] H) : tNil σ H L := q
theorem rd_cons (q : ta σ H fun x H1 => tr σ H1 fun xs H2 => L (x :: xs) H2) : tCons ta tr σ H L := q
theorem rd_cb {r : List V → Hp → VK → Prop} (q : tr σ H fun vs H1 => r vs H1 Q) : tCB r tr σ H Q := q
theorem rd_call {sp : Sp} {E : XK} (q : tr σ H fun vs H1 => sp (vs ++ []) H1 Q E) : tCall sp [] E tr σ H Q := q
theorem rd_tup (q : tr σ H fun xs H1 => NewT xs H1 Q) : tTup tr σ H Q := q
theorem rd_lst (q : tr σ H fun xs H1 => NewL xs H1 Q) : tLst tr σ H Q := q
theorem rd_newT (hl : xs.length ≤ 1000) (q : ∀ p H2, H p = none → Fr [] H H2 → H2 p = some (.tup xs) → Q (.ref p) H2) : NewT xs H Q :=
  ⟨Nat.le_of_lt (small1000 hl), fun p hp => q p _ hp ((Fr.refl [] H).new hp) upd_same⟩
theorem rd_newL (hl : xs.length ≤ 1000) (q : ∀ p H2, H p = none → Fr [] H H2 → H2 p = some (.lst xs) → Q (.ref p) H2) : NewL xs H Q :=
  ⟨Nat.le_of_lt (small1000 hl), fun p hp => q p _ hp ((Fr.refl [] H).new hp) upd_same⟩
/-! operators by values -/
theorem rd_I0 {g : Int → Int → V} (q : Q (g i j) H) : rI0 g (.int i) (.int j) H Q := ⟨i, j, rfl, rfl, q⟩
theorem rd_I {C : Int → Int → Prop} {g : Int → Int → V} (c : C i j) (q : Q (g i j) H) : rI C g (.int i) (.int j) H Q := ⟨i, j, rfl, rfl, c, q⟩
theorem rd_plusI (q : Q (.int (i + j)) H) : rPlus K (.int i) (.int j) H Q := .inl ⟨i, j, rfl, rfl, q⟩
theorem rd_plusS {s z : Str} (h : s.length + z.length ≤ sizeLine) (q : Q (.str (s ++ z)) H) : rPlus K (.str s) (.str z) H Q := .inr (.inl ⟨s, z, rfl, rfl, h, q⟩)
theorem rd_plusL (ha : H a = some (.lst xs)) (hb : H b = some (.lst ys)) (h : xs.length + ys.length ≤ sizeLine) (q : ∀ p H2, H p = none → Fr [] H H2 → H2 p = some (.lst (xs ++ ys)) → Q (.ref p) H2) : rPlus K (.ref a) (.ref b) H Q :=
  .inr (.inr (.inl ⟨a, b, xs, ys, rfl, rfl, ha, hb, h, fun p hp => q p _ hp ((Fr.refl [] H).new hp) upd_same⟩))
theorem rd_plusT (ha : SqT K H a xs) (hb : SqT K H b ys) (h : xs.length + ys.length ≤ sizeLine) (q : ∀ p H2, Fr [] H H2 → SqT K H2 p (xs ++ ys) → Q (.ref p) H2) : rPlus K (.ref a) (.ref b) H Q :=
  .inr (.inr (.inr ⟨a, b, xs, ys, rfl, rfl, ha, hb, h, fun e => q b H (Fr.refl _ _) (by subst e; exact hb), fun _ e => q a H (Fr.refl _ _) (by subst e; rw [List.append_nil]; exact ha), fun _ _ p hp => q p _ ((Fr.refl [] H).new hp) (SqT.of upd_same)⟩))
theorem rd_mulL (h : -(2 ^ 64) < i ∧ i < 2 ^ 64) (q : Q (.int (i * j)) H) : rTimes K (.int i) (.int j) H Q := .inl ⟨i, j, rfl, rfl, .inl h, q⟩
theorem rd_mulR (h : -(2 ^ 64) < j ∧ j < 2 ^ 64) (q : Q (.int (i * j)) H) : rTimes K (.int i) (.int j) H Q := .inl ⟨i, j, rfl, rfl, .inr h, q⟩
theorem rd_mulW (m n : Nat) (hi : i.natAbs < 2 ^ m) (hj : j.natAbs < 2 ^ n) (h : m + n ≤ 900000) (q : Q (.int (i * j)) H) : rTimes K (.int i) (.int j) H Q :=
  .inr (.inl ⟨i, j, rfl, rfl, wide_mul (a := m + 1) (b := n + 1) (Nat.lt_of_lt_of_le hi (Nat.pow_le_pow_right (by decide) (Nat.le_succ _))) (Nat.lt_of_lt_of_le hj (Nat.pow_le_pow_right (by decide) (Nat.le_succ _))) (Nat.succ_pos _) (Nat.succ_pos _) (by omega), q⟩)
theorem rd_eqS (h : scal x y = true) (q : Q (.bl (decide (x = y))) H) : rEqA K x y H Q := .inl ⟨h, q⟩
theorem rd_neS (h : scal x y = true) (q : Q (.bl (!decide (x = y))) H) : rNeA K x y H Q := .inl ⟨h, q⟩
theorem rd_eqD {d e : PyData} (h1 : Dp K H x d) (h2 : Dp K H y e) (s1 : SeqAt.shaped d = true) (s2 : SeqAt.shaped e = true) (q : Q (.bl (PyData.eqv d e)) H) : rEqA K x y H Q := .inr ⟨d, e, h1, h2, s1, s2, q⟩
theorem rd_neD {d e : PyData} (h1 : Dp K H x d) (h2 : Dp K H y e) (s1 : SeqAt.shaped d = true) (s2 : SeqAt.shaped e = true) (q : Q (.bl (!PyData.eqv d e)) H) : rNeA K x y H Q := .inr ⟨d, e, h1, h2, s1, s2, q⟩
theorem rd_ixT (h : SqT K H p xs) (ha : atI xs i = some v) (q : Q v H) : rIx K (.ref p) (.int i) H Q := .inr (.inl ⟨p, xs, i, v, rfl, rfl, h, ha, q⟩)
theorem rd_ixK {H0 : Hp} (h : SqT K H0 p xs) (k : Kp H0 H) (ha : atI xs i = some v) (q : Q v H) : rIx K (.ref p) (.int i) H Q := rd_ixT (k.sq h) ha q
theorem rd_lenK {H0 : Hp} (h : SqT K H0 p xs) (k : Kp H0 H) (q : Q (.int xs.length) H) : rLenA K [.ref p] H Q := ⟨_, _, rfl, .inr ⟨xs, k.sq h, rfl⟩, q⟩
theorem rd_gtupK {H0 : Hp} {n : Nat} {g : TGs} (h : SqT K H0 a xs) (k : Kp H0 H) (hl : xs.length = n) (q : g xs σ H S) : gTup K n g (.ref a) σ H S := rd_gtup (k.sq h) hl q
theorem rd_ixL (h : SqL K H p xs) (ha : atI xs i = some v) (q : Q v H) : rIx K (.ref p) (.int i) H Q := .inl ⟨p, xs, i, v, rfl, rfl, h, ha, q⟩
theorem rd_ixH (h : H p = some (.lst xs)) (ha : atI xs i = some v) (q : Q v H) : rIx K (.ref p) (.int i) H Q := .inl ⟨p, xs, i, v, rfl, rfl, SqL.of h, ha, q⟩
theorem rd_ixS {z : Str} {c : Nat} (h : z.length ≤ 1000) (ha : atI z.cps.toList i = some c) (q : Q (.str ⟨#[c]⟩) H) : rIx K (.str z) (.int i) H Q := .inr (.inr ⟨z, i, c, rfl, rfl, Nat.le_of_lt (small1000 h), ha, q⟩)
theorem rd_lenL (h : SqL K H p xs) (q : Q (.int xs.length) H) : rLenA K [.ref p] H Q := ⟨_, _, rfl, .inl ⟨xs, h, rfl⟩, q⟩
theorem rd_lenH (h : H p = some (.lst xs)) (q : Q (.int xs.length) H) : rLenA K [.ref p] H Q := ⟨_, _, rfl, .inl ⟨xs, SqL.of h, rfl⟩, q⟩
theorem rd_lenT (h : SqT K H p xs) (q : Q (.int xs.length) H) : rLenA K [.ref p] H Q := ⟨_, _, rfl, .inr ⟨xs, h, rfl⟩, q⟩
theorem rd_lenS {z : Str} (h : z.length ≤ sizeLine) (q : Q (.int z.length) H) : rLenA K [.str z] H Q := ⟨_, _, rfl, ⟨h, rfl⟩, q⟩
theorem rd_setL {k : Int} {n : Nat} {T : Hp → Prop} (h : H p = some (.lst xs)) (hn : ixN xs.length k = some n) (q : ∀ H2, Fr [p] H H2 → Kp H H2 → H2 p = some (.lst (xs.set n v)) → T H2) : rSetL (.ref p) (.int k) v H T :=
  ⟨p, xs, k, n, rfl, rfl, h, hn, q _ ((Fr.refl [p] H).put (by simp)) (((Fr.refl [p] H).put (by simp)).kpL h) upd_same⟩
theorem rd_list (h : SqL K H p xs) (q : ∀ l H2, H l = none → Fr [] H H2 → H2 l = some (.lst xs) → Q (.ref l) H2) : rListOf K [.ref p] H Q := ⟨p, xs, rfl, .inl h, fun l hl => q l _ hl ((Fr.refl [] H).new hl) upd_same⟩
theorem rd_listT (h : SqT K H p xs) (q : ∀ l H2, H l = none → Fr [] H H2 → H2 l = some (.lst xs) → Q (.ref l) H2) : rListOf K [.ref p] H Q := ⟨p, xs, rfl, .inr h, fun l hl => q l _ hl ((Fr.refl [] H).new hl) upd_same⟩
theorem rd_bm {T : String} {r : V → List V → Hp → VK → Prop} {to : TE} (q : to σ H fun x H1 => tyV K T x H1 ∧ tr σ H1 fun xs H2 => r x xs H2 Q) : tBM K T r to tr σ H Q := q
theorem rd_tyL {G : Prop} (h : H a = some (.lst xs)) (q : G) : tyV K "list" (.ref a) H ∧ G := ⟨Or.inl ⟨rfl, _, SqL.of h⟩, q⟩
theorem rd_app (h : H a = some (.lst xs)) (hl : xs.length ≤ 1000) (q : ∀ H2, Fr [a] H H2 → Kp H H2 → H2 a = some (.lst (xs ++ [v])) → Q .non H2) : rAppend (.ref a) [v] H Q :=
  ⟨a, xs, v, rfl, rfl, h, small1000 hl, q _ ((Fr.refl [a] H).put (by simp)) (((Fr.refl [a] H).put (by simp)).kpL h) upd_same⟩
theorem rd_abs (q : Q (.int (if i < 0 then -i else i)) H) : rAbs [.int i] H Q := ⟨i, rfl, q⟩
theorem rd_neg {g : Int → V} (q : Q (g i) H) : rU g (.int i) H Q := ⟨i, rfl, q⟩
theorem rd_max2 (q : Q (.int (if j > i then j else i)) H) : rMax2 [.int i, .int j] H Q := ⟨i, j, rfl, q⟩
theorem rd_isi {n m : String} {k : Bool} (h : TyX K H x (.type n)) (hk : kitB n m = some k) (q : Q (.bl k) H) : rIsi K [x, .ty m] H Q := ⟨x, .ty m, _, _, k, rfl, .ty m, h, kit_ty hk, q⟩
theorem ty_tup (h : SqT K H a xs) : TyX K H (.ref a) (.type "tuple") := by
  rcases h with (h | ⟨o, h⟩) | ⟨o, its, n, h, hc, _⟩
  · exact .base (.tup h)
  · exact .fTuple h
  · exact .kTuple h hc
theorem ifT {b : Bool} {A B : Prop} (h : b = true) (q : A) : if b = true then A else B := by rw [if_pos h]; exact q
theorem ifF {b : Bool} {A B : Prop} (h : b = false) (q : B) : if b = true then A else B := by rw [if_neg (by rw [h]; decide)]; exact q
theorem rd_for {wi : TI} {g : TG} {tb : TS} (q : wi σ H fun J H1 => ∃ W : Nat → Nat → L2.St → Hp → Prop, (∃ m, W 0 m σ H1) ∧ ∀ i m σ H, W i m σ H →
    (J.stop i H ∧ D.nx σ H) ∨ (J.go i H ∧ ∃ N : L2.St → Hp → Prop, (∀ σ' H', N σ' H' → ∃ m', m' < m ∧ W (i + 1) m' σ' H') ∧ ∀ x H', J.yld i H x H' → g x σ H' fun σ2 H2 => tb { D with nx := N, ct := N, bk := D.nx } σ2 H2)) : tFor wi g tb D σ H := q
theorem rd_intI (q : Q (.int i) H) : rIntC [.int i] H Q := .inl ⟨i, rfl, q⟩
theorem rd_intB {k : Bool} (q : Q (.int (if k then 1 else 0)) H) : rIntC [.bl k] H Q := .inr ⟨k, rfl, q⟩
theorem rd_gunl {n : Nat} {g : TGs} (h : SqL K H a xs) (hl : xs.length = n) (q : g xs σ H S) : gUnl K n g (.ref a) σ H S := ⟨a, xs, rfl, h, hl, q⟩
/-! what a for walks, what a comprehension walks -/
def Rng1 (vs : List V) (H : Hp) (W : It → Hp → Prop) : Prop := ∃ j : Int, vs = [.int j] ∧ -(2 ^ 62) ≤ j ∧ j < 2 ^ 62 ∧ W (Itr 0 j.toNat) H
def Rng2 (vs : List V) (H : Hp) (W : It → Hp → Prop) : Prop := ∃ i j : Int, vs = [.int i, .int j] ∧ (-(2 ^ 62) ≤ i ∧ i < 2 ^ 62 ∧ -(2 ^ 62) ≤ j ∧ j < 2 ^ 62) ∧ W (Itr i (j - i).toNat) H
def IsLi (K : PySem.W.Frag) (x : V) (H : Hp) (W : It → Hp → Prop) : Prop := ∃ a, x = .ref a ∧ (∃ xs, SqL K H a xs) ∧ W (Itl K a) H
def IsTu (K : PySem.W.Frag) (x : V) (H : Hp) (W : It → Hp → Prop) : Prop := ∃ a, x = .ref a ∧ (∃ xs, SqT K H a xs) ∧ W (Itt K a) H
theorem rd_irng1 {W : It → Hp → Prop} (q : tr σ H fun vs H1 => Rng1 vs H1 W) : iRng1 tr σ H W := q
theorem rd_irng2 {W : It → Hp → Prop} (q : tr σ H fun vs H1 => Rng2 vs H1 W) : iRng2 tr σ H W := q
theorem rd_rng1 {W : It → Hp → Prop} (h : -(2 ^ 62) ≤ j ∧ j < 2 ^ 62) (q : W (Itr 0 j.toNat) H) : Rng1 [.int j] H W := ⟨j, rfl, h.1, h.2, q⟩
theorem rd_rng2 {W : It → Hp → Prop} (h : -(2 ^ 62) ≤ i ∧ i < 2 ^ 62 ∧ -(2 ^ 62) ≤ j ∧ j < 2 ^ 62) (q : W (Itr i (j - i).toNat) H) : Rng2 [.int i, .int j] H W := ⟨i, j, rfl, h, q⟩
theorem rd_ilist {W : It → Hp → Prop} (q : te σ H fun x H1 => IsLi K x H1 W) : iList K te σ H W := q
theorem rd_ituple {W : It → Hp → Prop} (q : te σ H fun x H1 => IsTu K x H1 W) : iTup K te σ H W := q
theorem rd_isli {W : It → Hp → Prop} (h : SqL K H a xs) (q : W (Itl K a) H) : IsLi K (.ref a) H W := ⟨a, rfl, ⟨xs, h⟩, q⟩
theorem rd_istu {W : It → Hp → Prop} (h : SqT K H a xs) (q : W (Itt K a) H) : IsTu K (.ref a) H W := ⟨a, rfl, ⟨xs, h⟩, q⟩
theorem rd_istuK {H0 : Hp} {W : It → Hp → Prop} (h : SqT K H0 a xs) (k : Kp H0 H) (q : W (Itt K a) H) : IsTu K (.ref a) H W := rd_istu (k.sq h) q
/-- the loop over J, W being still to be found -/
def ForT (J : It) (g : TG) (tb : TS) (D : Ends) (σ : L2.St) (H : Hp) : Prop := ∃ W : Nat → Nat → L2.St → Hp → Prop, (∃ m, W 0 m σ H) ∧ ∀ i m σ H, W i m σ H →
    (J.stop i H ∧ D.nx σ H) ∨ (J.go i H ∧ ∃ N : L2.St → Hp → Prop, (∀ σ' H', N σ' H' → ∃ m', m' < m ∧ W (i + 1) m' σ' H') ∧ ∀ x H', J.yld i H x H' → g x σ H' fun σ2 H2 => tb { D with nx := N, ct := N, bk := D.nx } σ2 H2)
theorem rd_fort {wi : TI} {g : TG} {tb : TS} (q : wi σ H fun J H1 => ForT J g tb D σ H1) : tFor wi g tb D σ H := q
theorem rd_forR {n : Nat} {g : TG} {tb : TS} (Pv : Nat → L2.St → Hp → Prop) (h0 : Pv 0 σ H)
    (hs : ∀ k σ H, k < n → Pv k σ H → g (.int (i + k)) σ H fun σ2 H2 => tb { D with nx := Pv (k + 1), ct := Pv (k + 1), bk := D.nx } σ2 H2) (hd : ∀ σ H, Pv n σ H → D.nx σ H) : ForT (Itr i n) g tb D σ H := for_range Pv h0 hs hd
theorem rd_forL {g : TG} {tb : TS} (xs : List V) (Pv : Nat → L2.St → Hp → Prop) (h0 : Pv 0 σ H) (hl : ∀ k σ H, k ≤ xs.length → Pv k σ H → SqL K H a xs)
    (hs : ∀ k x σ H, xs[k]? = some x → Pv k σ H → g x σ H fun σ2 H2 => tb { D with nx := Pv (k + 1), ct := Pv (k + 1), bk := D.nx } σ2 H2) (hd : ∀ σ H, Pv xs.length σ H → D.nx σ H) : ForT (Itl K a) g tb D σ H := for_list Pv h0 hl hs hd
theorem rd_forT {g : TG} {tb : TS} (xs : List V) (Pv : Nat → L2.St → Hp → Prop) (h0 : Pv 0 σ H) (hl : ∀ k σ H, k ≤ xs.length → Pv k σ H → SqT K H a xs)
    (hs : ∀ k x σ H, xs[k]? = some x → Pv k σ H → g x σ H fun σ2 H2 => tb { D with nx := Pv (k + 1), ct := Pv (k + 1), bk := D.nx } σ2 H2) (hd : ∀ σ H, Pv xs.length σ H → D.nx σ H) : ForT (Itt K a) g tb D σ H := for_tup Pv h0 hl hs hd
def LcEnd (D : Addr) (P : Hp → Prop) (y : V) (H4 : Hp) : Prop := ∃ acc, H4 D = some (.lst acc) ∧ acc.length < sizeLine ∧ P (upd H4 D (.lst (acc ++ [y])))
def LcIn (tt : TT) (te : TE) (vs : List Nat) (σ : L2.St) (D : Addr) (P : Hp → Prop) (σ2 : L2.St) (H2 : Hp) : Prop := wipe σ2 vs = wipe σ vs ∧ tt σ2 H2 fun b H3 => if b = true then te σ2 H3 fun y H4 => LcEnd D P y H4 else P H3
def LcT (J : It) (g : TG) (tt : TT) (te : TE) (vs : List Nat) (σ : L2.St) (H1 : Hp) (Q : VK) : Prop := ∀ D, H1 D = none → ∃ W : Nat → Nat → Hp → Prop, (∃ m, W 0 m (upd H1 D (.lst []))) ∧ ∀ i m H, W i m H →
  (J.stop i H ∧ Q (.ref D) H) ∨ (J.go i H ∧ ∃ Nx : Hp → Prop, (∀ H', Nx H' → ∃ m', m' < m ∧ W (i + 1) m' H') ∧ ∀ x H', J.yld i H x H' → g x (wipe σ vs) H' fun σ2 H2 => LcIn tt te vs σ D Nx σ2 H2)
theorem rd_lc {wi : TI} {g : TG} {vs : List Nat} (q : wi σ H fun J H1 => LcT J g tt te vs σ H1 Q) : tLc wi g tt te vs σ H Q := q
/-- a word over what is made so far -/
abbrev LcP (D : Addr) (Pv : Nat → List V → Hp → Prop) (i : Nat) : Hp → Prop := fun H => ∃ acc, H D = some (.lst acc) ∧ Pv i acc H
theorem rd_lcR {n : Nat} {g : TG} {vs : List Nat} (q : ∀ D H1, H D = none → Fr [] H H1 → H1 D = some (.lst []) → ∃ Pv : Nat → List V → Hp → Prop, Pv 0 [] H1 ∧
    (∀ k acc H', k < n → H' D = some (.lst acc) → Pv k acc H' → g (.int (i + k)) (wipe σ vs) H' fun σ2 H2 => LcIn tt te vs σ D (LcP D Pv (k + 1)) σ2 H2) ∧ ∀ acc H', H' D = some (.lst acc) → Pv n acc H' → Q (.ref D) H') : LcT (Itr i n) g tt te vs σ H Q := fun D hD => by
  obtain ⟨Pv, h0, hs, hd⟩ := q D (upd H D (.lst [])) hD ((Fr.refl [] H).new hD) upd_same
  exact lc_range (LcP D Pv) ⟨[], upd_same, h0⟩ (fun k H' hk ⟨acc, e, p⟩ => hs k acc H' hk e p) fun H' ⟨acc, e, p⟩ => hd acc H' e p
theorem rd_lcL {g : TG} {vs : List Nat} (xs : List V) (q : ∀ D H1, H D = none → Fr [] H H1 → H1 D = some (.lst []) → ∃ Pv : Nat → List V → Hp → Prop, Pv 0 [] H1 ∧ (∀ k acc H', k ≤ xs.length → Pv k acc H' → SqL K H' a xs) ∧
    (∀ k x acc H', xs[k]? = some x → H' D = some (.lst acc) → Pv k acc H' → g x (wipe σ vs) H' fun σ2 H2 => LcIn tt te vs σ D (LcP D Pv (k + 1)) σ2 H2) ∧ ∀ acc H', H' D = some (.lst acc) → Pv xs.length acc H' → Q (.ref D) H') : LcT (Itl K a) g tt te vs σ H Q := fun D hD => by
  obtain ⟨Pv, h0, hl, hs, hd⟩ := q D (upd H D (.lst [])) hD ((Fr.refl [] H).new hD) upd_same
  exact lc_list (K := K) (a := a) (xs := xs) (LcP D Pv) ⟨[], upd_same, h0⟩ (fun k H' hk ⟨acc, e, p⟩ => hl k acc H' hk p) (fun k x H' hx ⟨acc, e, p⟩ => hs k x acc H' hx e p) fun H' ⟨acc, e, p⟩ => hd acc H' e p
theorem rd_lcT {g : TG} {vs : List Nat} (xs : List V) (q : ∀ D H1, H D = none → Fr [] H H1 → H1 D = some (.lst []) → ∃ Pv : Nat → List V → Hp → Prop, Pv 0 [] H1 ∧ (∀ k acc H', k ≤ xs.length → Pv k acc H' → SqT K H' a xs) ∧
    (∀ k x acc H', xs[k]? = some x → H' D = some (.lst acc) → Pv k acc H' → g x (wipe σ vs) H' fun σ2 H2 => LcIn tt te vs σ D (LcP D Pv (k + 1)) σ2 H2) ∧ ∀ acc H', H' D = some (.lst acc) → Pv xs.length acc H' → Q (.ref D) H') : LcT (Itt K a) g tt te vs σ H Q := fun D hD => by
  obtain ⟨Pv, h0, hl, hs, hd⟩ := q D (upd H D (.lst [])) hD ((Fr.refl [] H).new hD) upd_same
  exact lc_tup (K := K) (a := a) (xs := xs) (LcP D Pv) ⟨[], upd_same, h0⟩ (fun k H' hk ⟨acc, e, p⟩ => hl k acc H' hk p) (fun k x H' hx ⟨acc, e, p⟩ => hs k x acc H' hx e p) fun H' ⟨acc, e, p⟩ => hd acc H' e p
theorem rd_lcin {vs : List Nat} {σ2 : L2.St} {Dd : Addr} {P : Hp → Prop} (h : wipe σ2 vs = wipe σ vs) (q : tt σ2 H fun b H3 => if b = true then te σ2 H3 fun y H4 => LcEnd Dd P y H4 else P H3) : LcIn tt te vs σ Dd P σ2 H := ⟨h, q⟩
theorem rd_yes (q : R true H) : tYes σ H R := q
theorem rd_lcend {Dd : Addr} {Pv : Nat → List V → Hp → Prop} {k : Nat} {acc : List V} (h : H Dd = some (.lst acc)) (hl : acc.length ≤ 1000) (q : ∀ H5, Fr [Dd] H H5 → Kp H H5 → H5 Dd = some (.lst (acc ++ [v])) → Pv k (acc ++ [v]) H5) : LcEnd Dd (LcP Dd Pv k) v H :=
  ⟨acc, h, small1000 hl, acc ++ [v], upd_same, q _ ((Fr.refl [Dd] H).put (by simp)) (((Fr.refl [Dd] H).put (by simp)).kpL h) upd_same⟩
theorem rd_while {c : TT} {tb : TS} (Pv : L2.St → Hp → Prop) (μ : L2.St → Hp → Nat) (h0 : Pv σ H)
    (hs : ∀ σ H, Pv σ H → c σ H fun b H1 => if b = true then ∃ N : L2.St → Hp → Prop, (∀ σ' H', N σ' H' → ∃ m', m' < μ σ H ∧ (m' = μ σ' H' ∧ Pv σ' H')) ∧ tb { D with nx := N, ct := N, bk := D.nx } σ H1 else D.nx σ H1) : tWhile c tb D σ H :=
  ⟨fun m σ H => m = μ σ H ∧ Pv σ H, ⟨_, rfl, h0⟩, fun m σ H p => by obtain ⟨rfl, p⟩ := p; exact hs σ H p⟩
theorem rd_turn {Pv : L2.St → Hp → Prop} {μ : L2.St → Hp → Nat} {n : Nat} {tb : TS} (q : tb { D with nx := fun σ' H' => Pv σ' H' ∧ μ σ' H' < n, ct := fun σ' H' => Pv σ' H' ∧ μ σ' H' < n, bk := D.nx } σ H1) :
    ∃ N : L2.St → Hp → Prop, (∀ σ' H', N σ' H' → ∃ m', m' < n ∧ (m' = μ σ' H' ∧ Pv σ' H')) ∧ tb { D with nx := N, ct := N, bk := D.nx } σ H1 := ⟨_, fun _ _ ⟨p', l⟩ => ⟨_, l, rfl, p'⟩, q⟩
end
end Lf
namespace Lf
open PySem L2
def top (i : Nat) : Stmt := PySem.Challenge.pw_lapfold_k35_whole_shares_are_fractions.main.body.getD i (.Pass ⟨0, 0, 0, 0⟩)
end Lf
local macro_rules | `(tactic| walk_at "rd1") => `(tactic| first
  | with_reducible refine Lf.rd_var rfl ?_ | with_reducible refine Lf.rd_c ?_ | with_reducible refine Lf.rd_op ?_
  | with_reducible refine Lf.rd_test ?_ | with_reducible refine Lf.rd_isb ?_ | with_reducible refine Lf.rd_nil ?_ | with_reducible refine Lf.rd_cons ?_
  | with_reducible refine Lf.rd_plusI ?_ | with_reducible refine Lf.rd_I0 ?_ | with_reducible refine Lf.rd_cb ?_ | with_reducible refine Lf.rd_call ?_
  | with_reducible refine Lf.rd_tup ?_ | with_reducible refine Lf.rd_lst ?_ | with_reducible refine Lf.rd_ret ?_ | with_reducible refine Lf.rd_asg ?_ | with_reducible refine Lf.rd_gname ?_
  | with_reducible refine Lf.rd_if ?_ | with_reducible refine Lf.rd_drop ?_ | with_reducible refine Lf.rd_next ?_ | with_reducible refine Lf.rd_par ?_ | with_reducible refine Lf.rd_two ?_
  | with_reducible refine Lf.rd_abs ?_ | with_reducible refine Lf.rd_max2 ?_ | with_reducible refine Lf.rd_neg ?_ | with_reducible refine Lf.rd_un ?_ | with_reducible refine Lf.rd_b ?_ | with_reducible refine Lf.rd_and ?_ | with_reducible refine Lf.rd_or ?_ | with_reducible refine Lf.rd_not ?_
  | with_reducible refine Lf.rd_andV ?_ | with_reducible refine Lf.rd_orV ?_ | with_reducible refine Lf.rd_andb ?_ | with_reducible refine Lf.rd_orb ?_ | with_reducible refine Lf.rd_notV ?_ | with_reducible refine Lf.rd_notb ?_
  | with_reducible refine Lf.rd_ife ?_ | with_reducible refine Lf.rd_retN ?_ | with_reducible refine Lf.rd_break ?_ | with_reducible refine Lf.rd_cont ?_
  | with_reducible refine Lf.rd_gsub ?_ | with_reducible refine Lf.rd_gnil ?_ | with_reducible refine Lf.rd_gcons ?_
  | with_reducible refine Lf.rd_bm ?_ | with_reducible refine Lf.rd_intI ?_ | with_reducible refine Lf.rd_intB ?_ | with_reducible refine Lf.rd_irng1 ?_ | with_reducible refine Lf.rd_irng2 ?_ | with_reducible refine Lf.rd_ilist ?_ | with_reducible refine Lf.rd_ituple ?_
  | with_reducible refine Lf.rd_fort ?_ | with_reducible refine Lf.rd_lc ?_ | with_reducible refine Lf.rd_lcin rfl ?_ | with_reducible refine Lf.rd_yes ?_
  | with_reducible refine Lf.rd_rng1 (by decide) ?_ | with_reducible refine Lf.rd_rng2 (by decide) ?_
  | with_reducible refine Lf.rd_eqS rfl ?_ | with_reducible refine Lf.rd_neS rfl ?_)
local macro_rules | `(tactic| walk_at "rd") => `(tactic| (repeat (first | (walk_at "rd1") | (with_reducible refine Lf.rd_seq ?_))))
local macro_rules | `(tactic| walk_at "rh1") => `(tactic| first
  | (walk_at "rd1")
  | ((with_reducible refine' Lf.rd_ixK ?hS ?hK ?hA ?_); (case hS => (walk_at "ht")); (case hK => (walk_at "kp")); (case hA => rfl))
  | ((with_reducible refine' Lf.rd_ixH ?hS ?hA ?_); (case hS => (walk_at "hp")); (case hA => rfl))
  | ((with_reducible refine' Lf.rd_lenH ?hS ?_); (case hS => (walk_at "hp")))
  | ((with_reducible refine' Lf.rd_lenK ?hS ?hK ?_); (case hS => (walk_at "ht")); (case hK => (walk_at "kp")))
  | ((with_reducible refine' Lf.rd_gtupK ?hS ?hK ?hA ?_); (case hS => (walk_at "ht")); (case hK => (walk_at "kp")); (case hA => rfl))
  | ((with_reducible refine' Lf.rd_gunl ?hS ?hA ?_); (case hS => (walk_at "hp")); (case hA => rfl))
  | ((with_reducible refine' Lf.rd_istuK ?hS ?hK ?_); (case hS => (walk_at "ht")); (case hK => (walk_at "kp")))
  | ((with_reducible refine' Lf.rd_isli ?hS ?_); (case hS => (walk_at "hp")))
  | ((with_reducible refine' Lf.rd_tyL ?hS ?_); (case hS => (walk_at "hp"))))
local macro_rules | `(tactic| walk_at "rh") => `(tactic| (repeat (first | (walk_at "rh1") | (with_reducible refine Lf.rd_seq ?_))))
local macro_rules | `(tactic| walk_at "rs") => `(tactic| (repeat (walk_at "rh1")))
-- a tracked list, as it was told last
local macro_rules | `(tactic| walk_at "hp") => `(tactic| first
  | assumption
  | ((refine' L2.SqL.of ?k1); (case k1 => (walk_at "hp")))
  | ((refine' Lf.Fr.at (M := []) ?k1 ?k3 ?k2); (case k1 => assumption); (case k2 => simp); (case k3 => (walk_at "hp")))
  | ((refine' Lf.Fr.seq0 ?k1 ?k3); (case k1 => assumption); (case k3 => (walk_at "hp"))))
-- a tuple, at whatever heap
local macro_rules | `(tactic| walk_at "ht") => `(tactic| first
  | assumption
  | ((refine' L2.SqT.of ?k1); (case k1 => assumption)))
-- tuples stay from one heap to another
local macro_rules | `(tactic| walk_at "kp") => `(tactic| first
  | assumption
  | exact Lf.Kp.refl _
  | ((refine' Lf.Kp.trans ?k3 (Lf.Fr.kp0 ?k1)); (case k1 => assumption); (case k3 => (walk_at "kp")))
  | ((refine' Lf.Kp.trans ?k3 ?k1); (case k1 => assumption); (case k3 => (walk_at "kp"))))
-- xs.append(v) of a tracked list
local macro_rules | `(tactic| walk_at "ap") => `(tactic| ((refine' Lf.rd_app ?k1 ?k2 ?k3); (case k1 => (walk_at "hp")); (case k2 => simp)))
namespace Lf
open PySem PySem.Spec PyProof.Rows L2
/-! ### shares: fractions in lowest terms are core's Rat -/
theorem sh_gcd_step (m n : Nat) : Nat.gcd n (m % n) = Nat.gcd m n := by
  rw [Nat.gcd_comm m n, Nat.gcd_rec n m, Nat.gcd_comm]
def Sh (K : PySem.W.Frag) (H : Hp) (v : V) (r : Rat) : Prop := ∃ a, v = .ref a ∧ SqT K H a [.int r.num, .int (r.den : Int)]
theorem Sh.kp {K : PySem.W.Frag} {H H1 : Hp} {v : V} {r : Rat} (g : Kp H H1) (h : Sh K H v r) : Sh K H1 v r := by
  obtain ⟨a, rfl, h⟩ := h; exact ⟨a, rfl, g.sq h⟩
theorem Sh.mono {K : PySem.W.Frag} {H H1 : Hp} {v : V} {r : Rat} (h : Sh K H v r) (g : Fr [] H H1) : Sh K H1 v r := h.kp g.kp0
def spDivisor : Sp := fun vs H Q _ => ∃ a b : Int, vs = [.int a, .int b] ∧ Q (.int (Int.gcd a b : Int)) H
def spShare (K : PySem.W.Frag) : Sp := fun vs H Q _ => ∃ a b : Int, vs = [.int a, .int b] ∧ b ≠ 0 ∧ b.natAbs < 2 ^ 8000 ∧ ∀ v H2, Fr [] H H2 → Sh K H2 v (Rat.divInt a b) → Q v H2
section
variable {P : Program} {w : World} {K : PySem.W.Frag} {mg : Str → Option Value} {base : Heap}
abbrev s_divisor : Stmt := top 1
abbrev N_divisor : List Str := ["one", "other"]
theorem sc_divisor : FnScope N_divisor ["one", "other"] (defScope s_divisor) := ⟨rfl, rfl, rfl, by decide +kernel, rfl, by decide +kernel, by decide +kernel⟩
theorem ok_divisor (T : Blt mg) (F : Here K mg "divisor" s_divisor ["one", "other"]) : DefOk P w K mg base CX0 "divisor" ["one", "other"] 1 spDivisor := by
  refine F.ok sc_divisor (fun vs H Q E h => ?_) (fun f cdv A outer s H vs Q E hr h => ?_)
  · obtain ⟨a, b, rfl, _⟩ := h; rfl
  obtain ⟨a, b, rfl, q⟩ := h
  have hu64 := hr.units
  refine ⟨_, (pss_cons (ps_set (i := 0) sc_divisor.nd rfl (Or.inl rfl) (pe_callB call_absA (by rfl) T.n_abs (by decide +kernel) (pa_cons (pv 0) pa_nil)))
    (pss_cons (ps_set (i := 1) sc_divisor.nd rfl (Or.inl rfl) (pe_callB call_absA (by rfl) T.n_abs (by decide +kernel) (pa_cons (pv 1) pa_nil)))
    (pss_cons (ps_while PassesOwn.never (pt_cmpR (op_neA hu64) (pv 1) pe_int (nomark _))
    (pss_one (ps_par (i := 0) (j := 1) (by rfl) sc_divisor.nd rfl rfl (by decide) rfl rfl (pa_cons (pv 1) (pa_cons (pe_op op_modN (pv 0) (pv 1)) pa_nil)) (by rfl))))
    (pss_one (ps_ret (pv 0)))))), ?_⟩
  walk_at "rd"
  refine rd_while (fun σ' H' => ∃ m n : Nat, σ' = [some (.int m), some (.int n)] ∧ Nat.gcd m n = Int.gcd a b ∧ H' = H) (fun σ' _ => match σ' with | [_, some (.int n)] => n.toNat | _ => 0) ?_ ?_
  · refine ⟨a.natAbs, b.natAbs, ?_, rfl, rfl⟩
    have ha : (if a < 0 then -a else a) = (a.natAbs : Int) := by split <;> omega
    have hb : (if b < 0 then -b else b) = (b.natAbs : Int) := by split <;> omega
    show [some (V.int (if a < 0 then -a else a)), some (V.int (if b < 0 then -b else b))] = _
    rw [ha, hb]
  · rintro σ' H' ⟨m, n, rfl, hg, rfl⟩
    walk_at "rd"
    by_cases hn : n = 0
    · subst hn
      refine (if_neg (by simp)).mpr ?_
      walk_at "rd"
      rw [Nat.gcd_zero_right] at hg
      rw [hg]; exact q
    · refine (if_pos (by simp; omega)).mpr ?_
      refine rd_turn ?_
      walk_at "rd"
      refine rd_I (by omega) ?_
      walk_at "rd"
      have e : Int.fmod (m : Int) (n : Int) = ((m % n : Nat) : Int) := by rw [Int.fmod_eq_emod_of_nonneg _ (by omega)]; rfl
      refine ⟨⟨n, m % n, ?_, by rw [sh_gcd_step, hg], rfl⟩, ?_⟩
      · rw [e]; rfl
      · show (Int.fmod (m : Int) (n : Int)).toNat < (n : Int).toNat
        rw [e]
        have := Nat.mod_lt m (Nat.pos_of_ne_zero hn)
        omega
theorem rat_num (a b : Int) (hb : b ≠ 0) : (Rat.divInt a b).num = (if b < 0 then 0 - a else a) / (Int.gcd (if b < 0 then 0 - a else a) (if b < 0 then 0 - b else b) : Int) := by
  rw [Rat.num_divInt]
  by_cases h : b < 0
  · rw [if_pos h, if_pos h, Int.sign_eq_neg_one_of_neg h, Int.gcd_comm b a]
    have e : Int.gcd (0 - a) (0 - b) = Int.gcd a b := by simp [Int.gcd]
    rw [e]
    congr 1
    omega
  · rw [if_neg h, if_neg h, Int.sign_eq_one_of_pos (by omega), Int.gcd_comm b a, Int.one_mul]
theorem rat_den (a b : Int) (hb : b ≠ 0) : ((Rat.divInt a b).den : Int) = (if b < 0 then 0 - b else b) / (Int.gcd (if b < 0 then 0 - a else a) (if b < 0 then 0 - b else b) : Int) := by
  rw [Rat.den_divInt, if_neg hb]
  have e : (if b < 0 then 0 - b else b) = (b.natAbs : Int) := by split <;> omega
  have e2 : Int.gcd (if b < 0 then 0 - a else a) (if b < 0 then 0 - b else b) = Int.gcd b a := by
    split <;> simp [Int.gcd, Nat.gcd_comm]
  rw [e2, e]; rfl
theorem gcd_bound {a b : Int} {n : Nat} (hb : b ≠ 0) (h : b.natAbs < n) : Int.gcd a b < n ∧ 0 < Int.gcd a b := by
  have h1 : 0 < b.natAbs := Int.natAbs_pos.mpr hb
  have h2 := Nat.le_of_dvd h1 (Nat.gcd_dvd_right a.natAbs b.natAbs)
  have h3 := Nat.gcd_pos_of_pos_right a.natAbs h1
  exact ⟨Nat.lt_of_le_of_lt h2 h, h3⟩
abbrev s_share : Stmt := top 2
abbrev N_share : List Str := ["top", "bottom", "common"]
theorem sc_share : FnScope N_share ["top", "bottom"] (defScope s_share) := ⟨rfl, rfl, rfl, by decide +kernel, rfl, by decide +kernel, by decide +kernel⟩
theorem ok_share (F : Here K mg "share" s_share ["top", "bottom"]) (D_divisor : DefOk P w K mg base CX0 "divisor" ["one", "other"] 1 spDivisor) : DefOk P w K mg base CX0 "share" ["top", "bottom"] 2 (spShare K) := by
  refine F.ok sc_share (fun vs H Q E h => ?_) (fun f cdv A outer s H vs Q E hr h => ?_)
  · obtain ⟨a, b, rfl, _⟩ := h; rfl
  obtain ⟨a, b, rfl, hb, hz, q⟩ := h
  have hu64 := hr.units
  have hr_divisor := hr
  refine ⟨_, (pss_cons (ps_if (pt_cmpR op_lt (pv 1) pe_int (nomark _))
    (pss_one (ps_par (i := 0) (j := 1) (by rfl) sc_share.nd rfl rfl (by decide) rfl rfl (pa_cons (pe_op op_sub pe_int (pv 0)) (pa_cons (pe_op op_sub pe_int (pv 1)) pa_nil)) (by rfl)))
    pss_nil)
    (pss_cons (ps_set (i := 2) sc_share.nd rfl (Or.inl rfl) (pe_callD D_divisor hr_divisor pass0 (pa_cons (pv 0) (pa_cons (pv 1) pa_nil))))
    (pss_one (ps_ret (pe_tup (pa_cons (pe_op op_fdivW (pv 0) (pv 2)) (pa_cons (pe_op op_fdivW (pv 1) (pv 2)) pa_nil))))))), ?_⟩
  with_reducible refine rd_seqc fun N hN => ?_
  have fin : ∀ (a' b' : Int), a' = (if b < 0 then 0 - a else a) → b' = (if b < 0 then 0 - b else b) → N [some (.int a'), some (.int b'), none] H := by
    intro a' b' ea eb
    have hb' : b' ≠ 0 := by rw [eb]; split <;> omega
    have hz' : b'.natAbs < 2 ^ 8000 := by
      have : b'.natAbs = b.natAbs := by rw [eb]; split <;> omega
      rw [this]; exact hz
    have hg := gcd_bound (a := a') hb' hz'
    refine hN _ _ ?_
    walk_at "rd"
    refine ⟨a', b', rfl, ?_⟩
    have hc : CDivW a' (Int.gcd a' b') := wide_div (b := 8000) (by omega) (by simpa using hg.1) (by decide) (by decide)
    have hc2 : CDivW b' (Int.gcd a' b') := wide_div (b := 8000) (by omega) (by simpa using hg.1) (by decide) (by decide)
    walk_at "rd"
    refine rd_I hc ?_
    walk_at "rd"
    refine rd_I hc2 ?_
    walk_at "rd"
    refine rd_newT (by simp) (fun p H2 _ g e => q _ H2 g ⟨p, rfl, ?_⟩)
    rw [rat_num a b hb, rat_den a b hb, ← ea, ← eb]
    exact SqT.of e
  walk_at "rd"
  by_cases hlt : b < 0
  · refine (if_pos (decide_eq_true hlt)).mpr ?_
    walk_at "rd"
    exact fin (0 - a) (0 - b) (by rw [if_pos hlt]) (by rw [if_pos hlt])
  · refine (if_neg (by simpa using hlt)).mpr ?_
    walk_at "rd"
    exact fin a b (by rw [if_neg hlt]) (by rw [if_neg hlt])
def Sz (r : Rat) : Prop := r.num.natAbs < 2 ^ 4000 ∧ (r.den : Int).natAbs < 2 ^ 4000
theorem den_ne (r : Rat) : (r.den : Int) ≠ 0 := by have := r.den_pos; omega
theorem den_mul_ne (r s : Rat) : (r.den : Int) * (s.den : Int) ≠ 0 := Int.mul_ne_zero (den_ne r) (den_ne s)
theorem den_mul_lt {r s : Rat} (h : Sz r) (g : Sz s) : ((r.den : Int) * (s.den : Int)).natAbs < 2 ^ 8000 := wide_lt (a := 4000) (b := 4000) h.2 g.2
theorem rat_add (r s : Rat) : Rat.divInt (r.num * (s.den : Int) + s.num * (r.den : Int)) ((r.den : Int) * (s.den : Int)) = r + s := by
  rw [Rat.add_def', ← Rat.divInt_ofNat]; rfl
theorem rat_sub (r s : Rat) : Rat.divInt (r.num * (s.den : Int) - s.num * (r.den : Int)) ((r.den : Int) * (s.den : Int)) = r - s := by
  rw [Rat.sub_def', ← Rat.divInt_ofNat]; rfl
theorem rat_mul (r s : Rat) : Rat.divInt (r.num * s.num) ((r.den : Int) * (s.den : Int)) = r * s := by
  rw [Rat.mul_def', ← Rat.divInt_ofNat]; rfl
/-- a share's two numbers below 2 ^ m -/
def SzM (m : Nat) (r : Rat) : Prop := r.num.natAbs < 2 ^ m ∧ (r.den : Int).natAbs < 2 ^ m
theorem SzM.sz {m : Nat} {r : Rat} (h : SzM m r) (hm : m ≤ 4000) : Sz r := ⟨Nat.lt_of_lt_of_le h.1 (Nat.pow_le_pow_right (by decide) hm), Nat.lt_of_lt_of_le h.2 (Nat.pow_le_pow_right (by decide) hm)⟩
theorem natAbs_div_le (a b : Int) : (a / b).natAbs ≤ a.natAbs := Int.natAbs_ediv_le_natAbs a b
theorem divInt_szM {m : Nat} {a b : Int} (hb : b ≠ 0) (h1 : a.natAbs < 2 ^ m) (h2 : b.natAbs < 2 ^ m) : SzM m (Rat.divInt a b) := by
  constructor
  · rw [Rat.num_divInt]
    refine Nat.lt_of_le_of_lt (natAbs_div_le _ _) ?_
    rw [Int.natAbs_mul]
    have : b.sign.natAbs = 1 := by
      rcases Int.lt_or_gt_of_ne hb with h | h
      · rw [Int.sign_eq_neg_one_of_neg h]; rfl
      · rw [Int.sign_eq_one_of_pos h]; rfl
    rw [this, Nat.one_mul]; exact h1
  · rw [Rat.den_divInt, if_neg hb]
    exact Nat.lt_of_le_of_lt (Nat.div_le_self _ _) h2
theorem is_share {a b : Int} (hb : b ≠ 0) : (Rat.divInt a b).num * b = a * ((Rat.divInt a b).den : Int) := by
  have h := Rat.num_divInt_den (Rat.divInt a b)
  exact (Rat.divInt_eq_divInt_iff (den_ne _) hb).mp h
theorem SzM.up {m n : Nat} {r : Rat} (h : SzM m r) (hm : m ≤ n) : SzM n r := ⟨Nat.lt_of_lt_of_le h.1 (Nat.pow_le_pow_right (by decide) hm), Nat.lt_of_lt_of_le h.2 (Nat.pow_le_pow_right (by decide) hm)⟩
theorem add_lt {x y : Int} {m : Nat} (h : x.natAbs < 2 ^ m) (g : y.natAbs < 2 ^ m) : (x + y).natAbs < 2 ^ (m + 1) ∧ (x - y).natAbs < 2 ^ (m + 1) := by
  rw [Nat.pow_succ]; omega
theorem SzM.add {m n : Nat} {r s : Rat} (h : SzM m r) (g : SzM n s) : SzM (m + n + 1) (r + s) := by
  rw [← rat_add]
  have a1 : (r.num * (s.den : Int)).natAbs < 2 ^ (m + n) := wide_lt h.1 g.2
  have a2 : (s.num * (r.den : Int)).natAbs < 2 ^ (m + n) := by rw [Nat.add_comm m n]; exact wide_lt g.1 h.2
  refine divInt_szM (den_mul_ne r s) (add_lt a1 a2).1 ?_
  exact Nat.lt_of_lt_of_le (wide_lt h.2 g.2) (Nat.pow_le_pow_right (by decide) (Nat.le_succ _))
theorem SzM.sub {m n : Nat} {r s : Rat} (h : SzM m r) (g : SzM n s) : SzM (m + n + 1) (r - s) := by
  rw [← rat_sub]
  have a1 : (r.num * (s.den : Int)).natAbs < 2 ^ (m + n) := wide_lt h.1 g.2
  have a2 : (s.num * (r.den : Int)).natAbs < 2 ^ (m + n) := by rw [Nat.add_comm m n]; exact wide_lt g.1 h.2
  refine divInt_szM (den_mul_ne r s) (add_lt a1 a2).2 ?_
  exact Nat.lt_of_lt_of_le (wide_lt h.2 g.2) (Nat.pow_le_pow_right (by decide) (Nat.le_succ _))
theorem SzM.mul {m n : Nat} {r s : Rat} (h : SzM m r) (g : SzM n s) : SzM (m + n) (r * s) := by
  rw [← rat_mul]
  exact divInt_szM (den_mul_ne r s) (wide_lt h.1 g.1) (wide_lt h.2 g.2)
/-- two shares are handed in, one comes back -/
def spSh2 (K : PySem.W.Frag) (f : Rat → Rat → Rat) : Sp := fun vs H Q _ => ∃ v1 v2 r s, vs = [v1, v2] ∧ Sh K H v1 r ∧ Sh K H v2 s ∧ Sz r ∧ Sz s ∧ ∀ v H2, Fr [] H H2 → Sh K H2 v (f r s) → Q v H2
abbrev s_plus : Stmt := top 3
abbrev N_plus : List Str := ["one", "other"]
theorem sc_plus : FnScope N_plus ["one", "other"] (defScope s_plus) := ⟨rfl, rfl, rfl, by decide +kernel, rfl, by decide +kernel, by decide +kernel⟩
theorem ok_plus (F : Here K mg "plus" s_plus ["one", "other"]) (D_share : DefOk P w K mg base CX0 "share" ["top", "bottom"] 2 (spShare K)) : DefOk P w K mg base CX0 "plus" ["one", "other"] 3 (spSh2 K (· + ·)) := by
  refine F.ok sc_plus (fun vs H Q E h => ?_) (fun f cdv A outer s H vs Q E hr h => ?_)
  · obtain ⟨v1, v2, r, s, rfl, _⟩ := h; rfl
  obtain ⟨_, _, r, s, rfl, ⟨a1, rfl, h1⟩, ⟨a2, rfl, h2⟩, z1, z2, q⟩ := h
  have hr_share := hr
  refine ⟨_, (pss_one (ps_ret (pe_callD D_share hr_share pass0 (pa_cons (pe_op op_plus (pe_op op_timesA (pe_ix ix_seq (pv 0) pe_int (fun _ _ => rfl)) (pe_ix ix_seq (pv 1) pe_int (fun _ _ => rfl))) (pe_op op_timesA (pe_ix ix_seq (pv 1) pe_int (fun _ _ => rfl)) (pe_ix ix_seq (pv 0) pe_int (fun _ _ => rfl)))) (pa_cons (pe_op op_timesA (pe_ix ix_seq (pv 0) pe_int (fun _ _ => rfl)) (pe_ix ix_seq (pv 1) pe_int (fun _ _ => rfl))) pa_nil))))), ?_⟩
  walk_at "rh"
  refine rd_mulW 4000 4000 z1.1 z2.2 (by decide) ?_
  walk_at "rh"
  refine rd_mulW 4000 4000 z2.1 z1.2 (by decide) ?_
  walk_at "rh"
  refine rd_mulW 4000 4000 z1.2 z2.2 (by decide) ?_
  walk_at "rh"
  exact ⟨_, _, rfl, den_mul_ne r s, den_mul_lt z1 z2, fun v H2 g h => q v H2 g (by rw [rat_add] at h; exact h)⟩
abbrev s_times : Stmt := top 5
abbrev N_times : List Str := ["one", "other"]
theorem sc_times : FnScope N_times ["one", "other"] (defScope s_times) := ⟨rfl, rfl, rfl, by decide +kernel, rfl, by decide +kernel, by decide +kernel⟩
theorem ok_times (F : Here K mg "times" s_times ["one", "other"]) (D_share : DefOk P w K mg base CX0 "share" ["top", "bottom"] 2 (spShare K)) : DefOk P w K mg base CX0 "times" ["one", "other"] 3 (spSh2 K (· * ·)) := by
  refine F.ok sc_times (fun vs H Q E h => ?_) (fun f cdv A outer s H vs Q E hr h => ?_)
  · obtain ⟨v1, v2, r, s, rfl, _⟩ := h; rfl
  obtain ⟨_, _, r, s, rfl, ⟨a1, rfl, h1⟩, ⟨a2, rfl, h2⟩, z1, z2, q⟩ := h
  have hr_share := hr
  refine ⟨_, (pss_one (ps_ret (pe_callD D_share hr_share pass0 (pa_cons (pe_op op_timesA (pe_ix ix_seq (pv 0) pe_int (fun _ _ => rfl)) (pe_ix ix_seq (pv 1) pe_int (fun _ _ => rfl))) (pa_cons (pe_op op_timesA (pe_ix ix_seq (pv 0) pe_int (fun _ _ => rfl)) (pe_ix ix_seq (pv 1) pe_int (fun _ _ => rfl))) pa_nil))))), ?_⟩
  walk_at "rh"
  refine rd_mulW 4000 4000 z1.1 z2.1 (by decide) ?_
  walk_at "rh"
  refine rd_mulW 4000 4000 z1.2 z2.2 (by decide) ?_
  walk_at "rh"
  exact ⟨_, _, rfl, den_mul_ne r s, den_mul_lt z1 z2, fun v H2 g h => q v H2 g (by rw [rat_mul] at h; exact h)⟩
end
end Lf
namespace Lf
open PySem PySem.Spec PyProof.Rows L2
section
variable {P : Program} {w : World} {K : PySem.W.Frag} {mg : Str → Option Value} {base : Heap}
abbrev s_minus : Stmt := top 4
abbrev N_minus : List Str := ["one", "other"]
theorem sc_minus : FnScope N_minus ["one", "other"] (defScope s_minus) := ⟨rfl, rfl, rfl, by decide +kernel, rfl, by decide +kernel, by decide +kernel⟩
theorem ok_minus (F : Here K mg "minus" s_minus ["one", "other"]) (D_share : DefOk P w K mg base CX0 "share" ["top", "bottom"] 2 (spShare K)) : DefOk P w K mg base CX0 "minus" ["one", "other"] 3 (spSh2 K (· - ·)) := by
  refine F.ok sc_minus (fun vs H Q E h => ?_) (fun f cdv A outer s H vs Q E hr h => ?_)
  · obtain ⟨v1, v2, r, s, rfl, _⟩ := h; rfl
  obtain ⟨_, _, r, s, rfl, ⟨a1, rfl, h1⟩, ⟨a2, rfl, h2⟩, z1, z2, q⟩ := h
  have hr_share := hr
  refine ⟨_, (pss_one (ps_ret (pe_callD D_share hr_share pass0 (pa_cons (pe_op op_sub (pe_op op_timesA (pe_ix ix_seq (pv 0) pe_int (fun _ _ => rfl)) (pe_ix ix_seq (pv 1) pe_int (fun _ _ => rfl))) (pe_op op_timesA (pe_ix ix_seq (pv 1) pe_int (fun _ _ => rfl)) (pe_ix ix_seq (pv 0) pe_int (fun _ _ => rfl)))) (pa_cons (pe_op op_timesA (pe_ix ix_seq (pv 0) pe_int (fun _ _ => rfl)) (pe_ix ix_seq (pv 1) pe_int (fun _ _ => rfl))) pa_nil))))), ?_⟩
  walk_at "rh"
  refine rd_mulW 4000 4000 z1.1 z2.2 (by decide) ?_
  walk_at "rh"
  refine rd_mulW 4000 4000 z2.1 z1.2 (by decide) ?_
  walk_at "rh"
  refine rd_mulW 4000 4000 z1.2 z2.2 (by decide) ?_
  walk_at "rh"
  exact ⟨_, _, rfl, den_mul_ne r s, den_mul_lt z1 z2, fun v H2 g h => q v H2 g (by rw [rat_sub] at h; exact h)⟩
end
end Lf
namespace Lf
open PySem PySem.Spec PyProof.Rows L2
/-! ### the law's drawing: h = [int, cells, int], any cells -/
/-- h stands, its cells at c; n cells -/
structure HAt (H : Hp) (h c : Addr) (n : Nat) : Prop where
  ne : h ≠ c
  ex : ∃ (x k : Int) (cells : List Int), H h = some (.lst [.int x, .ref c, .int k]) ∧ H c = some (.lst (cells.map V.int)) ∧ 0 ≤ k ∧ cells.length = n
def spNext (n : Nat) : Sp := fun vs H Q _ => ∃ h c m, vs = [.ref h, .int m] ∧ 0 < m ∧ m < 2 ^ 64 ∧ HAt H h c n ∧ ∀ r H2, 0 ≤ r → r < m → Fr [h, c] H H2 → HAt H2 h c n → Q (.int r) H2
theorem HAt.kp {H H1 : Hp} {h c : Addr} {n : Nat} (a : HAt H h c n) (f : Fr [h, c] H H1) : Kp H H1 := by
  obtain ⟨_, x, k, cells, eh, ec, _⟩ := a
  exact f.kpL2 eh ec
theorem HAt.mono {H H1 : Hp} {h c : Addr} {n : Nat} (a : HAt H h c n) (f : Fr [] H H1) : HAt H1 h c n := by
  obtain ⟨ne, x, k, cells, eh, ec, r⟩ := a
  exact ⟨ne, x, k, cells, f.at eh, f.at ec, r⟩
/-- another list changes -/
theorem HAt.mono1 {H H1 : Hp} {h c l : Addr} {n : Nat} (a : HAt H h c n) (f : Fr [l] H H1) (nh : l ≠ h) (nc : l ≠ c) : HAt H1 h c n := by
  obtain ⟨ne, x, k, cells, eh, ec, r⟩ := a
  exact ⟨ne, x, k, cells, f.at eh (by simpa using Ne.symm nh), f.at ec (by simpa using Ne.symm nc), r⟩
theorem HAt.new {H : Hp} {h c l : Addr} {n : Nat} (a : HAt H h c n) (e : H l = none) : l ≠ h ∧ l ≠ c := by
  obtain ⟨ne, x, k, cells, eh, ec, r⟩ := a
  exact ⟨(ne_of_none eh e).symm, (ne_of_none ec e).symm⟩
theorem atI_mem {cells : List Int} {i : Int} (h0 : 0 ≤ i) (h : i < (cells.length : Int)) : ∃ v : Int, v ∈ cells ∧ atI (cells.map V.int) i = some (.int v) := by
  have hk : i.toNat < cells.length := by omega
  refine ⟨cells[i.toNat], List.getElem_mem hk, ?_⟩
  have e : i = ((i.toNat : Nat) : Int) := by omega
  have q : atI (cells.map V.int) ((i.toNat : Nat) : Int) = some (.int cells[i.toNat]) := atI_nat (by rw [List.getElem?_map, List.getElem?_eq_getElem hk]; rfl)
  rw [← e] at q
  exact q
theorem atI_ints {cells : List Int} {i : Int} (h0 : 0 ≤ i) (h : i < (cells.length : Int)) : ∃ v : Int, atI (cells.map V.int) i = some (.int v) := by
  obtain ⟨v, _, q⟩ := atI_mem h0 h; exact ⟨v, q⟩
theorem ixN_in {n : Nat} {i : Int} (h0 : 0 ≤ i) (h : i < (n : Int)) : ixN n i = some i.toNat := by
  unfold ixN; rw [if_pos h0, if_pos h]
theorem dp_ints {K : PySem.W.Frag} {H : Hp} : ∀ (cells : List Int), DpAll K H (cells.map V.int) (cells.map PyData.int)
  | [] => .nil
  | _ :: r => .cons (.int _) (dp_ints r)
theorem canLay_ints : ∀ (cells : List Int), PyData.canLayAll0 (cells.map PyData.int) = true
  | [] => rfl
  | _ :: r => by simp [PyData.canLayAll0, PyData.canLay0, canLay_ints r]
theorem depth_ints : ∀ (cells : List Int), PyData.depthAll (cells.map PyData.int) = 0
  | [] => rfl
  | _ :: r => by simp [PyData.depthAll, PyData.depth, depth_ints r]
theorem shaped_ints (cells : List Int) : SeqAt.shaped (.list (cells.map PyData.int)) = true := by
  simp [SeqAt.shaped, PyData.canLay0, canLay_ints, PyData.depth, depth_ints]
theorem eqv_nil (cells : List Int) : PyData.eqv (.list (cells.map PyData.int)) (.list []) = decide (cells = []) := by
  cases cells <;> simp [PyData.eqv, PyData.eqvAll]
theorem rd_neNilI {K : PySem.W.Frag} {H : Hp} {Q : VK} {a p : Addr} {cells : List Int} (h : SqL K H a (cells.map V.int)) (h2 : SqL K H p []) (q : Q (.bl (!decide (cells = []))) H) : rNeA K (.ref a) (.ref p) H Q :=
  rd_neD (.lst h (dp_ints cells)) (.lst h2 .nil) (shaped_ints cells) (shaped_ints []) (by rw [eqv_nil]; exact q)
theorem mod_pos (a : Int) {m : Int} (h : 0 < m) : 0 ≤ Int.fmod a m ∧ Int.fmod a m < m := by
  rw [Int.fmod_eq_emod_of_nonneg _ (by omega)]
  exact ⟨Int.emod_nonneg _ (by omega), Int.emod_lt_of_pos _ h⟩
section
variable {P : Program} {w : World} {K : PySem.W.Frag} {mg : Str → Option Value} {base : Heap}
abbrev s__law_next : Stmt := top 7
abbrev N__law_next : List Str := ["_law_h", "_law_many", "_law_at", "_law_cell"]
theorem sc__law_next : FnScope N__law_next ["_law_h", "_law_many"] (defScope s__law_next) := ⟨rfl, rfl, rfl, by decide +kernel, rfl, by decide +kernel, by decide +kernel⟩
theorem ok_next (n : Nat) (T : Blt mg) (F : Here K mg "_law_next" s__law_next ["_law_h", "_law_many"]) : DefOk P w K mg base CX0 "_law_next" ["_law_h", "_law_many"] 1 (spNext n) := by
  refine F.ok sc__law_next (fun vs H Q E h => ?_) (fun f cdv A outer s H vs Q E hr h => ?_)
  · obtain ⟨_, _, _, rfl, _⟩ := h; rfl
  obtain ⟨h, c, m, rfl, m0, m1, ⟨ne, x, k, cells, eh, ec, k0, el⟩, q⟩ := h
  have hu64 := hr.units
  refine ⟨_, (pss_cons (ps_set (i := 2) sc__law_next.nd rfl (Or.inl rfl) (pe_op op_modN (pe_ix ix_seq (pv 0) pe_int (fun _ _ => rfl)) (pe_callB (call_max2A rfl) (by rfl) T.n_max (by decide +kernel) (pa_cons pe_int (pa_cons (pe_callB call_lenA (by rfl) T.n_len (by decide +kernel) (pa_cons (pe_ix ix_seq (pv 0) pe_int (fun _ _ => rfl)) pa_nil)) pa_nil)))))
    (pss_cons (ps_set (i := 3) sc__law_next.nd rfl (Or.inl rfl) (pe_ifExp (pt_cmpR (op_neA hu64) (pe_ix ix_seq (pv 0) pe_int (fun _ _ => rfl)) (pe_lst pa_nil) (nomark _)) (pe_ix ix_seq (pe_ix ix_seq (pv 0) pe_int (fun _ _ => rfl)) (pv 2) (fun _ _ => rfl)) pe_int))
    (pss_cons (ps_if (pt_cmpR op_ge (pv 3) (pe_op op_pow pe_int pe_int) (nomark _))
    (pss_cons (ps_asg (pe_op op_fdivW (pv 3) (pv 1)) (pg_sub (pe_ix ix_seq (pv 0) pe_int (fun _ _ => rfl)) (pv 2) set_list))
    (pss_one (ps_ret (pe_op op_modN (pe_callTy call_intA (by rfl) T.n_int (by decide +kernel) (pa_cons (pv 3) pa_nil)) (pv 1)))))
    pss_nil)
    (pss_cons (ps_asg (pe_op op_modN (pe_callTy call_intA (by rfl) T.n_int (by decide +kernel) (pa_cons (pe_op op_plus (pe_op op_plus (pe_op op_timesA (pe_ix ix_seq (pv 0) pe_int (fun _ _ => rfl)) pe_int) (pe_op op_timesA (pv 3) pe_int)) pe_int) pa_nil)) pe_int) (pg_sub (pv 0) pe_int set_list))
    (pss_cons (ps_asg (pe_op op_plus (pe_ix ix_seq (pv 0) pe_int (fun _ _ => rfl)) pe_int) (pg_sub (pv 0) pe_int set_list))
    (pss_one (ps_ret (pe_op op_modN (pe_callTy call_intA (by rfl) T.n_int (by decide +kernel) (pa_cons (pe_op op_fdivW (pe_ix ix_seq (pv 0) pe_int (fun _ _ => rfl)) pe_int) pa_nil)) (pv 1))))))))), ?_⟩
  have hlen : (((cells.map V.int).length : Nat) : Int) = (cells.length : Int) := by rw [List.length_map]
  with_reducible refine rd_seq ?_
  walk_at "rs"
  have hat := mod_pos k (m := if (((cells.map V.int).length : Nat) : Int) > 1 then (((cells.map V.int).length : Nat) : Int) else 1) (by split <;> omega)
  refine rd_I (by split <;> omega) ?_
  generalize he : Int.fmod k _ = i at hat ⊢
  walk_at "rs"
  with_reducible refine rd_seqc fun N hN => ?_
  -- the drawn cell is v; i lies in the cells where there are any
  have fin : ∀ (v : Int) (H1 : Hp), Fr [] H H1 → (cells = [] → v = 0) → N [some (.ref h), some (.int m), some (.int i), some (.int v)] H1 := by
    intro v H1 f1 hv
    refine hN _ _ ?_
    have eh1 := f1.at eh
    have ec1 := f1.at ec
    with_reducible refine rd_seqc fun N2 hN2 => ?_
    have two : N2 [some (.ref h), some (.int m), some (.int i), some (.int v)] H1 := by
      refine hN2 _ _ ?_
      walk_at "rh"
      refine rd_mulR (by decide) ?_
      walk_at "rh"
      refine rd_mulR (by decide) ?_
      walk_at "rh"
      refine rd_I (by decide) ?_
      walk_at "rh"
      refine rd_setL eh1 rfl fun H2 f2 _ e2 => ?_
      have ec2 : H2 c = some (.lst (cells.map V.int)) := f2.at ec1 (by simpa using Ne.symm ne)
      walk_at "rh"
      refine rd_setL e2 rfl fun H3 f3 _ e3 => ?_
      have ec3 : H3 c = some (.lst (cells.map V.int)) := f3.at ec2 (by simpa using Ne.symm ne)
      walk_at "rh"
      refine rd_I (wide_div (b := 10) (by decide) (by decide) (by decide) (by decide)) ?_
      walk_at "rh"
      refine rd_I (by omega) ?_
      walk_at "rh"
      have r := mod_pos ((Int.fmod (x * 48271 + v * 69621 + 11) 2147483647) / 7) m0
      refine q _ H3 r.1 r.2 (f1.nil.trans ((f2.wk (by simp)).trans (f3.wk (by simp)))) ⟨ne, _, k + 1, cells, e3, ec3, by omega, el⟩
    walk_at "rs"
    refine rd_I ⟨by decide, by decide, by decide⟩ ?_
    walk_at "rs"
    refine ite2 (fun hc => ?_) (fun _ => ?_)
    · have hv1 : (10 : Int) ^ (18 : Int).toNat ≤ v := of_decide_eq_true hc
      have hne : cells ≠ [] := fun e => by rw [hv e] at hv1; exact absurd hv1 (by decide)
      have hpos : 0 < cells.length := List.length_pos_iff.mpr hne
      have hi : 0 ≤ i ∧ i < (cells.length : Int) := by
        refine ⟨hat.1, ?_⟩
        have := hat.2
        rw [hlen] at this
        split at this <;> omega
      walk_at "rh"
      refine rd_I (wide_div (b := 64) m0 (by omega) (by decide) (by decide)) ?_
      walk_at "rh"
      refine rd_setL ec1 (ixN_in hi.1 (by rw [hlen]; exact hi.2)) fun H2 f2 _ e2 => ?_
      have eh2 : H2 h = some (.lst [.int x, .ref c, .int k]) := f2.at eh1 (by simpa using ne)
      walk_at "rh"
      refine rd_I (by omega) ?_
      walk_at "rh"
      have r := mod_pos v m0
      have hset : (cells.map V.int).set i.toNat (V.int (v / m)) = (cells.set i.toNat (v / m)).map V.int := by rw [List.map_set]
      refine q _ H2 r.1 r.2 (f1.nil.trans (f2.wk (by simp))) ⟨ne, x, k, cells.set i.toNat (v / m), eh2, by rw [e2, hset], k0, by rw [List.length_set]; exact el⟩
    · walk_at "rs"
      exact two
  walk_at "rs"
  refine rd_newL (by simp) fun p H1 fp f1 ep => ?_
  have ec1 := f1.at ec
  refine rd_neNilI (SqL.of ec1) (SqL.of ep) ?_
  walk_at "rs"
  refine ite2 (fun hc => ?_) (fun hc => ?_)
  · have hne : cells ≠ [] := by simpa using hc
    have hpos : 0 < cells.length := List.length_pos_iff.mpr hne
    obtain ⟨v, hv⟩ := atI_ints (cells := cells) hat.1 (by have := hat.2; rw [hlen] at this; split at this <;> omega)
    walk_at "rs"
    refine rd_ixH ec1 hv ?_
    walk_at "rs"
    exact fin v H1 f1 (fun e => absurd e hne)
  · have hne : cells = [] := by simpa using hc
    walk_at "rs"
    exact fin 0 H1 f1 (fun _ => rfl)
end
end Lf
local macro_rules | `(tactic| walk_at "ha") => `(tactic| first
  | assumption
  | ((refine' Lf.HAt.mono ?k3 ?k1); (case k1 => assumption); (case k3 => (walk_at "ha")))
  | ((refine' Lf.HAt.mono1 ?k3 ?k1 ?k4 ?k5); (case k1 => assumption); (case k4 => assumption); (case k5 => assumption); (case k3 => (walk_at "ha"))))
namespace Lf
open PySem PySem.Spec PyProof.Rows L2
def spLShare (K : PySem.W.Frag) (n : Nat) : Sp := fun vs H Q _ => ∃ h c, vs = [.ref h] ∧ HAt H h c n ∧ ∀ v r H2, Fr [h, c] H H2 → Kp H H2 → HAt H2 h c n → Sh K H2 v r → SzM 31 r → Q v H2
def spLowest (K : PySem.W.Frag) : Sp := fun vs H Q _ => ∃ v r, vs = [v] ∧ Sh K H v r ∧ Q (.bl true) H
def spLaw (K : PySem.W.Frag) : Sp := fun vs H Q _ => ∃ (a : Addr) (ns : List Int), vs = [.ref a] ∧ SqL K H a (ns.map V.int) ∧ ns.length ≤ 63 ∧ ∀ H', Q (.bl true) H'
theorem ten9 : (10 : Int) ^ (9 : Int).toNat = 1000000000 := by decide
theorem ten8 : (10 : Int) ^ (8 : Int).toNat = 100000000 := by decide
section
variable {P : Program} {w : World} {K : PySem.W.Frag} {mg : Str → Option Value} {base : Heap}
abbrev s__law_share : Stmt := top 8
abbrev N__law_share : List Str := ["_law_h", "_law_top", "_law_bottom"]
theorem sc__law_share : FnScope N__law_share ["_law_h"] (defScope s__law_share) := ⟨rfl, rfl, rfl, by decide +kernel, rfl, by decide +kernel, by decide +kernel⟩
theorem ok_lshare (n : Nat) (F : Here K mg "_law_share" s__law_share ["_law_h"]) (D__law_next : DefOk P w K mg base CX0 "_law_next" ["_law_h", "_law_many"] 1 (spNext n)) (D_share : DefOk P w K mg base CX0 "share" ["top", "bottom"] 2 (spShare K)) : DefOk P w K mg base CX0 "_law_share" ["_law_h"] 3 (spLShare K n) := by
  refine F.ok sc__law_share (fun vs H Q E h => ?_) (fun f cdv A outer s H vs Q E hr h => ?_)
  · obtain ⟨_, _, rfl, _⟩ := h; rfl
  obtain ⟨h, c, rfl, hat, q⟩ := h
  have hr__law_next := hr.mono (j := 1) (by decide)
  have hr_share := hr
  refine ⟨_, (pss_cons (ps_set (i := 1) sc__law_share.nd rfl (Or.inl rfl) (pe_ix ix_seq (pe_lst (pa_cons (pe_op op_sub (pe_callD D__law_next hr__law_next pass0 (pa_cons (pv 0) (pa_cons pe_int pa_nil))) pe_int) (pa_cons (pe_op op_sub (pe_callD D__law_next hr__law_next pass0 (pa_cons (pv 0) (pa_cons (pe_op op_pow pe_int pe_int) pa_nil))) (pe_op op_pow pe_int pe_int)) (pa_cons pe_int pa_nil)))) (pe_callD D__law_next hr__law_next pass0 (pa_cons (pv 0) (pa_cons pe_int pa_nil))) (fun _ _ => rfl)))
    (pss_cons (ps_set (i := 2) sc__law_share.nd rfl (Or.inl rfl) (pe_ix ix_seq (pe_lst (pa_cons (pe_op op_plus pe_int (pe_callD D__law_next hr__law_next pass0 (pa_cons (pv 0) (pa_cons pe_int pa_nil)))) (pa_cons (pe_op op_plus pe_int (pe_callD D__law_next hr__law_next pass0 (pa_cons (pv 0) (pa_cons (pe_op op_pow pe_int pe_int) pa_nil)))) (pa_cons (pe_op op_sub (pe_un un_neg pe_int) (pe_callD D__law_next hr__law_next pass0 (pa_cons (pv 0) (pa_cons pe_int pa_nil)))) pa_nil)))) (pe_callD D__law_next hr__law_next pass0 (pa_cons (pv 0) (pa_cons pe_int pa_nil))) (fun _ _ => rfl)))
    (pss_one (ps_ret (pe_callD D_share hr_share pass0 (pa_cons (pv 1) (pa_cons (pv 2) pa_nil))))))), ?_⟩
  walk_at "rh"
  refine ⟨h, c, 40, rfl, by decide, by decide, hat, fun r1 H1 a1 b1 f1 hat1 => ?_⟩
  walk_at "rh"
  refine rd_I ⟨by decide, by decide, by decide⟩ ?_
  walk_at "rh"
  refine ⟨h, c, _, rfl, by decide, by decide, hat1, fun r2 H2 a2 b2 f2 hat2 => ?_⟩
  walk_at "rh"
  refine rd_I ⟨by decide, by decide, by decide⟩ ?_
  walk_at "rh"
  refine rd_newL (by simp) fun l H3 fl f3 el => ?_
  have nl := hat2.new fl
  walk_at "rh"
  refine ⟨h, c, 3, rfl, by decide, by decide, hat2.mono f3, fun r3 H4 a3 b3 f4 hat4 => ?_⟩
  rw [ten9] at b2
  rw [ten8] at el
  have el4 := f4.at el (by simp [nl])
  have el4' : H4 l = some (.lst ([r1 - 20, r2 - 100000000, 0].map V.int)) := el4
  obtain ⟨t, ht, hv⟩ := atI_mem (cells := [r1 - 20, r2 - 100000000, 0]) a3 (by simpa using b3)
  have htb : -(10 ^ 9) ≤ t ∧ t ≤ 10 ^ 9 := by
    simp only [List.mem_cons, List.not_mem_nil, or_false] at ht
    rcases ht with rfl | rfl | rfl <;> omega
  refine rd_ixH el4' hv ?_
  walk_at "rh"
  refine ⟨h, c, 12, rfl, by decide, by decide, hat4, fun r5 H5 a5 b5 f5 hat5 => ?_⟩
  walk_at "rh"
  refine rd_I ⟨by decide, by decide, by decide⟩ ?_
  walk_at "rh"
  refine ⟨h, c, _, rfl, by decide, by decide, hat5, fun r6 H6 a6 b6 f6 hat6 => ?_⟩
  walk_at "rh"
  refine ⟨h, c, 30, rfl, by decide, by decide, hat6, fun r7 H7 a7 b7 f7 hat7 => ?_⟩
  walk_at "rh"
  refine rd_newL (by simp) fun l2 H8 fl2 f8 el8 => ?_
  have nl2 := hat7.new fl2
  walk_at "rh"
  refine ⟨h, c, 3, rfl, by decide, by decide, hat7.mono f8, fun r9 H9 a9 b9 f9 hat9 => ?_⟩
  rw [ten9] at b6
  have el9 : H9 l2 = some (.lst ([1 + r5, 1 + r6, -1 - r7].map V.int)) := f9.at el8 (by simp [nl2])
  obtain ⟨u, hu, hv2⟩ := atI_mem (cells := [1 + r5, 1 + r6, -1 - r7]) a9 (by simpa using b9)
  have hub : u ≠ 0 ∧ -(10 ^ 9) ≤ u ∧ u ≤ 10 ^ 9 := by
    simp only [List.mem_cons, List.not_mem_nil, or_false] at hu
    rcases hu with rfl | rfl | rfl <;> omega
  refine rd_ixH el9 hv2 ?_
  walk_at "rh"
  have u31 : u.natAbs < 2 ^ 31 := by omega
  have t31 : t.natAbs < 2 ^ 31 := by omega
  refine ⟨t, u, rfl, hub.1, Nat.lt_of_lt_of_le u31 (Nat.pow_le_pow_right (by decide) (by decide)), fun v H10 g sh => ?_⟩
  have F : Fr [h, c] H H10 := f1.trans (f2.trans (f3.nil.trans (f4.trans (f5.trans (f6.trans (f7.trans (f8.nil.trans (f9.trans g.nil))))))))
  exact q v _ H10 F (hat.kp F) (hat9.mono g) sh (divInt_szM hub.1 t31 u31)
abbrev s__law_lowest : Stmt := top 9
abbrev N__law_lowest : List Str := ["_law_one", "_law_top", "_law_bottom"]
theorem sc__law_lowest : FnScope N__law_lowest ["_law_one"] (defScope s__law_lowest) := ⟨rfl, rfl, rfl, by decide +kernel, rfl, by decide +kernel, by decide +kernel⟩
theorem ok_lowest (T : Blt mg) (F : Here K mg "_law_lowest" s__law_lowest ["_law_one"]) : DefOk P w K mg base CX0 "_law_lowest" ["_law_one"] 1 (spLowest K) := by
  refine F.ok sc__law_lowest (fun vs H Q E h => ?_) (fun f cdv A outer s H vs Q E hr h => ?_)
  · obtain ⟨_, _, rfl, _⟩ := h; rfl
  obtain ⟨_, r, rfl, ⟨p, rfl, sh⟩, q⟩ := h
  have hu64 := hr.units
  refine ⟨_, (pss_cons (ps_par (i := 1) (j := 2) (by rfl) sc__law_lowest.nd rfl rfl (by decide) rfl rfl (pa_cons (pe_callB call_absA (by rfl) T.n_abs (by decide +kernel) (pa_cons (pe_ix ix_seq (pv 0) pe_int (fun _ _ => rfl)) pa_nil)) (pa_cons (pe_ix ix_seq (pv 0) pe_int (fun _ _ => rfl)) pa_nil)) (by rfl))
    (pss_cons (ps_while PassesOwn.never (pt_cmpR (op_neA hu64) (pv 2) pe_int (nomark _))
    (pss_one (ps_par (i := 1) (j := 2) (by rfl) sc__law_lowest.nd rfl rfl (by decide) rfl rfl (pa_cons (pv 2) (pa_cons (pe_op op_modN (pe_callTy call_intA (by rfl) T.n_int (by decide +kernel) (pa_cons (pv 1) pa_nil)) (pv 2)) pa_nil)) (by rfl))))
    (pss_one (ps_ret (pe_and (pe_cmpR op_gt (pe_ix ix_seq (pv 0) pe_int (fun _ _ => rfl)) pe_int (nomark _)) (pe_one (pe_cmpR (op_eqA hu64) (pv 1) pe_int (nomark _)))))))), ?_⟩
  have hd : 0 < r.den := r.den_pos
  walk_at "rh"
  refine rd_while (fun σ' H2 => ∃ m n : Nat, σ' = [some (.ref p), some (.int m), some (.int n)] ∧ Nat.gcd m n = 1 ∧ H2 = H) (fun σ' _ => match σ' with | [_, _, some (.int n)] => n.toNat | _ => 0) ?_ ?_
  · refine ⟨r.num.natAbs, r.den, ?_, r.reduced, rfl⟩
    have ha : (if r.num < 0 then -r.num else r.num) = (r.num.natAbs : Int) := by split <;> omega
    show [_, some (V.int (if r.num < 0 then -r.num else r.num)), _] = _
    rw [ha]
  rintro σ' H2 ⟨m, n, rfl, hg, rfl⟩
  walk_at "rs"
  by_cases hn : n = 0
  · subst hn
    refine ifF (by simp) ?_
    walk_at "rs"
    rw [Nat.gcd_zero_right] at hg
    subst hg
    walk_at "rs"
    refine ifT (by simp; omega) ?_
    walk_at "rs"
    exact q
  · refine ifT (by simp; omega) ?_
    refine rd_turn ?_
    walk_at "rs"
    refine rd_I (by omega) ?_
    walk_at "rs"
    have e : Int.fmod (m : Int) (n : Int) = ((m % n : Nat) : Int) := by rw [Int.fmod_eq_emod_of_nonneg _ (by omega)]; rfl
    refine ⟨⟨n, m % n, ?_, by rw [sh_gcd_step, hg], rfl⟩, ?_⟩
    · rw [e]; rfl
    · show (Int.fmod (m : Int) (n : Int)).toNat < (n : Int).toNat
      rw [e]
      have := Nat.mod_lt m (Nat.pos_of_ne_zero hn)
      omega
def PairOk (K : PySem.W.Frag) (H : Hp) (v : V) : Prop := ∃ p v1 v2 r, v = .ref p ∧ SqT K H p [v1, v2] ∧ Sh K H v1 r ∧ Sh K H v2 r
theorem PairOk.kp {H H1 : Hp} {v : V} (k : Kp H H1) (h : PairOk K H v) : PairOk K H1 v := by
  obtain ⟨p, v1, v2, r, rfl, s, a, b⟩ := h
  exact ⟨p, v1, v2, r, rfl, k.sq s, a.kp k, b.kp k⟩
theorem pairs_app {H H1 : Hp} {vs : List V} {x : V} (hp : ∀ v ∈ vs, PairOk K H v) (k : Kp H H1) (hx : PairOk K H1 x) : ∀ v ∈ vs ++ [x], PairOk K H1 v := fun v hv => by
  rcases List.mem_append.mp hv with hv | hv
  · exact (hp v hv).kp k
  · rw [show v = x by simpa using hv]; exact hx
theorem pair_mk {H Ha Hb : Hp} {p : Addr} {v1 v2 : V} {r s : Rat} (e : H p = some (.tup [v1, v2])) (a : Sh K Ha v1 r) (k1 : Kp Ha H) (b : Sh K Hb v2 s) (k2 : Kp Hb H) (q : r = s) : PairOk K H (.ref p) := by
  subst q; exact ⟨p, v1, v2, r, rfl, SqT.of e, a.kp k1, b.kp k2⟩
section
variable {H Ha Hb : Hp} {Q : VK} {E : XK} {v1 v2 : V} {r s : Rat} {m n : Nat}
theorem c_add (h1 : Sh K Ha v1 r) (k1 : Kp Ha H) (h2 : Sh K Hb v2 s) (k2 : Kp Hb H) (z1 : SzM m r) (z2 : SzM n s) (hm : m ≤ 4000 ∧ n ≤ 4000) (q : ∀ x H2, Fr [] H H2 → Sh K H2 x (r + s) → SzM (m + n + 1) (r + s) → Q x H2) : spSh2 K (· + ·) ([v1, v2] ++ []) H Q E :=
  ⟨_, _, _, _, rfl, h1.kp k1, h2.kp k2, z1.sz hm.1, z2.sz hm.2, fun x H2 g sh => q x H2 g sh (z1.add z2)⟩
theorem c_sub (h1 : Sh K Ha v1 r) (k1 : Kp Ha H) (h2 : Sh K Hb v2 s) (k2 : Kp Hb H) (z1 : SzM m r) (z2 : SzM n s) (hm : m ≤ 4000 ∧ n ≤ 4000) (q : ∀ x H2, Fr [] H H2 → Sh K H2 x (r - s) → SzM (m + n + 1) (r - s) → Q x H2) : spSh2 K (· - ·) ([v1, v2] ++ []) H Q E :=
  ⟨_, _, _, _, rfl, h1.kp k1, h2.kp k2, z1.sz hm.1, z2.sz hm.2, fun x H2 g sh => q x H2 g sh (z1.sub z2)⟩
theorem c_mul (h1 : Sh K Ha v1 r) (k1 : Kp Ha H) (h2 : Sh K Hb v2 s) (k2 : Kp Hb H) (z1 : SzM m r) (z2 : SzM n s) (hm : m ≤ 4000 ∧ n ≤ 4000) (q : ∀ x H2, Fr [] H H2 → Sh K H2 x (r * s) → SzM (m + n) (r * s) → Q x H2) : spSh2 K (· * ·) ([v1, v2] ++ []) H Q E :=
  ⟨_, _, _, _, rfl, h1.kp k1, h2.kp k2, z1.sz hm.1, z2.sz hm.2, fun x H2 g sh => q x H2 g sh (z1.mul z2)⟩
theorem eqv_refl2 (x y : Int) : PyData.eqv (.tuple [.int x, .int y]) (.tuple [.int x, .int y]) = true := by simp [PyData.eqv, PyData.eqvAll]
theorem shaped2 (x y : Int) : SeqAt.shaped (.tuple [.int x, .int y]) = true := by simp [SeqAt.shaped, PyData.canLay0, PyData.canLayAll0, PyData.depth, PyData.depthAll]
theorem rd_neSh (h1 : Sh K H v1 r) (h2 : Sh K H v2 r) (q : Q (.bl false) H) : rNeA K v1 v2 H Q := by
  obtain ⟨a, rfl, s1⟩ := h1
  obtain ⟨b, rfl, s2⟩ := h2
  refine rd_neD (.tup s1 (.cons (.int _) (.cons (.int _) .nil))) (.tup s2 (.cons (.int _) (.cons (.int _) .nil))) (shaped2 _ _) (shaped2 _ _) ?_
  rw [eqv_refl2]; exact q
end
local macro_rules | `(tactic| walk_at "c+") => `(tactic| ((refine' Lf.c_add ?a1 ?k1 ?a2 ?k2 ?a3 ?a4 ?a5 ?a6); (case a1 => assumption); (case a2 => assumption); (case k1 => (walk_at "kp")); (case k2 => (walk_at "kp")); (case a3 => assumption); (case a4 => assumption); (case a5 => decide); (intro x H2 g sh z)))
local macro_rules | `(tactic| walk_at "c-") => `(tactic| ((refine' Lf.c_sub ?a1 ?k1 ?a2 ?k2 ?a3 ?a4 ?a5 ?a6); (case a1 => assumption); (case a2 => assumption); (case k1 => (walk_at "kp")); (case k2 => (walk_at "kp")); (case a3 => assumption); (case a4 => assumption); (case a5 => decide); (intro x H2 g sh z)))
local macro_rules | `(tactic| walk_at "c*") => `(tactic| ((refine' Lf.c_mul ?a1 ?k1 ?a2 ?k2 ?a3 ?a4 ?a5 ?a6); (case a1 => assumption); (case a2 => assumption); (case k1 => (walk_at "kp")); (case k2 => (walk_at "kp")); (case a3 => assumption); (case a4 => assumption); (case a5 => decide); (intro x H2 g sh z)))
theorem tele (i : Nat) : Rat.divInt (i : Int) ((i : Int) + 1) + Rat.divInt 1 ((1 + (i : Int)) * ((1 + (i : Int)) + 1)) = Rat.divInt (1 + (i : Int)) ((1 + (i : Int)) + 1) := by
  have h2 : (1 + (i : Int)) * ((1 + (i : Int)) + 1) ≠ 0 := Int.mul_ne_zero (by omega) (by omega)
  rw [Rat.divInt_add_divInt _ _ (by omega) h2, Rat.divInt_eq_divInt_iff (Int.mul_ne_zero (by omega) h2) (by omega)]
  grind
abbrev s_law : Stmt := top 10
abbrev N_law : List Str := ["_law_script", "_law_h", "_law_time", "_law_one", "_law_two", "_law_three", "_law_k", "_law_pairs", "_law_many", "_law_mine", "_law_yours", "_law_total"]
theorem sc_law : FnScope N_law ["_law_script"] (defScope s_law) := ⟨rfl, rfl, rfl, by decide +kernel, rfl, by decide +kernel, by decide +kernel⟩
theorem ok_law (T : Blt mg) (D__law_next : ∀ n, DefOk P w K mg base CX0 "_law_next" ["_law_h", "_law_many"] 1 (spNext n)) (D__law_share : ∀ n, DefOk P w K mg base CX0 "_law_share" ["_law_h"] 3 (spLShare K n))
    (D_share : DefOk P w K mg base CX0 "share" ["top", "bottom"] 2 (spShare K)) (D_plus : DefOk P w K mg base CX0 "plus" ["one", "other"] 3 (spSh2 K (· + ·))) (D_minus : DefOk P w K mg base CX0 "minus" ["one", "other"] 3 (spSh2 K (· - ·))) (D_times : DefOk P w K mg base CX0 "times" ["one", "other"] 3 (spSh2 K (· * ·)))
    (D__law_lowest : DefOk P w K mg base CX0 "_law_lowest" ["_law_one"] 1 (spLowest K)) {fa : Addr} {fd : FuncData} (F : Fun K "law" "law" s_law fa fd) : FnOk P w K mg base CX0 4 fa fd ["_law_script"] (spLaw K) := by
  refine F.ok sc_law (fun vs H Q E h => ?_) (fun cdv A outer s H vs Q E hr h => ?_)
  · obtain ⟨_, _, rfl, _⟩ := h; rfl
  obtain ⟨a, ns, rfl, hS, hlen, q⟩ := h
  have hu64 := hr.units
  have hr__law_next := hr.mono (j := 1) (by decide)
  have hr__law_share := hr.mono (j := 3) (by decide)
  have hr_share := hr.mono (j := 2) (by decide)
  have hr__law_lowest := hr.mono (j := 1) (by decide)
  have hr_plus := hr
  have hr_minus := hr
  have hr_times := hr
  have D__law_next := D__law_next ns.length
  have D__law_share := D__law_share ns.length
  refine ⟨_, (pss_cons (ps_set (i := 1) sc_law.nd rfl (Or.inr rfl) (pe_lst (pa_cons pe_int (pa_cons (pe_callTy call_listA (by rfl) T.n_list (by decide +kernel) (pa_cons (pv 0) pa_nil)) (pa_cons pe_int pa_nil)))))
    (pss_cons (ps_for PassesOwn.never rfl (pi_range1 (by rfl) T.n_range (pa_cons pe_int pa_nil)) (pg_name (i := 2) sc_law.nd rfl (Or.inl rfl))
    (pss_cons (ps_asg (pe_lc (own := [("_law_k", 6)]) (g := gName 6) (tt := tYes) rfl sc_law.nd (pi_range1 (by rfl) T.n_range (pa_cons pe_int pa_nil)) (blkOk_by (own := [("_law_k", 6)]) (N := N_law) (sc := defScope s_law) (by decide +kernel)) (fun _ _ _ _ _ => (pg_name (i := 6) sc_law.nd rfl (Or.inl rfl))) (fun _ _ _ _ _ => pts_nil) (fun _ _ _ _ _ => (pe_callD D__law_share hr__law_share pass0 (pa_cons (pv 1) pa_nil)))) (pg_unl (by rfl) (pgs_cons (pg_name (i := 3) sc_law.nd rfl (Or.inl rfl)) (pgs_cons (pg_name (i := 4) sc_law.nd rfl (Or.inl rfl)) (pgs_cons (pg_name (i := 5) sc_law.nd rfl (Or.inl rfl)) pgs_nil)))))
    (pss_cons (ps_set (i := 7) sc_law.nd rfl (Or.inl rfl) (pe_lst (pa_cons (pe_tup (pa_cons (pe_callD D_plus hr_plus pass0 (pa_cons (pv 3) (pa_cons (pv 4) pa_nil))) (pa_cons (pe_callD D_plus hr_plus pass0 (pa_cons (pv 4) (pa_cons (pv 3) pa_nil))) pa_nil))) (pa_cons (pe_tup (pa_cons (pe_callD D_times hr_times pass0 (pa_cons (pv 3) (pa_cons (pv 4) pa_nil))) (pa_cons (pe_callD D_times hr_times pass0 (pa_cons (pv 4) (pa_cons (pv 3) pa_nil))) pa_nil))) pa_nil))))
    (pss_cons (ps_expr (pe_bm PySem.F.plainAttrs_list PySem.F.slot_list_append PySem.F.type_list_append mt_append (pv 7) (pa_cons (pe_tup (pa_cons (pe_callD D_plus hr_plus pass0 (pa_cons (pe_callD D_plus hr_plus pass0 (pa_cons (pv 3) (pa_cons (pv 4) pa_nil))) (pa_cons (pv 5) pa_nil))) (pa_cons (pe_callD D_plus hr_plus pass0 (pa_cons (pv 3) (pa_cons (pe_callD D_plus hr_plus pass0 (pa_cons (pv 4) (pa_cons (pv 5) pa_nil))) pa_nil))) pa_nil))) pa_nil)))
    (pss_cons (ps_expr (pe_bm PySem.F.plainAttrs_list PySem.F.slot_list_append PySem.F.type_list_append mt_append (pv 7) (pa_cons (pe_tup (pa_cons (pe_callD D_times hr_times pass0 (pa_cons (pe_callD D_times hr_times pass0 (pa_cons (pv 3) (pa_cons (pv 4) pa_nil))) (pa_cons (pv 5) pa_nil))) (pa_cons (pe_callD D_times hr_times pass0 (pa_cons (pv 3) (pa_cons (pe_callD D_times hr_times pass0 (pa_cons (pv 4) (pa_cons (pv 5) pa_nil))) pa_nil))) pa_nil))) pa_nil)))
    (pss_cons (ps_expr (pe_bm PySem.F.plainAttrs_list PySem.F.slot_list_append PySem.F.type_list_append mt_append (pv 7) (pa_cons (pe_tup (pa_cons (pe_callD D_times hr_times pass0 (pa_cons (pv 3) (pa_cons (pe_callD D_plus hr_plus pass0 (pa_cons (pv 4) (pa_cons (pv 5) pa_nil))) pa_nil))) (pa_cons (pe_callD D_plus hr_plus pass0 (pa_cons (pe_callD D_times hr_times pass0 (pa_cons (pv 3) (pa_cons (pv 4) pa_nil))) (pa_cons (pe_callD D_times hr_times pass0 (pa_cons (pv 3) (pa_cons (pv 5) pa_nil))) pa_nil))) pa_nil))) pa_nil)))
    (pss_cons (ps_expr (pe_bm PySem.F.plainAttrs_list PySem.F.slot_list_append PySem.F.type_list_append mt_append (pv 7) (pa_cons (pe_tup (pa_cons (pe_callD D_minus hr_minus pass0 (pa_cons (pv 3) (pa_cons (pv 4) pa_nil))) (pa_cons (pe_callD D_plus hr_plus pass0 (pa_cons (pv 3) (pa_cons (pe_callD D_times hr_times pass0 (pa_cons (pe_tup (pa_cons (pe_un un_neg pe_int) (pa_cons pe_int pa_nil))) (pa_cons (pv 4) pa_nil))) pa_nil))) pa_nil))) pa_nil)))
    (pss_cons (ps_expr (pe_bm PySem.F.plainAttrs_list PySem.F.slot_list_append PySem.F.type_list_append mt_append (pv 7) (pa_cons (pe_tup (pa_cons (pe_callD D_minus hr_minus pass0 (pa_cons (pe_callD D_plus hr_plus pass0 (pa_cons (pv 3) (pa_cons (pv 4) pa_nil))) (pa_cons (pv 4) pa_nil))) (pa_cons (pv 3) pa_nil))) pa_nil)))
    (pss_cons (ps_expr (pe_bm PySem.F.plainAttrs_list PySem.F.slot_list_append PySem.F.type_list_append mt_append (pv 7) (pa_cons (pe_tup (pa_cons (pe_callD D_minus hr_minus pass0 (pa_cons (pe_callD D_times hr_times pass0 (pa_cons (pv 3) (pa_cons (pv 3) pa_nil))) (pa_cons (pe_callD D_times hr_times pass0 (pa_cons (pv 4) (pa_cons (pv 4) pa_nil))) pa_nil))) (pa_cons (pe_callD D_times hr_times pass0 (pa_cons (pe_callD D_plus hr_plus pass0 (pa_cons (pv 3) (pa_cons (pv 4) pa_nil))) (pa_cons (pe_callD D_minus hr_minus pass0 (pa_cons (pv 3) (pa_cons (pv 4) pa_nil))) pa_nil))) pa_nil))) pa_nil)))
    (pss_cons (ps_set (i := 8) sc_law.nd rfl (Or.inl rfl) (pe_op op_plus pe_int (pe_callD D__law_next hr__law_next pass0 (pa_cons (pv 1) (pa_cons pe_int pa_nil)))))
    (pss_cons (ps_expr (pe_bm PySem.F.plainAttrs_list PySem.F.slot_list_append PySem.F.type_list_append mt_append (pv 7) (pa_cons (pe_tup (pa_cons (pe_callD D_share hr_share pass0 (pa_cons (pe_op op_timesA (pv 8) (pe_ix ix_seq (pv 3) pe_int (fun _ _ => rfl))) (pa_cons (pe_op op_timesA (pv 8) (pe_ix ix_seq (pv 3) pe_int (fun _ _ => rfl))) pa_nil))) (pa_cons (pv 3) pa_nil))) pa_nil)))
    (pss_cons (ps_expr (pe_bm PySem.F.plainAttrs_list PySem.F.slot_list_append PySem.F.type_list_append mt_append (pv 7) (pa_cons (pe_tup (pa_cons (pe_callD D_share hr_share pass0 (pa_cons (pe_op op_sub pe_int (pe_op op_timesA (pv 8) (pe_ix ix_seq (pv 3) pe_int (fun _ _ => rfl)))) (pa_cons (pe_op op_sub pe_int (pe_op op_timesA (pv 8) (pe_ix ix_seq (pv 3) pe_int (fun _ _ => rfl)))) pa_nil))) (pa_cons (pv 3) pa_nil))) pa_nil)))
    (pss_cons (ps_expr (pe_bm PySem.F.plainAttrs_list PySem.F.slot_list_append PySem.F.type_list_append mt_append (pv 7) (pa_cons (pe_tup (pa_cons (pe_callD D_minus hr_minus pass0 (pa_cons (pv 3) (pa_cons (pv 3) pa_nil))) (pa_cons (pe_tup (pa_cons pe_int (pa_cons pe_int pa_nil))) pa_nil))) pa_nil)))
    (pss_cons (ps_if (pt_cmpR (op_neA hu64) (pe_ix ix_seq (pv 3) pe_int (fun _ _ => rfl)) pe_int (nomark _))
    (pss_one (ps_expr (pe_bm PySem.F.plainAttrs_list PySem.F.slot_list_append PySem.F.type_list_append mt_append (pv 7) (pa_cons (pe_tup (pa_cons (pe_callD D_times hr_times pass0 (pa_cons (pv 3) (pa_cons (pe_callD D_share hr_share pass0 (pa_cons (pe_ix ix_seq (pv 3) pe_int (fun _ _ => rfl)) (pa_cons (pe_ix ix_seq (pv 3) pe_int (fun _ _ => rfl)) pa_nil))) pa_nil))) (pa_cons (pe_tup (pa_cons pe_int (pa_cons pe_int pa_nil))) pa_nil))) pa_nil))))
    pss_nil)
    (pss_cons (ps_for PassesOwn.never rfl (pi_list (pv 7)) (pg_tup (by rfl) (pgs_cons (pg_name (i := 9) sc_law.nd rfl (Or.inl rfl)) (pgs_cons (pg_name (i := 10) sc_law.nd rfl (Or.inl rfl)) pgs_nil)))
    (pss_one (ps_if (PW.pt (pw_or (pt_cmpR (op_neA hu64) (pv 9) (pv 10) (nomark _)) (pw_or (pt_not (pt_val (pe_callD D__law_lowest hr__law_lowest pass0 (pa_cons (pv 9) pa_nil)))) (pw_or1 (pt_not (pt_val (pe_callB call_isiA (by rfl) T.n_isinstance (by decide +kernel) (pa_cons (pv 9) (pa_cons (pe_tyN (n := "tuple") (by rfl) T.n_tuple (by decide +kernel)) pa_nil)))))))))
    (pss_one (ps_ret pe_bl))
    pss_nil)))
    (pss_cons (ps_set (i := 11) sc_law.nd rfl (Or.inl rfl) (pe_tup (pa_cons pe_int (pa_cons pe_int pa_nil))))
    (pss_one (ps_for PassesOwn.never rfl (pi_range2 (by rfl) T.n_range (pa_cons pe_int (pa_cons pe_int pa_nil))) (pg_name (i := 6) sc_law.nd rfl (Or.inl rfl))
    (pss_cons (ps_set (i := 11) sc_law.nd rfl (Or.inl rfl) (pe_callD D_plus hr_plus pass0 (pa_cons (pv 11) (pa_cons (pe_callD D_share hr_share pass0 (pa_cons pe_int (pa_cons (pe_op op_timesA (pv 6) (pe_op op_plus (pv 6) pe_int)) pa_nil))) pa_nil))))
    (pss_one (ps_if (pt_cmpR (op_neA hu64) (pv 11) (pe_callD D_share hr_share pass0 (pa_cons (pv 6) (pa_cons (pe_op op_plus (pv 6) pe_int) pa_nil))) (nomark _))
    (pss_one (ps_ret pe_bl))
    pss_nil)))))))))))))))))))))
    (pss_one (ps_ret pe_bl)))), ?_⟩
  walk_at "rh"
  refine rd_list hS fun c H1 fc f1 ec => ?_
  walk_at "rh"
  refine rd_newL (by simp) fun h H2 fh f2 eh => ?_
  have ec2 := f2.at ec
  have ne : h ≠ c := (ne_of_none ec fh).symm
  have hat : HAt H2 h c ns.length := ⟨ne, 167, 0, ns, eh, ec2, by decide, rfl⟩
  walk_at "rh"
  refine rd_forR (fun _ σ' H' => ∃ (u2 u3 u4 u5 u6 u7 u8 u9 u10 u11 : Option V), σ' = [some (.ref a), some (.ref h), u2, u3, u4, u5, u6, u7, u8, u9, u10, u11] ∧ HAt H' h c ns.length) ⟨_, _, _, _, _, _, _, _, _, _, rfl, hat⟩ ?_ ?_
  rotate_left
  · rintro σ' H3 ⟨u2, u3, u4, u5, u6, u7, u8, u9, u10, u11, rfl, hat⟩
    walk_at "rh"
    exact q H3
  rintro i σ' H3 hi ⟨u2, u3, u4, u5, u6, u7, u8, u9, u10, u11, rfl, hat⟩
  -- three shares
  walk_at "rh"
  refine rd_lcR fun D H4 fD f4 eD => ?_
  have nD := hat.new fD
  refine ⟨fun k acc H' => HAt H' h c ns.length ∧ acc.length = k ∧ ∀ v ∈ acc, ∃ r, Sh K H' v r ∧ SzM 31 r, ⟨hat.mono f4, rfl, by simp⟩, fun k acc H5 hk e5 ⟨hat5, hl, hp⟩ => ?_, fun acc H5 e5 ⟨hat5, hl, hp⟩ => ?_⟩
  · walk_at "rh"
    refine ifT rfl ?_
    walk_at "rh"
    refine ⟨h, c, rfl, hat5, fun v r H6 f6 k6 hat6 sh6 z6 => ?_⟩
    have e6 := f6.at e5 (by simp [nD])
    refine rd_lcend e6 (by omega) fun H7 f7 k7 e7 => ?_
    refine ⟨hat6.mono1 f7 nD.1 nD.2, by simp [hl], fun x hx => ?_⟩
    rcases List.mem_append.mp hx with hx | hx
    · obtain ⟨r', sh, z⟩ := hp x hx
      exact ⟨r', sh.kp (k6.trans k7), z⟩
    · rw [show x = v by simpa using hx]
      exact ⟨r, sh6.kp k7, z6⟩
  match acc, hl with
  | [v1, v2, v3], _ =>
  obtain ⟨r1, ⟨b1, rfl, sq1⟩, z1⟩ := hp v1 (by simp)
  have sh1 : Sh K H5 (.ref b1) r1 := ⟨b1, rfl, sq1⟩
  obtain ⟨r2, sh2, z2⟩ := hp v2 (by simp)
  obtain ⟨r3, sh3, z3⟩ := hp v3 (by simp)
  clear hp
  walk_at "rh"
  walk_at "c+"
  rename_i w1 Ha ga sa za
  walk_at "rh"
  walk_at "c+"
  rename_i w2 Hb gb sb zb
  walk_at "rh"
  refine rd_newT (by simp) fun t1 H6 ft1 f6 et1 => ?_
  have p1 : PairOk K H6 (.ref t1) := pair_mk et1 (by assumption) (by walk_at "kp") (by assumption) (by walk_at "kp") (Rat.add_comm r1 r2)
  walk_at "rh"
  walk_at "c*"
  walk_at "rh"
  walk_at "c*"
  walk_at "rh"
  refine rd_newT (by simp) fun t2 H7 ft2 f7 et2 => ?_
  have p2 : PairOk K H7 (.ref t2) := pair_mk et2 (by assumption) (by walk_at "kp") (by assumption) (by walk_at "kp") (Rat.mul_comm r1 r2)
  walk_at "rh"
  refine rd_newL (by simp) fun l H8 fl f8 el => ?_
  have hp8 : ∀ v ∈ [V.ref t1, V.ref t2], PairOk K H8 v := by
    intro v hv
    simp only [List.mem_cons, List.not_mem_nil, or_false] at hv
    rcases hv with rfl | rfl
    · exact p1.kp (by walk_at "kp")
    · exact p2.kp (by walk_at "kp")
  have ⟨nlh, nlc⟩ : l ≠ h ∧ l ≠ c := (show HAt H7 h c ns.length by walk_at "ha").new fl
  walk_at "rh"
  walk_at "c+"
  walk_at "rh"
  walk_at "c+"
  walk_at "rh"
  walk_at "c+"
  walk_at "rh"
  walk_at "c+"
  walk_at "rh"
  refine rd_newT (by simp) fun t9 H9 ft9 f9 et9 => ?_
  have p9 : PairOk K H9 (.ref t9) := pair_mk et9 (by assumption) (by walk_at "kp") (by assumption) (by walk_at "kp") (by grind)
  walk_at "rh"
  walk_at "ap"
  intro H10 f10 k10 e10
  have hp10 := pairs_app hp8 (by walk_at "kp") (p9.kp k10)
  replace sh1 := Sh.kp (H1 := H10) (by walk_at "kp") sh1
  replace sh2 := Sh.kp (H1 := H10) (by walk_at "kp") sh2
  replace sh3 := Sh.kp (H1 := H10) (by walk_at "kp") sh3
  replace sq1 := Kp.sq (H1 := H10) (by walk_at "kp") sq1
  walk_at "rh"
  walk_at "c*"
  walk_at "rh"
  walk_at "c*"
  walk_at "rh"
  walk_at "c*"
  walk_at "rh"
  walk_at "c*"
  walk_at "rh"
  refine rd_newT (by simp) fun t11 H11 ft11 f11 et11 => ?_
  have p11 : PairOk K H11 (.ref t11) := pair_mk et11 (by assumption) (by walk_at "kp") (by assumption) (by walk_at "kp") (by grind)
  walk_at "rh"
  walk_at "ap"
  intro H12 f12 k12 e12
  have hp12 := pairs_app hp10 (by walk_at "kp") (p11.kp k12)
  replace sh1 := Sh.kp (H1 := H12) (by walk_at "kp") sh1
  replace sh2 := Sh.kp (H1 := H12) (by walk_at "kp") sh2
  replace sh3 := Sh.kp (H1 := H12) (by walk_at "kp") sh3
  replace sq1 := Kp.sq (H1 := H12) (by walk_at "kp") sq1
  walk_at "rh"
  walk_at "c+"
  walk_at "rh"
  walk_at "c*"
  walk_at "rh"
  walk_at "c*"
  walk_at "rh"
  walk_at "c*"
  walk_at "rh"
  walk_at "c+"
  walk_at "rh"
  refine rd_newT (by simp) fun t13 H13 ft13 f13 et13 => ?_
  have p13 : PairOk K H13 (.ref t13) := pair_mk et13 (by assumption) (by walk_at "kp") (by assumption) (by walk_at "kp") (by grind)
  walk_at "rh"
  walk_at "ap"
  intro H14 f14 k14 e14
  have hp14 := pairs_app hp12 (by walk_at "kp") (p13.kp k14)
  replace sh1 := Sh.kp (H1 := H14) (by walk_at "kp") sh1
  replace sh2 := Sh.kp (H1 := H14) (by walk_at "kp") sh2
  replace sh3 := Sh.kp (H1 := H14) (by walk_at "kp") sh3
  replace sq1 := Kp.sq (H1 := H14) (by walk_at "kp") sq1
  walk_at "rh"
  walk_at "c-"
  walk_at "rh"
  refine rd_newT (by simp) fun tn Hn ftn fn etn => ?_
  have shn : Sh K Hn (.ref tn) (-1) := ⟨tn, rfl, SqT.of etn⟩
  have zn : SzM 1 (-1) := ⟨by decide, by decide⟩
  walk_at "rh"
  walk_at "c*"
  walk_at "rh"
  walk_at "c+"
  walk_at "rh"
  refine rd_newT (by simp) fun t15 H15 ft15 f15 et15 => ?_
  have p15 : PairOk K H15 (.ref t15) := pair_mk et15 (by assumption) (by walk_at "kp") (by assumption) (by walk_at "kp") (by grind)
  walk_at "rh"
  walk_at "ap"
  intro H16 f16 k16 e16
  have hp16 := pairs_app hp14 (by walk_at "kp") (p15.kp k16)
  replace sh1 := Sh.kp (H1 := H16) (by walk_at "kp") sh1
  replace sh2 := Sh.kp (H1 := H16) (by walk_at "kp") sh2
  replace sh3 := Sh.kp (H1 := H16) (by walk_at "kp") sh3
  replace sq1 := Kp.sq (H1 := H16) (by walk_at "kp") sq1
  walk_at "rh"
  walk_at "c+"
  walk_at "rh"
  walk_at "c-"
  walk_at "rh"
  refine rd_newT (by simp) fun t17 H17 ft17 f17 et17 => ?_
  have p17 : PairOk K H17 (.ref t17) := pair_mk et17 (by assumption) (by walk_at "kp") (by assumption) (by walk_at "kp") (by grind)
  walk_at "rh"
  walk_at "ap"
  intro H18 f18 k18 e18
  have hp18 := pairs_app hp16 (by walk_at "kp") (p17.kp k18)
  replace sh1 := Sh.kp (H1 := H18) (by walk_at "kp") sh1
  replace sh2 := Sh.kp (H1 := H18) (by walk_at "kp") sh2
  replace sh3 := Sh.kp (H1 := H18) (by walk_at "kp") sh3
  replace sq1 := Kp.sq (H1 := H18) (by walk_at "kp") sq1
  walk_at "rh"
  walk_at "c*"
  walk_at "rh"
  walk_at "c*"
  walk_at "rh"
  walk_at "c-"
  walk_at "rh"
  walk_at "c+"
  walk_at "rh"
  walk_at "c-"
  walk_at "rh"
  walk_at "c*"
  walk_at "rh"
  refine rd_newT (by simp) fun t19 H19 ft19 f19 et19 => ?_
  have p19 : PairOk K H19 (.ref t19) := pair_mk et19 (by assumption) (by walk_at "kp") (by assumption) (by walk_at "kp") (by grind)
  walk_at "rh"
  walk_at "ap"
  intro H20 f20 k20 e20
  have hp20 := pairs_app hp18 (by walk_at "kp") (p19.kp k20)
  replace sh1 := Sh.kp (H1 := H20) (by walk_at "kp") sh1
  replace sh2 := Sh.kp (H1 := H20) (by walk_at "kp") sh2
  replace sh3 := Sh.kp (H1 := H20) (by walk_at "kp") sh3
  replace sq1 := Kp.sq (H1 := H20) (by walk_at "kp") sq1
  walk_at "rh"
  refine ⟨h, c, 99, rfl, by decide, by decide, (by walk_at "ha"), fun r0 Hm a0 b0 fm hatm => ?_⟩
  have km : Kp H20 Hm := (show HAt H20 h c ns.length by walk_at "ha").kp fm
  have em := fm.at e20 (by simp [nlh, nlc])
  have hpm := fun v hv => (hp20 v hv).kp km
  have hk1 : -(2 ^ 64) < 1 + r0 ∧ 1 + r0 < 2 ^ 64 := by omega
  have hk0 : 1 + r0 ≠ 0 := by omega
  have d1 := den_ne r1
  have bd1 : ((1 + r0) * (r1.den : Int)).natAbs < 2 ^ 41 := wide_lt (a := 10) (b := 31) (by omega) z1.2
  have bd2 : (0 - (1 + r0) * (r1.den : Int)).natAbs < 2 ^ 41 := by omega
  have hd1 : (1 + r0) * (r1.den : Int) ≠ 0 := Int.mul_ne_zero hk0 d1
  have sameA : Rat.divInt ((1 + r0) * r1.num) ((1 + r0) * (r1.den : Int)) = r1 := by
    rw [Rat.divInt_mul_left hk0, Rat.num_divInt_den]
  have sameB : Rat.divInt (0 - (1 + r0) * r1.num) (0 - (1 + r0) * (r1.den : Int)) = r1 := by
    rw [Int.zero_sub, Int.zero_sub, Rat.neg_divInt_neg, sameA]
  walk_at "rh"
  refine rd_mulL hk1 ?_
  walk_at "rh"
  refine rd_mulL hk1 ?_
  walk_at "rh"
  refine ⟨_, _, rfl, hd1, Nat.lt_of_lt_of_le bd1 (Nat.pow_le_pow_right (by decide) (by decide)), fun va Ha1 ga1 sa1 => ?_⟩
  rw [sameA] at sa1
  walk_at "rh"
  refine rd_newT (by simp) fun tA HA ftA fA etA => ?_
  have pA : PairOk K HA (.ref tA) := pair_mk etA (by assumption) (by walk_at "kp") (by assumption) (by walk_at "kp") (rfl)
  walk_at "rh"
  walk_at "ap"
  intro GA gA kA eA
  have hpA := pairs_app hpm (by walk_at "kp") (pA.kp kA)
  replace sh1 := Sh.kp (H1 := GA) (by walk_at "kp") sh1
  replace sh2 := Sh.kp (H1 := GA) (by walk_at "kp") sh2
  replace sh3 := Sh.kp (H1 := GA) (by walk_at "kp") sh3
  replace sq1 := Kp.sq (H1 := GA) (by walk_at "kp") sq1
  walk_at "rh"
  refine rd_mulL hk1 ?_
  walk_at "rh"
  refine rd_mulL hk1 ?_
  walk_at "rh"
  refine ⟨_, _, rfl, (by omega), Nat.lt_of_lt_of_le bd2 (Nat.pow_le_pow_right (by decide) (by decide)), fun vb Hb1 gb1 sb1 => ?_⟩
  rw [sameB] at sb1
  walk_at "rh"
  refine rd_newT (by simp) fun tB HB ftB fB etB => ?_
  have pB : PairOk K HB (.ref tB) := pair_mk etB (by assumption) (by walk_at "kp") (by assumption) (by walk_at "kp") (rfl)
  walk_at "rh"
  walk_at "ap"
  intro GB gB kB eB
  have hpB := pairs_app hpA (by walk_at "kp") (pB.kp kB)
  replace sh1 := Sh.kp (H1 := GB) (by walk_at "kp") sh1
  replace sh2 := Sh.kp (H1 := GB) (by walk_at "kp") sh2
  replace sh3 := Sh.kp (H1 := GB) (by walk_at "kp") sh3
  replace sq1 := Kp.sq (H1 := GB) (by walk_at "kp") sq1
  walk_at "rh"
  walk_at "c-"
  walk_at "rh"
  refine rd_newT (by simp) fun tz Hz ftz fz etz => ?_
  have shz : Sh K Hz (.ref tz) 0 := ⟨tz, rfl, SqT.of etz⟩
  walk_at "rh"
  refine rd_newT (by simp) fun tC HC ftC fC etC => ?_
  have pC : PairOk K HC (.ref tC) := pair_mk etC (by assumption) (by walk_at "kp") (by assumption) (by walk_at "kp") (Rat.sub_self)
  walk_at "rh"
  walk_at "ap"
  intro GC gC kC eC
  have hpC := pairs_app hpB (by walk_at "kp") (pC.kp kC)
  replace sh1 := Sh.kp (H1 := GC) (by walk_at "kp") sh1
  replace sh2 := Sh.kp (H1 := GC) (by walk_at "kp") sh2
  replace sh3 := Sh.kp (H1 := GC) (by walk_at "kp") sh3
  replace sq1 := Kp.sq (H1 := GC) (by walk_at "kp") sq1
  walk_at "rs"
  with_reducible refine rd_seqc fun N hN => ?_
  have fin : ∀ (G : Hp) (vs : List V), Kp GC G → HAt G h c ns.length → G l = some (.lst vs) → (∀ v ∈ vs, PairOk K G v) → N [some (.ref a), some (.ref h), some (.int (0 + (i : Int))), some (.ref b1), some v2, some v3, u6, some (.ref l), some (.int (1 + r0)), u9, u10, u11] G := by
    intro G vs kG hatG eG hpG
    refine hN _ _ ?_
    walk_at "rh"
    refine rd_forL vs (fun _ σ' G' => ∃ (u9 u10 : Option V), σ' = [some (.ref a), some (.ref h), some (.int (0 + (i : Int))), some (.ref b1), some v2, some v3, u6, some (.ref l), some (.int (1 + r0)), u9, u10, u11] ∧ Fr [] G G') ⟨u9, u10, rfl, Fr.refl _ _⟩ (fun k σ' G' _ ⟨_, _, _, g⟩ => SqL.of (g.at eG)) ?_ ?_
    · rintro k x σ' G' hx ⟨u9, u10, rfl, g⟩
      obtain ⟨t, x1, x2, r, rfl, st, sx1, sx2⟩ := (hpG x (List.mem_of_getElem? hx)).kp g.kp0
      walk_at "rs"
      refine rd_neSh sx1 sx2 ?_
      walk_at "rs"
      refine ifF rfl ?_
      walk_at "rs"
      refine ⟨x1, r, rfl, sx1, ?_⟩
      walk_at "rs"
      refine ifF rfl ?_
      walk_at "rs"
      obtain ⟨tx, rfl, sq⟩ := id sx1
      refine rd_isi (k := true) (ty_tup sq) (by decide +kernel) ?_
      walk_at "rs"
      refine ifF rfl ?_
      walk_at "rs"
      exact ⟨_, _, rfl, g⟩
    rintro σ' G' ⟨u9, u10, rfl, g⟩
    have hatG := hatG.mono g
    walk_at "rh"
    refine rd_newT (by simp) fun tt G1 ftt g1 ett => ?_
    have hatG := hatG.mono g1
    have sh00 : Sh K G1 (.ref tt) (Rat.divInt ((0 : Nat) : Int) (((0 : Nat) : Int) + 1)) := by
      have e : Rat.divInt ((0 : Nat) : Int) (((0 : Nat) : Int) + 1) = 0 := by decide
      rw [e]
      exact ⟨tt, rfl, SqT.of ett⟩
    walk_at "rh"
    refine rd_forR (fun k σ' G' => ∃ (u6 u11 : Option V) (vt : V), σ' = [some (.ref a), some (.ref h), some (.int (0 + (i : Int))), some (.ref b1), some v2, some v3, u6, some (.ref l), some (.int (1 + r0)), u9, u10, some vt] ∧ HAt G' h c ns.length ∧ Sh K G' vt (Rat.divInt (k : Int) ((k : Int) + 1))) ⟨u6, none, .ref tt, rfl, hatG, sh00⟩ ?_ ?_
    · rintro k σ' G2 hk ⟨u6, _, vt, rfl, hat2, sht⟩
      have zk : SzM 10 (Rat.divInt (k : Int) ((k : Int) + 1)) := divInt_szM (by omega) (by omega) (by omega)
      have k0 : (1 + (k : Int)) * ((1 + (k : Int)) + 1) ≠ 0 := Int.mul_ne_zero (by omega) (by omega)
      have kb : ((1 + (k : Int)) * ((1 + (k : Int)) + 1)).natAbs < 2 ^ 20 := wide_lt (a := 10) (b := 10) (by omega) (by omega)
      have zz : SzM 20 (Rat.divInt 1 ((1 + (k : Int)) * ((1 + (k : Int)) + 1))) := divInt_szM k0 (by decide) kb
      walk_at "rh"
      refine rd_mulL (by omega) ?_
      walk_at "rh"
      refine ⟨_, _, rfl, k0, Nat.lt_of_lt_of_le kb (Nat.pow_le_pow_right (by decide) (by decide)), fun vy G3 g3 sy => ?_⟩
      walk_at "rh"
      walk_at "c+"
      rename_i vz G4 g4 sz' zz'
      rw [tele] at sz'
      walk_at "rs"
      refine ⟨_, _, rfl, by omega, Nat.lt_of_lt_of_le (show (1 + (k : Int) + 1).natAbs < 2 ^ 10 by omega) (Nat.pow_le_pow_right (by decide) (by decide)), fun vw G5 g5 sw => ?_⟩
      refine rd_neSh (sz'.mono g5) sw ?_
      walk_at "rs"
      refine ifF rfl ?_
      walk_at "rs"
      refine ⟨_, none, vz, rfl, by walk_at "ha", ?_⟩
      have e : ((k + 1 : Nat) : Int) = 1 + (k : Int) := by omega
      rw [e]
      exact sz'.mono g5
    rintro σ' G2 ⟨u6, _, vt, rfl, hat2, _⟩
    exact ⟨_, _, _, _, _, _, _, _, _, _, rfl, hat2⟩
  walk_at "rs"
  have key : ∀ b : Bool, b = !decide (V.int r1.num = V.int 0) → (b = true → r1.num ≠ 0) ∧ (b = false → r1.num = 0) := by
    intro b e
    subst e
    constructor
    · intro e2 e3
      rw [e3] at e2
      simp at e2
    · intro e2
      have : V.int r1.num = V.int 0 := by simpa using e2
      exact V.int.inj this
  refine ite2 (fun hc => ?_) (fun hc => ?_)
  · have h0 := (key _ rfl).1 hc
    have sc : SzM 31 (Rat.divInt (r1.den : Int) r1.num) := divInt_szM h0 z1.2 z1.1
    have one : r1 * Rat.divInt (r1.den : Int) r1.num = 1 := by
      have e := Rat.divInt_mul_divInt r1.num (r1.den : Int) (d₁ := (r1.den : Int)) (d₂ := r1.num)
      rw [Rat.num_divInt_den] at e
      rw [e, Int.mul_comm (r1.den : Int) r1.num, Rat.divInt_self' (Int.mul_ne_zero h0 d1)]
    walk_at "rh"
    refine ⟨_, _, rfl, h0, Nat.lt_of_lt_of_le z1.1 (Nat.pow_le_pow_right (by decide) (by decide)), fun vy G3 g3 sy => ?_⟩
    walk_at "rh"
    walk_at "c*"
    rename_i vz G4 g4 sz' zz'
    rw [one] at sz'
    walk_at "rh"
    refine rd_newT (by simp) fun to G5 fto g5 eto => ?_
    have sho : Sh K G5 (.ref to) 1 := ⟨to, rfl, SqT.of eto⟩
    walk_at "rh"
    refine rd_newT (by simp) fun tD HD ftD fD' etD => ?_
    have pD : PairOk K HD (.ref tD) := pair_mk etD (by assumption) (by walk_at "kp") (by assumption) (by walk_at "kp") rfl
    walk_at "rh"
    walk_at "ap"
    intro GD gD kD eD'
    have hpD := pairs_app hpC (by walk_at "kp") (pD.kp kD)
    walk_at "rh"
    exact fin GD _ (by walk_at "kp") (by walk_at "ha") eD' hpD
  · walk_at "rh"
    exact fin GC _ (Kp.refl _) (by walk_at "ha") eC hpC
/-- everything together -/
theorem glue (T : Blt mg) (F_divisor : Here K mg "divisor" s_divisor ["one", "other"]) (F_share : Here K mg "share" s_share ["top", "bottom"]) (F_plus : Here K mg "plus" s_plus ["one", "other"]) (F_minus : Here K mg "minus" s_minus ["one", "other"]) (F_times : Here K mg "times" s_times ["one", "other"])
    (F__law_next : Here K mg "_law_next" s__law_next ["_law_h", "_law_many"]) (F__law_share : Here K mg "_law_share" s__law_share ["_law_h"]) (F__law_lowest : Here K mg "_law_lowest" s__law_lowest ["_law_one"])
    {fa : Addr} {fd : FuncData} (F : Fun K "law" "law" s_law fa fd) : FnOk P w K mg base CX0 4 fa fd ["_law_script"] (spLaw K) := by
  have D1 := ok_divisor (P := P) (w := w) (base := base) T F_divisor
  have D2 := ok_share F_share D1
  have N := fun n => ok_next (P := P) (w := w) (base := base) n T F__law_next
  exact ok_law T N (fun n => ok_lshare n F__law_share (N n) D2) D2 (ok_plus F_plus D2) (ok_minus F_minus D2) (ok_times F_times D2) (ok_lowest T F__law_lowest) F
end
end Lf
namespace Lf
open PySem PySem.Spec PyProof.Rows L2
theorem all_mk {l : PySem.W.OpenLaw} {w : World} {K : PySem.W.Frag} {h : Heap} {mg : Str → Option Value} {fa f0 f1 f2 f3 f4 f5 f6 f7 f8 : Addr} (X : K.In h) (G : h.Ns mainGlobals mg) (hfa : mg "law" = some (.ref fa))
    {od0 an0 : Option Addr} {sl0 : Array (Option Value)} {oc0 kV0 dc0 pm0 cd0 ct0 : Value}
    (a0 : PySem.W.nsIn K mainGlobals "divisor" = some (some (.ref f0))) (l0 : K.lookup f0 = some ⟨oc0, od0, .func (PySem.W.fnOf "divisor" "divisor" (defArgs s_divisor) (defBody s_divisor) (defScope s_divisor) .none kV0 dc0 pm0 an0 cd0 ct0), sl0⟩) (c0 : PySem.W.codeIn K cd0 "divisor" = true) (k0 : PySem.W.keepIn K (.ref f0) = true)
    {od1 an1 : Option Addr} {sl1 : Array (Option Value)} {oc1 kV1 dc1 pm1 cd1 ct1 : Value}
    (a1 : PySem.W.nsIn K mainGlobals "share" = some (some (.ref f1))) (l1 : K.lookup f1 = some ⟨oc1, od1, .func (PySem.W.fnOf "share" "share" (defArgs s_share) (defBody s_share) (defScope s_share) .none kV1 dc1 pm1 an1 cd1 ct1), sl1⟩) (c1 : PySem.W.codeIn K cd1 "share" = true) (k1 : PySem.W.keepIn K (.ref f1) = true)
    {od2 an2 : Option Addr} {sl2 : Array (Option Value)} {oc2 kV2 dc2 pm2 cd2 ct2 : Value}
    (a2 : PySem.W.nsIn K mainGlobals "plus" = some (some (.ref f2))) (l2 : K.lookup f2 = some ⟨oc2, od2, .func (PySem.W.fnOf "plus" "plus" (defArgs s_plus) (defBody s_plus) (defScope s_plus) .none kV2 dc2 pm2 an2 cd2 ct2), sl2⟩) (c2 : PySem.W.codeIn K cd2 "plus" = true) (k2 : PySem.W.keepIn K (.ref f2) = true)
    {od3 an3 : Option Addr} {sl3 : Array (Option Value)} {oc3 kV3 dc3 pm3 cd3 ct3 : Value}
    (a3 : PySem.W.nsIn K mainGlobals "minus" = some (some (.ref f3))) (l3 : K.lookup f3 = some ⟨oc3, od3, .func (PySem.W.fnOf "minus" "minus" (defArgs s_minus) (defBody s_minus) (defScope s_minus) .none kV3 dc3 pm3 an3 cd3 ct3), sl3⟩) (c3 : PySem.W.codeIn K cd3 "minus" = true) (k3 : PySem.W.keepIn K (.ref f3) = true)
    {od4 an4 : Option Addr} {sl4 : Array (Option Value)} {oc4 kV4 dc4 pm4 cd4 ct4 : Value}
    (a4 : PySem.W.nsIn K mainGlobals "times" = some (some (.ref f4))) (l4 : K.lookup f4 = some ⟨oc4, od4, .func (PySem.W.fnOf "times" "times" (defArgs s_times) (defBody s_times) (defScope s_times) .none kV4 dc4 pm4 an4 cd4 ct4), sl4⟩) (c4 : PySem.W.codeIn K cd4 "times" = true) (k4 : PySem.W.keepIn K (.ref f4) = true)
    {od5 an5 : Option Addr} {sl5 : Array (Option Value)} {oc5 kV5 dc5 pm5 cd5 ct5 : Value}
    (a5 : PySem.W.nsIn K mainGlobals "_law_next" = some (some (.ref f5))) (l5 : K.lookup f5 = some ⟨oc5, od5, .func (PySem.W.fnOf "_law_next" "_law_next" (defArgs s__law_next) (defBody s__law_next) (defScope s__law_next) .none kV5 dc5 pm5 an5 cd5 ct5), sl5⟩) (c5 : PySem.W.codeIn K cd5 "_law_next" = true) (k5 : PySem.W.keepIn K (.ref f5) = true)
    {od6 an6 : Option Addr} {sl6 : Array (Option Value)} {oc6 kV6 dc6 pm6 cd6 ct6 : Value}
    (a6 : PySem.W.nsIn K mainGlobals "_law_share" = some (some (.ref f6))) (l6 : K.lookup f6 = some ⟨oc6, od6, .func (PySem.W.fnOf "_law_share" "_law_share" (defArgs s__law_share) (defBody s__law_share) (defScope s__law_share) .none kV6 dc6 pm6 an6 cd6 ct6), sl6⟩) (c6 : PySem.W.codeIn K cd6 "_law_share" = true) (k6 : PySem.W.keepIn K (.ref f6) = true)
    {od7 an7 : Option Addr} {sl7 : Array (Option Value)} {oc7 kV7 dc7 pm7 cd7 ct7 : Value}
    (a7 : PySem.W.nsIn K mainGlobals "_law_lowest" = some (some (.ref f7))) (l7 : K.lookup f7 = some ⟨oc7, od7, .func (PySem.W.fnOf "_law_lowest" "_law_lowest" (defArgs s__law_lowest) (defBody s__law_lowest) (defScope s__law_lowest) .none kV7 dc7 pm7 an7 cd7 ct7), sl7⟩) (c7 : PySem.W.codeIn K cd7 "_law_lowest" = true) (k7 : PySem.W.keepIn K (.ref f7) = true)
    {od8 an8 : Option Addr} {sl8 : Array (Option Value)} {oc8 kV8 dc8 pm8 cd8 ct8 : Value}
    (a8 : PySem.W.nsIn K mainGlobals "law" = some (some (.ref f8))) (l8 : K.lookup f8 = some ⟨oc8, od8, .func (PySem.W.fnOf "law" "law" (defArgs s_law) (defBody s_law) (defScope s_law) .none kV8 dc8 pm8 an8 cd8 ct8), sl8⟩) (c8 : PySem.W.codeIn K cd8 "law" = true) (k8 : PySem.W.keepIn K (.ref f8) = true)
    (z_abs : PySem.W.nsIn K mainGlobals "abs" = some none)
    (z_len : PySem.W.nsIn K mainGlobals "len" = some none)
    (z_max : PySem.W.nsIn K mainGlobals "max" = some none)
    (z_min : PySem.W.nsIn K mainGlobals "min" = some none)
    (z_list : PySem.W.nsIn K mainGlobals "list" = some none)
    (z_range : PySem.W.nsIn K mainGlobals "range" = some none)
    (z_isinstance : PySem.W.nsIn K mainGlobals "isinstance" = some none)
    (z_tuple : PySem.W.nsIn K mainGlobals "tuple" = some none)
    (z_int : PySem.W.nsIn K mainGlobals "int" = some none)
    (z_bool : PySem.W.nsIn K mainGlobals "bool" = some none)
    (z_str : PySem.W.nsIn K mainGlobals "str" = some none)
    (z_dict : PySem.W.nsIn K mainGlobals "dict" = some none)
    (z_sorted : PySem.W.nsIn K mainGlobals "sorted" = some none)
    (z_set : PySem.W.nsIn K mainGlobals "set" = some none)
    (z_enumerate : PySem.W.nsIn K mainGlobals "enumerate" = some none)
    (z_reversed : PySem.W.nsIn K mainGlobals "reversed" = some none)
    (z_sum : PySem.W.nsIn K mainGlobals "sum" = some none)
    (z_all : PySem.W.nsIn K mainGlobals "all" = some none)
    (z_any : PySem.W.nsIn K mainGlobals "any" = some none)
    : ∃ fd : FuncData, (∀ (s : Shared) (v : Value), BindsTo s fd ⟨[v], []⟩ [("_law_script", v)]) ∧ ∀ base : Heap, K.In base → base.Ns mainGlobals mg → FnOk l.prog w K mg base CX0 4 fa fd ["_law_script"] (spLaw K) := by
  have e := hfa.symm.trans (PySem.W.mg_of X G a8)
  cases e
  have T : Blt mg := ⟨PySem.W.mg_none_of X G z_abs, PySem.W.mg_none_of X G z_len, PySem.W.mg_none_of X G z_max, PySem.W.mg_none_of X G z_min, PySem.W.mg_none_of X G z_list, PySem.W.mg_none_of X G z_range, PySem.W.mg_none_of X G z_isinstance, PySem.W.mg_none_of X G z_tuple, PySem.W.mg_none_of X G z_int, PySem.W.mg_none_of X G z_bool, PySem.W.mg_none_of X G z_str, PySem.W.mg_none_of X G z_dict, PySem.W.mg_none_of X G z_sorted, PySem.W.mg_none_of X G z_set, PySem.W.mg_none_of X G z_enumerate, PySem.W.mg_none_of X G z_reversed, PySem.W.mg_none_of X G z_sum, PySem.W.mg_none_of X G z_all, PySem.W.mg_none_of X G z_any⟩
  have F0 : Here K mg "divisor" s_divisor ["one", "other"] := here_mk (st := s_divisor) X G a0 l0 c0 k0 (fun us hl => match us, hl with | [_, _], _ => rfl)
  have F1 : Here K mg "share" s_share ["top", "bottom"] := here_mk (st := s_share) X G a1 l1 c1 k1 (fun us hl => match us, hl with | [_, _], _ => rfl)
  have F2 : Here K mg "plus" s_plus ["one", "other"] := here_mk (st := s_plus) X G a2 l2 c2 k2 (fun us hl => match us, hl with | [_, _], _ => rfl)
  have F3 : Here K mg "minus" s_minus ["one", "other"] := here_mk (st := s_minus) X G a3 l3 c3 k3 (fun us hl => match us, hl with | [_, _], _ => rfl)
  have F4 : Here K mg "times" s_times ["one", "other"] := here_mk (st := s_times) X G a4 l4 c4 k4 (fun us hl => match us, hl with | [_, _], _ => rfl)
  have F5 : Here K mg "_law_next" s__law_next ["_law_h", "_law_many"] := here_mk (st := s__law_next) X G a5 l5 c5 k5 (fun us hl => match us, hl with | [_, _], _ => rfl)
  have F6 : Here K mg "_law_share" s__law_share ["_law_h"] := here_mk (st := s__law_share) X G a6 l6 c6 k6 (fun us hl => match us, hl with | [_], _ => rfl)
  have F7 : Here K mg "_law_lowest" s__law_lowest ["_law_one"] := here_mk (st := s__law_lowest) X G a7 l7 c7 k7 (fun us hl => match us, hl with | [_], _ => rfl)
  exact ⟨_, fun s v => .of_eq rfl, fun base _ _ => glue T F0 F1 F2 F3 F4 F5 F6 F7 (fun_mk (st := s_law) l8 c8 k8)⟩
end Lf
open PySem PySem.W PyProof.Rows
set_option maxRecDepth 100000 in
set_option maxHeartbeats 0 in
theorem PySem.Challenge.cw_lapfold_k35_whole_shares_are_fractions_holds : PySem.Challenge.rw_lapfold_k35_whole_shares_are_fractions.Holds := by
  w_on; o_law; k_head; (case hw => w_witness2)
  k_fill
  refine L2.walk_of (l := PySem.Challenge.rw_lapfold_k35_whole_shares_are_fractions) (n := 63) (k := 4) (x := "_law_script") (CX := fun _ => L2.CX0) (sp := fun w => Lf.spLaw _) rfl (by decide) rfl ⟨rfl, by decide, by decide⟩ (fun w h Y => PySem.W.kIn_of Y) ?F (fun _ _ a ns hl _ hS => ⟨a, ns, rfl, hS, hl, fun _ => rfl⟩) fun _ _ _ _ _ z => z
  case F =>
    intro w mg fa h KX G hmg
    refine' Lf.all_mk KX G hmg ?a0 ?l0 ?c0 ?k0 ?a1 ?l1 ?c1 ?k1 ?a2 ?l2 ?c2 ?k2 ?a3 ?l3 ?c3 ?k3 ?a4 ?l4 ?c4 ?k4 ?a5 ?l5 ?c5 ?k5 ?a6 ?l6 ?c6 ?k6 ?a7 ?l7 ?c7 ?k7 ?a8 ?l8 ?c8 ?k8 ?z_abs ?z_len ?z_max ?z_min ?z_list ?z_range ?z_isinstance ?z_tuple ?z_int ?z_bool ?z_str ?z_dict ?z_sorted ?z_set ?z_enumerate ?z_reversed ?z_sum ?z_all ?z_any
    (case a0 => k_is)
    (case l0 => k_is)
    (case c0 => k_is)
    (case k0 => k_is)
    (case a1 => k_is)
    (case l1 => k_is)
    (case c1 => k_is)
    (case k1 => k_is)
    (case a2 => k_is)
    (case l2 => k_is)
    (case c2 => k_is)
    (case k2 => k_is)
    (case a3 => k_is)
    (case l3 => k_is)
    (case c3 => k_is)
    (case k3 => k_is)
    (case a4 => k_is)
    (case l4 => k_is)
    (case c4 => k_is)
    (case k4 => k_is)
    (case a5 => k_is)
    (case l5 => k_is)
    (case c5 => k_is)
    (case k5 => k_is)
    (case a6 => k_is)
    (case l6 => k_is)
    (case c6 => k_is)
    (case k6 => k_is)
    (case a7 => k_is)
    (case l7 => k_is)
    (case c7 => k_is)
    (case k7 => k_is)
    (case a8 => k_is)
    (case l8 => k_is)
    (case c8 => k_is)
    (case k8 => k_is)
    (case z_abs => k_is)
    (case z_len => k_is)
    (case z_max => k_is)
    (case z_min => k_is)
    (case z_list => k_is)
    (case z_range => k_is)
    (case z_isinstance => k_is)
    (case z_tuple => k_is)
    (case z_int => k_is)
    (case z_bool => k_is)
    (case z_str => k_is)
    (case z_dict => k_is)
    (case z_sorted => k_is)
    (case z_set => k_is)
    (case z_enumerate => k_is)
    (case z_reversed => k_is)
    (case z_sum => k_is)
    (case z_all => k_is)
    (case z_any => k_is)
#print axioms PySem.Challenge.cw_lapfold_k35_whole_shares_are_fractions_holds
