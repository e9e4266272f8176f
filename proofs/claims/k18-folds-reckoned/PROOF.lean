import PyProof.Rows.All
import Wide.All
import OpenK.AllK
import Wide.FinOn
import HandS.ForMost
import HandS.ForExc
import HandS.Flow
import HandS.Style
import HandS.Wide
import HandS.IsInst
import HandS.TupAny
import HandS.TupMul
import HandS.NoneIn
import PySem.Challenge.RW_lapfold_k18_folds_reckoned
set_option Elab.async false
set_option maxRecDepth 100000
set_option maxHeartbeats 4000000
/-! Lf.base: own words over the hand layer: operators of any kind, calls by standing defs, frames, deep data. -/
namespace Lf
open PySem PySem.Spec PyProof.Rows L2
/-! ### operators, by whatever kind the values are -/
section
variable {X : Cx}
theorem opr_or {f : Value → Value → Sem Value} {r1 r2 : R2} (h1 : OpR X f r1) (h2 : OpR X f r2) : OpR X f (fun x y H Q => r1 x y H Q ∨ r2 x y H Q) := by
  intro pins s σ H x y v u Q I rx ry h
  rcases h with h | h
  · exact h1 pins s σ H x y v u Q I rx ry h
  · exact h2 pins s σ H x y v u Q I rx ry h
def rAddI : R2 := rI0 fun i j => .int (i + j)
def rAddS : R2 := fun x y H Q => ∃ i j, x = .str i ∧ y = .str j ∧ i.length + j.length ≤ sizeLine ∧ Q (.str (i ++ j)) H
def rPlus (K : PySem.W.Frag) : R2 := fun x y H Q => rAddI x y H Q ∨ rAddS x y H Q ∨ rCat x y H Q ∨ rCatA K x y H Q
theorem op_plus : OpR X (binaryOp .Add) (rPlus X.K) := opr_or op_add (opr_or op_add_str (opr_or op_cat op_catA))
def rMulS : R2 := rI CMul fun i j => .int (i * j)
def rMulW : R2 := rI CMulW fun i j => .int (i * j)
theorem op_mulS : OpR X (binaryOp .Mult) rMulS := op_mul
def rTimes (K : PySem.W.Frag) : R2 := fun x y H Q => rMulS x y H Q ∨ rMulW x y H Q ∨ rRep x y H Q ∨ rRepT K x y H Q
theorem op_timesA : OpR X (binaryOp .Mult) (rTimes X.K) := opr_or op_mul (opr_or op_mulW (opr_or op_rep op_repT))
def rEqA (K : PySem.W.Frag) : R2 := fun x y H Q => rEq x y H Q ∨ rEqD K x y H Q
def rNeA (K : PySem.W.Frag) : R2 := fun x y H Q => rNe x y H Q ∨ rNeD K x y H Q
theorem op_eqA (hu : X.A.units + 64 < cLine) : OpR X (compareOp .Eq) (rEqA X.K) := opr_or op_eq (op_eqD hu)
theorem op_neA (hu : X.A.units + 64 < cLine) : OpR X (compareOp .NotEq) (rNeA X.K) := opr_or op_ne (op_neD hu)
def rLenA (K : PySem.W.Frag) : List V → Hp → VK → Prop := fun xs H Q => ∃ x n, xs = [x] ∧ LenV K x H n ∧ Q (.int n) H
theorem call_lenA : CallR X (.builtin "len") (rLenA X.K) := call_len
def rAbs : List V → Hp → VK → Prop := fun xs H Q => ∃ i, xs = [.int i] ∧ Q (.int (if i < 0 then -i else i)) H
theorem call_absA : CallR X (.builtin "abs") rAbs := call_abs
def rMax2 : List V → Hp → VK → Prop := fun xs H Q => ∃ i j, xs = [.int i, .int j] ∧ Q (.int (if j > i then j else i)) H
theorem call_max2A (hc : X.calm = true) : CallR X (.builtin "max") rMax2 := call_max2 hc
theorem call_isiA : CallR X (.builtin "isinstance") (rIsi X.K) := call_isi
def rTupleOf (K : PySem.W.Frag) : List V → Hp → VK → Prop := fun xs H Q => ∃ p ys, xs = [.ref p] ∧ ((SqL K H p ys ∧ ∀ l, H l = none → Q (.ref l) (upd H l (.tup ys))) ∨ (SqT K H p ys ∧ Q (.ref p) H))
theorem call_tupleA : CallR X (.type "tuple") (rTupleOf X.K) := call_tuple_of
def rIntC : List V → Hp → VK → Prop := fun xs H Q => (∃ i, xs = [.int i] ∧ Q (.int i) H) ∨ ∃ k, xs = [.bl k] ∧ Q (.int (if k then 1 else 0)) H
theorem call_intA : CallR X (.type "int") rIntC := call_int1
def rListOf (K : PySem.W.Frag) : List V → Hp → VK → Prop := fun xs H Q => ∃ p ys, xs = [.ref p] ∧ (SqL K H p ys ∨ SqT K H p ys) ∧ ∀ l, H l = none → Q (.ref l) (upd H l (.lst ys))
theorem call_listA : CallR X (.type "list") (rListOf X.K) := call_list_of
end
section
variable {X : Cx}
theorem pe_tyN {x : Str} {p : Pos} {n : String} (hg : Gl X x) (hm : X.mg x = none) (hv : bootBuiltins x = some (.type n)) (hn : x ≠ "__name__" := by decide) (hdb : (x == ("__debug__" : Str)) = false := by decide) : PE X (.Name x p) (tC (.ty n)) :=
  pe_bltn (v := .ty n) hg hm hv rfl hn hdb
end
/-! ### frames: all that stood stands, but for what lies at M -/
def Fr (M : List Addr) (H H' : Hp) : Prop := ∀ b o, H b = some o → b ∉ M → H' b = some o
section
variable {M N : List Addr} {H H1 H2 : Hp} {a b p q : Addr} {o u : HO} {K : PySem.W.Frag} {xs : List V}
theorem Fr.refl (M : List Addr) (H : Hp) : Fr M H H := fun _ _ h _ => h
theorem Fr.trans (h1 : Fr M H H1) (h2 : Fr M H1 H2) : Fr M H H2 := fun b o h n => h2 b o (h1 b o h n) n
theorem Fr.wk (h : Fr N H H1) (s : ∀ a, a ∈ N → a ∈ M) : Fr M H H1 := fun b o e n => h b o e fun z => n (s b z)
theorem Fr.nil (h : Fr [] H H1) : Fr M H H1 := h.wk fun _ z => absurd z (by simp)
theorem Fr.of_same (h : Same H H1) : Fr M H H1 := fun b o e _ => h b o e
theorem Fr.same (h : Fr [] H H1) : Same H H1 := fun b o e => h b o e (by simp)
theorem Fr.new (h : Fr M H H1) (e : H1 p = none) : Fr M H (upd H1 p o) := fun b u q n => by
  have z := h b u q n
  rw [upd_ne (ne_of_none z e)]; exact z
theorem Fr.put (h : Fr M H H1) (e : p ∈ M) : Fr M H (upd H1 p o) := fun b u q n => by
  have z := h b u q n
  have c : b ≠ p := by intro c; subst c; exact n e
  rw [upd_ne c]; exact z
/-- a place that was free at H may change -/
theorem Fr.mut (h : Fr M H H1) (e : H p = none) : Fr M H (upd H1 p o) := fun b u q n => by
  rw [upd_ne (ne_of_none q e)]; exact h b u q n
/-- places that were free at H are forgotten -/
theorem Fr.drop (h : Fr (p :: M) H H1) (e : H p = none) : Fr M H H1 := fun b u q n => h b u q (by
  intro z
  rcases List.mem_cons.mp z with z | z
  · exact ne_of_none q e z
  · exact n z)
theorem Fr.free (h : Fr [] H H1) (e : H1 p = none) : H p = none := h.same.free e
theorem Fr.freeM (h : Fr M H H1) (e : H1 p = none) (hp : p ∉ M) : H p = none := by
  cases q : H p with
  | none => rfl
  | some o => rw [h p o q hp] at e; cases e
/-- then places that were free at H change -/
theorem Fr.then (h : Fr M H H1) (g : Fr N H1 H2) (e : ∀ a ∈ N, H a = none) : Fr M H H2 := fun b o q n => g b o (h b o q n) fun z => ne_of_none q (e b z) rfl
theorem Fr.then1 (h : Fr M H H1) (g : Fr [p] H1 H2) (e : H p = none) : Fr M H H2 := h.then g (by simpa using e)
theorem Fr.at (h : Fr M H H1) (e : H p = some o) (hp : p ∉ M := by simp) : H1 p = some o := h p o e hp
theorem Fr.at2 {h c : Addr} (f : Fr [h, c] H H1) (e : H p = some o) (n1 : p ≠ h) (n2 : p ≠ c) : H1 p = some o := f.at e (by simp [n1, n2])
theorem Fr.at1 {h : Addr} (f : Fr [h] H H1) (e : H p = some o) (n1 : p ≠ h) : H1 p = some o := f.at e (by simp [n1])
/-- the changed places are lists, not tuples: tuples stay -/
def Lists (M : List Addr) (H : Hp) : Prop := ∀ a ∈ M, ∃ xs, H a = some (.lst xs)
theorem Fr.tup (h : Fr M H H1) (l : ∀ a ∈ M, ∀ xs o, H a ≠ some (.tup xs) ∧ H a ≠ some (.frz o (.tup xs))) (s : SqT K H a xs) : SqT K H1 a xs := by
  rcases s with (s | ⟨o, s⟩) | s
  · exact .inl (.inl (h _ _ s fun z => (l a z xs (⟨.none, none, .seq #[] 0, #[]⟩)).1 s))
  · exact .inl (.inr ⟨o, h _ _ s fun z => (l a z xs o).2 s⟩)
  · exact .inr s
theorem Fr.tup0 (h : Fr [] H H1) (s : SqT K H a xs) : SqT K H1 a xs := h.tup (fun _ z => absurd z (by simp)) s
theorem Fr.seq0 (h : Fr [] H H1) (s : SqL K H a xs) : SqL K H1 a xs := h.same.seq s
end
/-! ### the built-ins' names are the built-ins' -/
structure Blt (mg : Str → Option Value) : Prop where
  n_abs : mg "abs" = none
  n_len : mg "len" = none
  n_max : mg "max" = none
  n_min : mg "min" = none
  n_list : mg "list" = none
  n_range : mg "range" = none
  n_isinstance : mg "isinstance" = none
  n_tuple : mg "tuple" = none
  n_int : mg "int" = none
  n_bool : mg "bool" = none
  n_str : mg "str" = none
  n_dict : mg "dict" = none
  n_sorted : mg "sorted" = none
  n_set : mg "set" = none
  n_enumerate : mg "enumerate" = none
  n_reversed : mg "reversed" = none
  n_sum : mg "sum" = none
  n_all : mg "all" = none
  n_any : mg "any" = none
/-! ### defs that stand, by their promise -/
structure DefOk (P : Program) (w : World) (K : PySem.W.Frag) (mg : Str → Option Value) (base : Heap) (CX : CXT) (x : Str) (ps : List Str) (k : Nat) (sp : Sp) : Prop where
  ex : ∃ (f : Addr) (fd : FuncData), FnOk P w K mg base CX k f fd ps sp ∧ PySem.W.keepIn K (.ref f) = true ∧ Binds K fd ps [] ∧ mg x = some (.ref f)
section
variable {X : Cx} {CX : CXT} {k : Nat} {ps : List Str} {sp : Sp} {E : XK} {x : Str} {p pos : Pos} {e : Expr} {es : List Expr} {t : TA}
theorem pe_callD (F : DefOk X.prog X.w X.K X.mg X.base CX x ps k sp) (hr : Room k X.A) (hx : Passes CX X E) (ha : PA X (e :: es) t) (hg : Gl X x := by rfl) (hdb : (x == ("__debug__" : Str)) = false := by decide)
    (he : starEach (e :: es) X.env = (false, eval e X.env) :: starEach es X.env := by rfl) (hpl : (backTo pos (starEach es X.env)).any (·.1) = false := by rfl) : PE X (.Call (.Name x p) (e :: es) [] pos) (tCall sp [] E t) := by
  obtain ⟨f, fd, F, hk, hb, hm⟩ := F.ex
  exact pe_call F hr hg hm hk hb .nil hx ha hdb he hpl
theorem pe_callD0 (F : DefOk X.prog X.w X.K X.mg X.base CX x ps k sp) (hr : Room k X.A) (hx : Passes CX X E) (hg : Gl X x := by rfl) (hdb : (x == ("__debug__" : Str)) = false := by decide) : PE X (.Call (.Name x p) [] [] pos) (tCall sp [] E tNil) := by
  obtain ⟨f, fd, F, hk, hb, hm⟩ := F.ex
  exact pe_call0 F hr hg hm hk hb .nil hx hdb
end
/-- the def st stands at the name x -/
structure Here (K : PySem.W.Frag) (mg : Str → Option Value) (x : Str) (st : Stmt) (ps : List Str) : Prop where
  ex : ∃ (f : Addr) (fd : FuncData), Fun K x x st f fd ∧ mg x = some (.ref f) ∧ Binds K fd ps []
section
variable {P : Program} {w : World} {K : PySem.W.Frag} {mg : Str → Option Value} {base : Heap}
theorem Here.ok {x : Str} {st : Stmt} {N ps : List Str} {k : Nat} {sp : Sp} (F : Here K mg x st ps) (S : FnScope N ps (defScope st)) (len : ∀ vs H Q E, sp vs H Q E → vs.length = ps.length)
    (hbody : ∀ (f : Addr) (cdv : Value) (A : Around) (outer : List Env) (s : Shared) (H : Hp) (vs : List V) (Q : VK) (E : XK), Room k (A.deeper (envOfC x (defScope st) s.heap.objs.size f cdv)) → sp vs H Q E →
      ∃ t, PSs (cxOf CX0 P w K mg base N x (defScope st) f cdv A outer s H E).nox (defBody st) t ∧ t { nx := fun _ H' => Q .non H', rt := Q } (start N vs) H) : DefOk P w K mg base CX0 x ps (k + 1) sp := by
  obtain ⟨f, fd, F, hm, hb⟩ := F.ex
  exact ⟨f, fd, F.ok S len (hbody f), F.kp, hb, hm⟩
theorem DefOk.mono {CX : CXT} {x : Str} {ps : List Str} {j k : Nat} {sp : Sp} (F : DefOk P w K mg base CX x ps j sp) (h : j ≤ k) : DefOk P w K mg base CX x ps k sp := by
  obtain ⟨f, fd, F, r⟩ := F.ex
  exact ⟨f, fd, F.mono h, r⟩
theorem DefOk.imp {CX : CXT} {x : Str} {ps : List Str} {k : Nat} {sp sp' : Sp} (F : DefOk P w K mg base CX x ps k sp) (h : ∀ vs H Q E, sp' vs H Q E → sp vs H Q E) : DefOk P w K mg base CX x ps k sp' := by
  obtain ⟨f, fd, F, r⟩ := F.ex
  exact ⟨f, fd, F.imp h, r⟩
theorem here_mk {h : Heap} {x : Str} {st : Stmt} {ps : List Str} {f : Addr} {oc : Value} {od an : Option Addr} {osl : Array (Option Value)} {kV doc pm cdv ct : Value} (X : K.In h) (G : h.Ns mainGlobals mg)
    (a : PySem.W.nsIn K mainGlobals x = some (some (.ref f)))
    (l : K.lookup f = some ⟨oc, od, .func (PySem.W.fnOf x x (defArgs st) (defBody st) (defScope st) .none kV doc pm an cdv ct), osl⟩)
    (c : PySem.W.codeIn K cdv x = true) (k : PySem.W.keepIn K (.ref f) = true)
    (hb : ∀ (us : List Value), us.length = ps.length → bindArgs (PySem.W.fnOf x x (defArgs st) (defBody st) (defScope st) .none kV doc pm an cdv ct) ⟨us, []⟩ = pure (ps.zip us)) : Here K mg x st ps :=
  ⟨f, _, fun_mk (st := st) l c k, PySem.W.mg_of X G a, Binds.all hb⟩
end
/-! ### deep data that never changes -/
inductive D where
  | non | bl (b : Bool) | int (i : Int) | str (x : Str) | tup (ds : List D)
mutual
def Rp (K : PySem.W.Frag) (H : Hp) : D → V → Prop
  | .non, v => v = .non
  | .bl b, v => v = .bl b
  | .int i, v => v = .int i
  | .str x, v => v = .str x
  | .tup ds, v => ∃ a vs, v = .ref a ∧ SqT K H a vs ∧ RpL K H ds vs
def RpL (K : PySem.W.Frag) (H : Hp) : List D → List V → Prop
  | [], vs => vs = []
  | d :: ds, vs => ∃ v r, vs = v :: r ∧ Rp K H d v ∧ RpL K H ds r
end
/-- tuples stay -/
def Kp (H H' : Hp) : Prop := ∀ a xs, Rd H a (.tup xs) → Rd H' a (.tup xs)
section
variable {M : List Addr} {H H1 H2 : Hp} {a p q : Addr} {K : PySem.W.Frag} {xs : List V} {o : HO}
theorem Kp.refl (H : Hp) : Kp H H := fun _ _ h => h
theorem Kp.trans (h : Kp H H1) (g : Kp H1 H2) : Kp H H2 := fun a xs s => g a xs (h a xs s)
theorem Kp.sq (h : Kp H H1) (s : SqT K H a xs) : SqT K H1 a xs := by
  rcases s with s | s
  · exact .inl (h _ _ s)
  · exact .inr s
theorem Fr.kp0 (h : Fr [] H H1) : Kp H H1 := fun _ _ s => by
  rcases s with s | ⟨o, s⟩
  · exact .inl (h.at s)
  · exact .inr ⟨o, h.at s⟩
theorem Fr.kpL (h : Fr [p] H H1) (e : H p = some (.lst xs)) : Kp H H1 := fun a ys s => by
  rcases s with s | ⟨o, s⟩
  · exact .inl (h.at s (by simp; rintro rfl; rw [e] at s; cases s))
  · exact .inr ⟨o, h.at s (by simp; rintro rfl; rw [e] at s; cases s)⟩
theorem Fr.kpL2 {ys : List V} (h : Fr [p, q] H H1) (e : H p = some (.lst xs)) (e2 : H q = some (.lst ys)) : Kp H H1 := fun a ys s => by
  rcases s with s | ⟨o, s⟩
  · exact .inl (h.at s (by simp; constructor <;> (rintro rfl; simp_all)))
  · exact .inr ⟨o, h.at s (by simp; constructor <;> (rintro rfl; simp_all))⟩
theorem Same.kp (h : Same H H1) : Kp H H1 := (Fr.of_same (M := []) h).kp0
mutual
theorem Rp.mono (k : Kp H H1) : ∀ {d : D} {v : V}, Rp K H d v → Rp K H1 d v
  | .non, _, h => h
  | .bl _, _, h => h
  | .int _, _, h => h
  | .str _, _, h => h
  | .tup _, _, ⟨a, vs, e, s, r⟩ => ⟨a, vs, e, k.sq s, RpL.mono k r⟩
theorem RpL.mono (k : Kp H H1) : ∀ {ds : List D} {vs : List V}, RpL K H ds vs → RpL K H1 ds vs
  | [], _, h => h
  | _ :: _, _, ⟨v, r, e, h, t⟩ => ⟨v, r, e, Rp.mono k h, RpL.mono k t⟩
end
theorem RpL.length : ∀ {ds : List D} {vs : List V}, RpL K H ds vs → vs.length = ds.length
  | [], _, h => by cases h; rfl
  | _ :: _, _, ⟨_, r, e, _, t⟩ => by cases e; simp [RpL.length t]
end
end Lf
namespace Lf
open PySem PySem.Spec PyProof.Rows L2
/-! ### readings, step by step: each rule keeps what follows as one function -/
section
variable {K : PySem.W.Frag} {σ : L2.St} {H H1 : Hp} {Q : VK} {R : Bool → Hp → Prop} {S : L2.St → Hp → Prop} {L : List V → Hp → Prop} {ta tb tc te : TE} {tt tu : TT} {v x y : V} {a b p : Addr} {D : Ends} {xs ys : List V} {t u : TS} {i j : Int} {tr : TA}
def IsB (x : V) (H : Hp) (R : Bool → Hp → Prop) : Prop := ∃ k, x = .bl k ∧ R k H
def AndB (x : V) (te : TE) (σ : L2.St) (H : Hp) (Q : VK) : Prop := ∃ c, x = .bl c ∧ if c = true then te σ H Q else Q (.bl false) H
def OrB (x : V) (te : TE) (σ : L2.St) (H : Hp) (Q : VK) : Prop := ∃ c, x = .bl c ∧ if c = true then Q (.bl true) H else te σ H Q
def NotB (x : V) (H : Hp) (Q : VK) : Prop := ∃ c, x = .bl c ∧ Q (.bl (!c)) H
def NewT (xs : List V) (H : Hp) (Q : VK) : Prop := xs.length ≤ sizeLine ∧ ∀ p, H p = none → Q (.ref p) (upd H p (.tup xs))
def NewL (xs : List V) (H : Hp) (Q : VK) : Prop := xs.length ≤ sizeLine ∧ ∀ p, H p = none → Q (.ref p) (upd H p (.lst xs))
def Two (k l : Nat) (vs : List V) (σ : L2.St) (H : Hp) (S : L2.St → Hp → Prop) : Prop := ∃ v w, vs = [v, w] ∧ S ((σ.set k (some v)).set l (some w)) H
theorem rd_var {k : Nat} (h : σ[k]? = some (some v)) (q : Q v H) : tVar k σ H Q := ⟨v, h, q⟩
theorem rd_c (q : Q v H) : tC v σ H Q := q
theorem rd_op {r : R2} (q : ta σ H fun x H1 => tb σ H1 fun y H2 => r x y H2 Q) : tOp r ta tb σ H Q := q
theorem rd_un {r : V → Hp → VK → Prop} (q : ta σ H fun x H1 => r x H1 Q) : tUn r ta σ H Q := q
theorem rd_test (q : te σ H fun x H' => IsB x H' R) : tTest te σ H R := q
theorem rd_b (q : te σ H fun x H' => IsB x H' R) : tB te σ H R := q
theorem rd_isb {c : Bool} (q : R c H) : IsB (.bl c) H R := ⟨c, rfl, q⟩
theorem rd_and (q : tt σ H fun c H1 => if c = true then tu σ H1 R else R false H1) : tAnd tt tu σ H R := q
theorem rd_or (q : tt σ H fun c H1 => if c = true then R true H1 else tu σ H1 R) : tOr tt tu σ H R := q
theorem rd_not (q : tt σ H fun c H1 => R (!c) H1) : tNot tt σ H R := q
theorem rd_andV (q : ta σ H fun x H1 => AndB x tb σ H1 Q) : tAndV ta tb σ H Q := q
theorem rd_orV (q : ta σ H fun x H1 => OrB x tb σ H1 Q) : tOrV ta tb σ H Q := q
theorem rd_andb {c : Bool} (q : if c = true then te σ H Q else Q (.bl false) H) : AndB (.bl c) te σ H Q := ⟨c, rfl, q⟩
theorem rd_orb {c : Bool} (q : if c = true then Q (.bl true) H else te σ H Q) : OrB (.bl c) te σ H Q := ⟨c, rfl, q⟩
theorem rd_notV (q : ta σ H fun x H1 => NotB x H1 Q) : tNotV ta σ H Q := q
theorem rd_notb {c : Bool} (q : Q (.bl (!c)) H) : NotB (.bl c) H Q := ⟨c, rfl, q⟩
theorem rd_ife (q : tt σ H fun c H1 => if c = true then ta σ H1 Q else tb σ H1 Q) : tIf tt ta tb σ H Q := q
theorem rd_seq (q : t { D with nx := u D } σ H) : tSeq t u D σ H := q
theorem rd_seqc (h : ∀ N : L2.St → Hp → Prop, (∀ σ H, u D σ H → N σ H) → t { D with nx := N } σ H) : tSeq t u D σ H := h (u D) fun _ _ x => x
theorem rd_drop (q : te σ H fun _ H1 => D.nx σ H1) : tDrop te D σ H := q
theorem rd_ret (q : te σ H D.rt) : tRet te D σ H := q
theorem rd_retN (q : D.rt .non H) : tRetN D σ H := q
theorem rd_next (q : D.nx σ H) : tNext D σ H := q
theorem rd_break (q : D.bk σ H) : tBreak D σ H := q
theorem rd_cont (q : D.ct σ H) : tCont D σ H := q
theorem rd_if (q : tt σ H fun b H1 => if b = true then t D σ H1 else u D σ H1) : tIfS tt t u D σ H := q
theorem rd_asg {g : TG} (q : te σ H fun x H1 => g x σ H1 D.nx) : tAsg te g D σ H := q
theorem rd_gname {k : Nat} (q : S (σ.set k (some v)) H) : gName k v σ H S := q
theorem rd_gtup {n : Nat} {g : TGs} (h : SqT K H a xs) (hl : xs.length = n) (q : g xs σ H S) : gTup K n g (.ref a) σ H S := ⟨a, xs, rfl, h, hl, q⟩
theorem rd_gnil (q : S σ H) : gNil [] σ H S := ⟨rfl, q⟩
theorem rd_gcons {g : TG} {gs : TGs} (q : g v σ H fun σ' H' => gs xs σ' H' S) : gCons g gs (v :: xs) σ H S := ⟨v, xs, rfl, q⟩
theorem rd_gsub {to ti : TE} {ts : TSet} (q : to σ H fun o H1 => ti σ H1 fun i H2 => ts o i v H2 fun H3 => S σ H3) : gSub to ti ts v σ H S := q
theorem rd_par {k l : Nat} (q : tr σ H fun vs H1 => Two k l vs σ H1 D.nx) : tPar k l tr D σ H := q
theorem rd_two {k l : Nat} (q : S ((σ.set k (some x)).set l (some y)) H) : Two k l [x, y] σ H S := ⟨x, y, rfl, q⟩
theorem rd_nil (q : L [] H) : tNil σ H L := q
theorem rd_cons (q : ta σ H fun x H1 => tr σ H1 fun xs H2 => L (x :: xs) H2) : tCons ta tr σ H L := q
theorem rd_cb {r : List V → Hp → VK → Prop} (q : tr σ H fun vs H1 => r vs H1 Q) : tCB r tr σ H Q := q
theorem rd_call {sp : Sp} {E : XK} (q : tr σ H fun vs H1 => sp (vs ++ []) H1 Q E) : tCall sp [] E tr σ H Q := q
theorem rd_tup (q : tr σ H fun xs H1 => NewT xs H1 Q) : tTup tr σ H Q := q
theorem rd_lst (q : tr σ H fun xs H1 => NewL xs H1 Q) : tLst tr σ H Q := q
theorem rd_newT (hl : xs.length ≤ 1000) (q : ∀ p H2, H p = none → Fr [] H H2 → H2 p = some (.tup xs) → Q (.ref p) H2) : NewT xs H Q :=
  ⟨Nat.le_of_lt (small1000 hl), fun p hp => q p _ hp ((Fr.refl [] H).new hp) upd_same⟩
theorem rd_newL (hl : xs.length ≤ 1000) (q : ∀ p H2, H p = none → Fr [] H H2 → H2 p = some (.lst xs) → Q (.ref p) H2) : NewL xs H Q :=
  ⟨Nat.le_of_lt (small1000 hl), fun p hp => q p _ hp ((Fr.refl [] H).new hp) upd_same⟩
/-! operators by values -/
theorem rd_I0 {g : Int → Int → V} (q : Q (g i j) H) : rI0 g (.int i) (.int j) H Q := ⟨i, j, rfl, rfl, q⟩
theorem rd_I {C : Int → Int → Prop} {g : Int → Int → V} (c : C i j) (q : Q (g i j) H) : rI C g (.int i) (.int j) H Q := ⟨i, j, rfl, rfl, c, q⟩
theorem rd_plusI (q : Q (.int (i + j)) H) : rPlus K (.int i) (.int j) H Q := .inl ⟨i, j, rfl, rfl, q⟩
theorem rd_plusS {s z : Str} (h : s.length + z.length ≤ sizeLine) (q : Q (.str (s ++ z)) H) : rPlus K (.str s) (.str z) H Q := .inr (.inl ⟨s, z, rfl, rfl, h, q⟩)
theorem rd_plusL (ha : H a = some (.lst xs)) (hb : H b = some (.lst ys)) (h : xs.length + ys.length ≤ sizeLine) (q : ∀ p H2, H p = none → Fr [] H H2 → H2 p = some (.lst (xs ++ ys)) → Q (.ref p) H2) : rPlus K (.ref a) (.ref b) H Q :=
  .inr (.inr (.inl ⟨a, b, xs, ys, rfl, rfl, ha, hb, h, fun p hp => q p _ hp ((Fr.refl [] H).new hp) upd_same⟩))
theorem rd_plusT (ha : SqT K H a xs) (hb : SqT K H b ys) (h : xs.length + ys.length ≤ sizeLine) (q : ∀ p H2, Fr [] H H2 → SqT K H2 p (xs ++ ys) → Q (.ref p) H2) : rPlus K (.ref a) (.ref b) H Q :=
  .inr (.inr (.inr ⟨a, b, xs, ys, rfl, rfl, ha, hb, h, fun e => q b H (Fr.refl _ _) (by subst e; exact hb), fun _ e => q a H (Fr.refl _ _) (by subst e; rw [List.append_nil]; exact ha), fun _ _ p hp => q p _ ((Fr.refl [] H).new hp) (SqT.of upd_same)⟩))
theorem rd_mulL (h : -(2 ^ 64) < i ∧ i < 2 ^ 64) (q : Q (.int (i * j)) H) : rTimes K (.int i) (.int j) H Q := .inl ⟨i, j, rfl, rfl, .inl h, q⟩
theorem rd_mulR (h : -(2 ^ 64) < j ∧ j < 2 ^ 64) (q : Q (.int (i * j)) H) : rTimes K (.int i) (.int j) H Q := .inl ⟨i, j, rfl, rfl, .inr h, q⟩
theorem rd_mulW (m n : Nat) (hi : i.natAbs < 2 ^ m) (hj : j.natAbs < 2 ^ n) (h : m + n ≤ 900000) (q : Q (.int (i * j)) H) : rTimes K (.int i) (.int j) H Q :=
  .inr (.inl ⟨i, j, rfl, rfl, wide_mul (a := m + 1) (b := n + 1) (Nat.lt_of_lt_of_le hi (Nat.pow_le_pow_right (by decide) (Nat.le_succ _))) (Nat.lt_of_lt_of_le hj (Nat.pow_le_pow_right (by decide) (Nat.le_succ _))) (Nat.succ_pos _) (Nat.succ_pos _) (by omega), q⟩)
theorem rd_eqS (h : scal x y = true) (q : Q (.bl (decide (x = y))) H) : rEqA K x y H Q := .inl ⟨h, q⟩
theorem rd_neS (h : scal x y = true) (q : Q (.bl (!decide (x = y))) H) : rNeA K x y H Q := .inl ⟨h, q⟩
theorem rd_eqD {d e : PyData} (h1 : Dp K H x d) (h2 : Dp K H y e) (s1 : SeqAt.shaped d = true) (s2 : SeqAt.shaped e = true) (q : Q (.bl (PyData.eqv d e)) H) : rEqA K x y H Q := .inr ⟨d, e, h1, h2, s1, s2, q⟩
theorem rd_neD {d e : PyData} (h1 : Dp K H x d) (h2 : Dp K H y e) (s1 : SeqAt.shaped d = true) (s2 : SeqAt.shaped e = true) (q : Q (.bl (!PyData.eqv d e)) H) : rNeA K x y H Q := .inr ⟨d, e, h1, h2, s1, s2, q⟩
theorem rd_ixT (h : SqT K H p xs) (ha : atI xs i = some v) (q : Q v H) : rIx K (.ref p) (.int i) H Q := .inr (.inl ⟨p, xs, i, v, rfl, rfl, h, ha, q⟩)
theorem rd_ixK {H0 : Hp} (h : SqT K H0 p xs) (k : Kp H0 H) (ha : atI xs i = some v) (q : Q v H) : rIx K (.ref p) (.int i) H Q := rd_ixT (k.sq h) ha q
theorem rd_lenK {H0 : Hp} (h : SqT K H0 p xs) (k : Kp H0 H) (q : Q (.int xs.length) H) : rLenA K [.ref p] H Q := ⟨_, _, rfl, .inr ⟨xs, k.sq h, rfl⟩, q⟩
theorem rd_gtupK {H0 : Hp} {n : Nat} {g : TGs} (h : SqT K H0 a xs) (k : Kp H0 H) (hl : xs.length = n) (q : g xs σ H S) : gTup K n g (.ref a) σ H S := rd_gtup (k.sq h) hl q
theorem rd_ixL (h : SqL K H p xs) (ha : atI xs i = some v) (q : Q v H) : rIx K (.ref p) (.int i) H Q := .inl ⟨p, xs, i, v, rfl, rfl, h, ha, q⟩
theorem rd_ixH (h : H p = some (.lst xs)) (ha : atI xs i = some v) (q : Q v H) : rIx K (.ref p) (.int i) H Q := .inl ⟨p, xs, i, v, rfl, rfl, SqL.of h, ha, q⟩
theorem rd_ixS {z : Str} {c : Nat} (h : z.length ≤ 1000) (ha : atI z.cps.toList i = some c) (q : Q (.str ⟨#[c]⟩) H) : rIx K (.str z) (.int i) H Q := .inr (.inr ⟨z, i, c, rfl, rfl, Nat.le_of_lt (small1000 h), ha, q⟩)
theorem rd_lenL (h : SqL K H p xs) (q : Q (.int xs.length) H) : rLenA K [.ref p] H Q := ⟨_, _, rfl, .inl ⟨xs, h, rfl⟩, q⟩
theorem rd_lenH (h : H p = some (.lst xs)) (q : Q (.int xs.length) H) : rLenA K [.ref p] H Q := ⟨_, _, rfl, .inl ⟨xs, SqL.of h, rfl⟩, q⟩
theorem rd_lenT (h : SqT K H p xs) (q : Q (.int xs.length) H) : rLenA K [.ref p] H Q := ⟨_, _, rfl, .inr ⟨xs, h, rfl⟩, q⟩
theorem rd_lenS {z : Str} (h : z.length ≤ sizeLine) (q : Q (.int z.length) H) : rLenA K [.str z] H Q := ⟨_, _, rfl, ⟨h, rfl⟩, q⟩
theorem rd_setL {k : Int} {n : Nat} {T : Hp → Prop} (h : H p = some (.lst xs)) (hn : ixN xs.length k = some n) (q : ∀ H2, Fr [p] H H2 → Kp H H2 → H2 p = some (.lst (xs.set n v)) → T H2) : rSetL (.ref p) (.int k) v H T :=
  ⟨p, xs, k, n, rfl, rfl, h, hn, q _ ((Fr.refl [p] H).put (by simp)) (((Fr.refl [p] H).put (by simp)).kpL h) upd_same⟩
theorem rd_list (h : SqL K H p xs) (q : ∀ l H2, H l = none → Fr [] H H2 → H2 l = some (.lst xs) → Q (.ref l) H2) : rListOf K [.ref p] H Q := ⟨p, xs, rfl, .inl h, fun l hl => q l _ hl ((Fr.refl [] H).new hl) upd_same⟩
theorem rd_listT (h : SqT K H p xs) (q : ∀ l H2, H l = none → Fr [] H H2 → H2 l = some (.lst xs) → Q (.ref l) H2) : rListOf K [.ref p] H Q := ⟨p, xs, rfl, .inr h, fun l hl => q l _ hl ((Fr.refl [] H).new hl) upd_same⟩
theorem rd_bm {T : String} {r : V → List V → Hp → VK → Prop} {to : TE} (q : to σ H fun x H1 => tyV K T x H1 ∧ tr σ H1 fun xs H2 => r x xs H2 Q) : tBM K T r to tr σ H Q := q
theorem rd_tyL {G : Prop} (h : H a = some (.lst xs)) (q : G) : tyV K "list" (.ref a) H ∧ G := ⟨Or.inl ⟨rfl, _, SqL.of h⟩, q⟩
theorem rd_app (h : H a = some (.lst xs)) (hl : xs.length ≤ 1000) (q : ∀ H2, Fr [a] H H2 → Kp H H2 → H2 a = some (.lst (xs ++ [v])) → Q .non H2) : rAppend (.ref a) [v] H Q :=
  ⟨a, xs, v, rfl, rfl, h, small1000 hl, q _ ((Fr.refl [a] H).put (by simp)) (((Fr.refl [a] H).put (by simp)).kpL h) upd_same⟩
theorem rd_abs (q : Q (.int (if i < 0 then -i else i)) H) : rAbs [.int i] H Q := ⟨i, rfl, q⟩
theorem rd_neg {g : Int → V} (q : Q (g i) H) : rU g (.int i) H Q := ⟨i, rfl, q⟩
theorem rd_max2 (q : Q (.int (if j > i then j else i)) H) : rMax2 [.int i, .int j] H Q := ⟨i, j, rfl, q⟩
theorem rd_tupL (h : SqL K H p xs) (q : ∀ l H2, H l = none → Fr [] H H2 → H2 l = some (.tup xs) → Q (.ref l) H2) : rTupleOf K [.ref p] H Q := ⟨p, xs, rfl, .inl ⟨h, fun l hl => q l _ hl ((Fr.refl [] H).new hl) upd_same⟩⟩
theorem rd_tupT (h : SqT K H p xs) (q : Q (.ref p) H) : rTupleOf K [.ref p] H Q := ⟨p, xs, rfl, .inr ⟨h, q⟩⟩
theorem rd_inT (h : SqT K H p xs) (hx : flatV x = true) (ha : xs.all flatV = true) (q : Q (.bl (inV x xs)) H) : rIn K false x (.ref p) H Q := ⟨p, xs, rfl, .inr h, hx, ha, q⟩
theorem rd_inL (h : SqL K H p xs) (hx : flatV x = true) (ha : xs.all flatV = true) (q : Q (.bl (inV x xs)) H) : rIn K false x (.ref p) H Q := ⟨p, xs, rfl, .inl h, hx, ha, q⟩
theorem rd_isi {n m : String} {k : Bool} (h : TyX K H x (.type n)) (hk : kitB n m = some k) (q : Q (.bl k) H) : rIsi K [x, .ty m] H Q := ⟨x, .ty m, _, _, k, rfl, .ty m, h, kit_ty hk, q⟩
theorem ty_list (h : SqL K H a xs) : TyX K H (.ref a) (.type "list") := by
  rcases h with (h | ⟨o, h⟩) | ⟨o, its, n, h, hc, _⟩
  · exact .base (.lst h)
  · exact .base (.frz h)
  · exact .kList h hc
theorem ty_tup (h : SqT K H a xs) : TyX K H (.ref a) (.type "tuple") := by
  rcases h with (h | ⟨o, h⟩) | ⟨o, its, n, h, hc, _⟩
  · exact .base (.tup h)
  · exact .fTuple h
  · exact .kTuple h hc
theorem ifT {b : Bool} {A B : Prop} (h : b = true) (q : A) : if b = true then A else B := by rw [if_pos h]; exact q
theorem ifF {b : Bool} {A B : Prop} (h : b = false) (q : B) : if b = true then A else B := by rw [if_neg (by rw [h]; decide)]; exact q
theorem rd_for {wi : TI} {g : TG} {tb : TS} (q : wi σ H fun J H1 => ∃ W : Nat → Nat → L2.St → Hp → Prop, (∃ m, W 0 m σ H1) ∧ ∀ i m σ H, W i m σ H →
    (J.stop i H ∧ D.nx σ H) ∨ (J.go i H ∧ ∃ N : L2.St → Hp → Prop, (∀ σ' H', N σ' H' → ∃ m', m' < m ∧ W (i + 1) m' σ' H') ∧ ∀ x H', J.yld i H x H' → g x σ H' fun σ2 H2 => tb { D with nx := N, ct := N, bk := D.nx } σ2 H2)) : tFor wi g tb D σ H := q
theorem rd_intI (q : Q (.int i) H) : rIntC [.int i] H Q := .inl ⟨i, rfl, q⟩
theorem rd_intB {k : Bool} (q : Q (.int (if k then 1 else 0)) H) : rIntC [.bl k] H Q := .inr ⟨k, rfl, q⟩
theorem rd_gunl {n : Nat} {g : TGs} (h : SqL K H a xs) (hl : xs.length = n) (q : g xs σ H S) : gUnl K n g (.ref a) σ H S := ⟨a, xs, rfl, h, hl, q⟩
/-! what a for walks, what a comprehension walks -/
def Rng1 (vs : List V) (H : Hp) (W : It → Hp → Prop) : Prop := ∃ j : Int, vs = [.int j] ∧ -(2 ^ 62) ≤ j ∧ j < 2 ^ 62 ∧ W (Itr 0 j.toNat) H
def Rng2 (vs : List V) (H : Hp) (W : It → Hp → Prop) : Prop := ∃ i j : Int, vs = [.int i, .int j] ∧ (-(2 ^ 62) ≤ i ∧ i < 2 ^ 62 ∧ -(2 ^ 62) ≤ j ∧ j < 2 ^ 62) ∧ W (Itr i (j - i).toNat) H
def IsLi (K : PySem.W.Frag) (x : V) (H : Hp) (W : It → Hp → Prop) : Prop := ∃ a, x = .ref a ∧ (∃ xs, SqL K H a xs) ∧ W (Itl K a) H
def IsTu (K : PySem.W.Frag) (x : V) (H : Hp) (W : It → Hp → Prop) : Prop := ∃ a, x = .ref a ∧ (∃ xs, SqT K H a xs) ∧ W (Itt K a) H
theorem rd_irng1 {W : It → Hp → Prop} (q : tr σ H fun vs H1 => Rng1 vs H1 W) : iRng1 tr σ H W := q
theorem rd_irng2 {W : It → Hp → Prop} (q : tr σ H fun vs H1 => Rng2 vs H1 W) : iRng2 tr σ H W := q
theorem rd_rng1 {W : It → Hp → Prop} (h : -(2 ^ 62) ≤ j ∧ j < 2 ^ 62) (q : W (Itr 0 j.toNat) H) : Rng1 [.int j] H W := ⟨j, rfl, h.1, h.2, q⟩
theorem rd_rng2 {W : It → Hp → Prop} (h : -(2 ^ 62) ≤ i ∧ i < 2 ^ 62 ∧ -(2 ^ 62) ≤ j ∧ j < 2 ^ 62) (q : W (Itr i (j - i).toNat) H) : Rng2 [.int i, .int j] H W := ⟨i, j, rfl, h, q⟩
theorem rd_ilist {W : It → Hp → Prop} (q : te σ H fun x H1 => IsLi K x H1 W) : iList K te σ H W := q
theorem rd_ituple {W : It → Hp → Prop} (q : te σ H fun x H1 => IsTu K x H1 W) : iTup K te σ H W := q
theorem rd_isli {W : It → Hp → Prop} (h : SqL K H a xs) (q : W (Itl K a) H) : IsLi K (.ref a) H W := ⟨a, rfl, ⟨xs, h⟩, q⟩
theorem rd_istu {W : It → Hp → Prop} (h : SqT K H a xs) (q : W (Itt K a) H) : IsTu K (.ref a) H W := ⟨a, rfl, ⟨xs, h⟩, q⟩
theorem rd_istuK {H0 : Hp} {W : It → Hp → Prop} (h : SqT K H0 a xs) (k : Kp H0 H) (q : W (Itt K a) H) : IsTu K (.ref a) H W := rd_istu (k.sq h) q
/-- the loop over J, W being still to be found -/
def ForT (J : It) (g : TG) (tb : TS) (D : Ends) (σ : L2.St) (H : Hp) : Prop := ∃ W : Nat → Nat → L2.St → Hp → Prop, (∃ m, W 0 m σ H) ∧ ∀ i m σ H, W i m σ H →
    (J.stop i H ∧ D.nx σ H) ∨ (J.go i H ∧ ∃ N : L2.St → Hp → Prop, (∀ σ' H', N σ' H' → ∃ m', m' < m ∧ W (i + 1) m' σ' H') ∧ ∀ x H', J.yld i H x H' → g x σ H' fun σ2 H2 => tb { D with nx := N, ct := N, bk := D.nx } σ2 H2)
theorem rd_fort {wi : TI} {g : TG} {tb : TS} (q : wi σ H fun J H1 => ForT J g tb D σ H1) : tFor wi g tb D σ H := q
theorem rd_forR {n : Nat} {g : TG} {tb : TS} (Pv : Nat → L2.St → Hp → Prop) (h0 : Pv 0 σ H)
    (hs : ∀ k σ H, k < n → Pv k σ H → g (.int (i + k)) σ H fun σ2 H2 => tb { D with nx := Pv (k + 1), ct := Pv (k + 1), bk := D.nx } σ2 H2) (hd : ∀ σ H, Pv n σ H → D.nx σ H) : ForT (Itr i n) g tb D σ H := for_range Pv h0 hs hd
theorem rd_forL {g : TG} {tb : TS} (xs : List V) (Pv : Nat → L2.St → Hp → Prop) (h0 : Pv 0 σ H) (hl : ∀ k σ H, k ≤ xs.length → Pv k σ H → SqL K H a xs)
    (hs : ∀ k x σ H, xs[k]? = some x → Pv k σ H → g x σ H fun σ2 H2 => tb { D with nx := Pv (k + 1), ct := Pv (k + 1), bk := D.nx } σ2 H2) (hd : ∀ σ H, Pv xs.length σ H → D.nx σ H) : ForT (Itl K a) g tb D σ H := for_list Pv h0 hl hs hd
theorem rd_forT {g : TG} {tb : TS} (xs : List V) (Pv : Nat → L2.St → Hp → Prop) (h0 : Pv 0 σ H) (hl : ∀ k σ H, k ≤ xs.length → Pv k σ H → SqT K H a xs)
    (hs : ∀ k x σ H, xs[k]? = some x → Pv k σ H → g x σ H fun σ2 H2 => tb { D with nx := Pv (k + 1), ct := Pv (k + 1), bk := D.nx } σ2 H2) (hd : ∀ σ H, Pv xs.length σ H → D.nx σ H) : ForT (Itt K a) g tb D σ H := for_tup Pv h0 hl hs hd
def LcEnd (D : Addr) (P : Hp → Prop) (y : V) (H4 : Hp) : Prop := ∃ acc, H4 D = some (.lst acc) ∧ acc.length < sizeLine ∧ P (upd H4 D (.lst (acc ++ [y])))
def LcIn (tt : TT) (te : TE) (vs : List Nat) (σ : L2.St) (D : Addr) (P : Hp → Prop) (σ2 : L2.St) (H2 : Hp) : Prop := wipe σ2 vs = wipe σ vs ∧ tt σ2 H2 fun b H3 => if b = true then te σ2 H3 fun y H4 => LcEnd D P y H4 else P H3
def LcT (J : It) (g : TG) (tt : TT) (te : TE) (vs : List Nat) (σ : L2.St) (H1 : Hp) (Q : VK) : Prop := ∀ D, H1 D = none → ∃ W : Nat → Nat → Hp → Prop, (∃ m, W 0 m (upd H1 D (.lst []))) ∧ ∀ i m H, W i m H →
  (J.stop i H ∧ Q (.ref D) H) ∨ (J.go i H ∧ ∃ Nx : Hp → Prop, (∀ H', Nx H' → ∃ m', m' < m ∧ W (i + 1) m' H') ∧ ∀ x H', J.yld i H x H' → g x (wipe σ vs) H' fun σ2 H2 => LcIn tt te vs σ D Nx σ2 H2)
theorem rd_lc {wi : TI} {g : TG} {vs : List Nat} (q : wi σ H fun J H1 => LcT J g tt te vs σ H1 Q) : tLc wi g tt te vs σ H Q := q
/-- a word over what is made so far -/
abbrev LcP (D : Addr) (Pv : Nat → List V → Hp → Prop) (i : Nat) : Hp → Prop := fun H => ∃ acc, H D = some (.lst acc) ∧ Pv i acc H
theorem rd_lcR {n : Nat} {g : TG} {vs : List Nat} (q : ∀ D H1, H D = none → Fr [] H H1 → H1 D = some (.lst []) → ∃ Pv : Nat → List V → Hp → Prop, Pv 0 [] H1 ∧
    (∀ k acc H', k < n → H' D = some (.lst acc) → Pv k acc H' → g (.int (i + k)) (wipe σ vs) H' fun σ2 H2 => LcIn tt te vs σ D (LcP D Pv (k + 1)) σ2 H2) ∧ ∀ acc H', H' D = some (.lst acc) → Pv n acc H' → Q (.ref D) H') : LcT (Itr i n) g tt te vs σ H Q := fun D hD => by
  obtain ⟨Pv, h0, hs, hd⟩ := q D (upd H D (.lst [])) hD ((Fr.refl [] H).new hD) upd_same
  exact lc_range (LcP D Pv) ⟨[], upd_same, h0⟩ (fun k H' hk ⟨acc, e, p⟩ => hs k acc H' hk e p) fun H' ⟨acc, e, p⟩ => hd acc H' e p
theorem rd_lcL {g : TG} {vs : List Nat} (xs : List V) (q : ∀ D H1, H D = none → Fr [] H H1 → H1 D = some (.lst []) → ∃ Pv : Nat → List V → Hp → Prop, Pv 0 [] H1 ∧ (∀ k acc H', k ≤ xs.length → Pv k acc H' → SqL K H' a xs) ∧
    (∀ k x acc H', xs[k]? = some x → H' D = some (.lst acc) → Pv k acc H' → g x (wipe σ vs) H' fun σ2 H2 => LcIn tt te vs σ D (LcP D Pv (k + 1)) σ2 H2) ∧ ∀ acc H', H' D = some (.lst acc) → Pv xs.length acc H' → Q (.ref D) H') : LcT (Itl K a) g tt te vs σ H Q := fun D hD => by
  obtain ⟨Pv, h0, hl, hs, hd⟩ := q D (upd H D (.lst [])) hD ((Fr.refl [] H).new hD) upd_same
  exact lc_list (K := K) (a := a) (xs := xs) (LcP D Pv) ⟨[], upd_same, h0⟩ (fun k H' hk ⟨acc, e, p⟩ => hl k acc H' hk p) (fun k x H' hx ⟨acc, e, p⟩ => hs k x acc H' hx e p) fun H' ⟨acc, e, p⟩ => hd acc H' e p
theorem rd_lcT {g : TG} {vs : List Nat} (xs : List V) (q : ∀ D H1, H D = none → Fr [] H H1 → H1 D = some (.lst []) → ∃ Pv : Nat → List V → Hp → Prop, Pv 0 [] H1 ∧ (∀ k acc H', k ≤ xs.length → Pv k acc H' → SqT K H' a xs) ∧
    (∀ k x acc H', xs[k]? = some x → H' D = some (.lst acc) → Pv k acc H' → g x (wipe σ vs) H' fun σ2 H2 => LcIn tt te vs σ D (LcP D Pv (k + 1)) σ2 H2) ∧ ∀ acc H', H' D = some (.lst acc) → Pv xs.length acc H' → Q (.ref D) H') : LcT (Itt K a) g tt te vs σ H Q := fun D hD => by
  obtain ⟨Pv, h0, hl, hs, hd⟩ := q D (upd H D (.lst [])) hD ((Fr.refl [] H).new hD) upd_same
  exact lc_tup (K := K) (a := a) (xs := xs) (LcP D Pv) ⟨[], upd_same, h0⟩ (fun k H' hk ⟨acc, e, p⟩ => hl k acc H' hk p) (fun k x H' hx ⟨acc, e, p⟩ => hs k x acc H' hx e p) fun H' ⟨acc, e, p⟩ => hd acc H' e p
theorem rd_lcin {vs : List Nat} {σ2 : L2.St} {Dd : Addr} {P : Hp → Prop} (h : wipe σ2 vs = wipe σ vs) (q : tt σ2 H fun b H3 => if b = true then te σ2 H3 fun y H4 => LcEnd Dd P y H4 else P H3) : LcIn tt te vs σ Dd P σ2 H := ⟨h, q⟩
theorem rd_yes (q : R true H) : tYes σ H R := q
theorem rd_lcend {Dd : Addr} {Pv : Nat → List V → Hp → Prop} {k : Nat} {acc : List V} (h : H Dd = some (.lst acc)) (hl : acc.length ≤ 1000) (q : ∀ H5, Fr [Dd] H H5 → Kp H H5 → H5 Dd = some (.lst (acc ++ [v])) → Pv k (acc ++ [v]) H5) : LcEnd Dd (LcP Dd Pv k) v H :=
  ⟨acc, h, small1000 hl, acc ++ [v], upd_same, q _ ((Fr.refl [Dd] H).put (by simp)) (((Fr.refl [Dd] H).put (by simp)).kpL h) upd_same⟩
theorem rd_while {c : TT} {tb : TS} (Pv : L2.St → Hp → Prop) (μ : L2.St → Hp → Nat) (h0 : Pv σ H)
    (hs : ∀ σ H, Pv σ H → c σ H fun b H1 => if b = true then ∃ N : L2.St → Hp → Prop, (∀ σ' H', N σ' H' → ∃ m', m' < μ σ H ∧ (m' = μ σ' H' ∧ Pv σ' H')) ∧ tb { D with nx := N, ct := N, bk := D.nx } σ H1 else D.nx σ H1) : tWhile c tb D σ H :=
  ⟨fun m σ H => m = μ σ H ∧ Pv σ H, ⟨_, rfl, h0⟩, fun m σ H p => by obtain ⟨rfl, p⟩ := p; exact hs σ H p⟩
theorem rd_turn {Pv : L2.St → Hp → Prop} {μ : L2.St → Hp → Nat} {n : Nat} {tb : TS} (q : tb { D with nx := fun σ' H' => Pv σ' H' ∧ μ σ' H' < n, ct := fun σ' H' => Pv σ' H' ∧ μ σ' H' < n, bk := D.nx } σ H1) :
    ∃ N : L2.St → Hp → Prop, (∀ σ' H', N σ' H' → ∃ m', m' < n ∧ (m' = μ σ' H' ∧ Pv σ' H')) ∧ tb { D with nx := N, ct := N, bk := D.nx } σ H1 := ⟨_, fun _ _ ⟨p', l⟩ => ⟨_, l, rfl, p'⟩, q⟩
end
end Lf
namespace Lf
open PySem L2
def top (i : Nat) : Stmt := PySem.Challenge.pw_lapfold_k18_folds_reckoned.main.body.getD i (.Pass ⟨0, 0, 0, 0⟩)
end Lf
local macro_rules | `(tactic| walk_at "rd1") => `(tactic| first
  | with_reducible refine Lf.rd_var rfl ?_ | with_reducible refine Lf.rd_c ?_ | with_reducible refine Lf.rd_op ?_
  | with_reducible refine Lf.rd_test ?_ | with_reducible refine Lf.rd_isb ?_ | with_reducible refine Lf.rd_nil ?_ | with_reducible refine Lf.rd_cons ?_
  | with_reducible refine Lf.rd_plusI ?_ | with_reducible refine Lf.rd_I0 ?_ | with_reducible refine Lf.rd_cb ?_ | with_reducible refine Lf.rd_call ?_
  | with_reducible refine Lf.rd_tup ?_ | with_reducible refine Lf.rd_lst ?_ | with_reducible refine Lf.rd_ret ?_ | with_reducible refine Lf.rd_asg ?_ | with_reducible refine Lf.rd_gname ?_
  | with_reducible refine Lf.rd_if ?_ | with_reducible refine Lf.rd_drop ?_ | with_reducible refine Lf.rd_next ?_ | with_reducible refine Lf.rd_par ?_ | with_reducible refine Lf.rd_two ?_
  | with_reducible refine Lf.rd_abs ?_ | with_reducible refine Lf.rd_max2 ?_ | with_reducible refine Lf.rd_neg ?_ | with_reducible refine Lf.rd_un ?_ | with_reducible refine Lf.rd_b ?_ | with_reducible refine Lf.rd_and ?_ | with_reducible refine Lf.rd_or ?_ | with_reducible refine Lf.rd_not ?_
  | with_reducible refine Lf.rd_andV ?_ | with_reducible refine Lf.rd_orV ?_ | with_reducible refine Lf.rd_andb ?_ | with_reducible refine Lf.rd_orb ?_ | with_reducible refine Lf.rd_notV ?_ | with_reducible refine Lf.rd_notb ?_
  | with_reducible refine Lf.rd_ife ?_ | with_reducible refine Lf.rd_retN ?_ | with_reducible refine Lf.rd_break ?_ | with_reducible refine Lf.rd_cont ?_
  | with_reducible refine Lf.rd_gsub ?_ | with_reducible refine Lf.rd_gnil ?_ | with_reducible refine Lf.rd_gcons ?_
  | with_reducible refine Lf.rd_bm ?_ | with_reducible refine Lf.rd_intI ?_ | with_reducible refine Lf.rd_intB ?_ | with_reducible refine Lf.rd_irng1 ?_ | with_reducible refine Lf.rd_irng2 ?_ | with_reducible refine Lf.rd_ilist ?_ | with_reducible refine Lf.rd_ituple ?_
  | with_reducible refine Lf.rd_fort ?_ | with_reducible refine Lf.rd_lc ?_ | with_reducible refine Lf.rd_lcin rfl ?_ | with_reducible refine Lf.rd_yes ?_
  | with_reducible refine Lf.rd_rng1 (by decide) ?_ | with_reducible refine Lf.rd_rng2 (by decide) ?_
  | with_reducible refine Lf.rd_eqS rfl ?_ | with_reducible refine Lf.rd_neS rfl ?_)
local macro_rules | `(tactic| walk_at "rd") => `(tactic| (repeat (first | (walk_at "rd1") | (with_reducible refine Lf.rd_seq ?_))))
local macro_rules | `(tactic| walk_at "rh1") => `(tactic| first
  | (walk_at "rd1")
  | ((with_reducible refine' Lf.rd_ixK ?hS ?hK ?hA ?_); (case hS => (walk_at "ht")); (case hK => (walk_at "kp")); (case hA => rfl))
  | ((with_reducible refine' Lf.rd_ixH ?hS ?hA ?_); (case hS => (walk_at "hp")); (case hA => rfl))
  | ((with_reducible refine' Lf.rd_lenH ?hS ?_); (case hS => (walk_at "hp")))
  | ((with_reducible refine' Lf.rd_lenK ?hS ?hK ?_); (case hS => (walk_at "ht")); (case hK => (walk_at "kp")))
  | ((with_reducible refine' Lf.rd_gtupK ?hS ?hK ?hA ?_); (case hS => (walk_at "ht")); (case hK => (walk_at "kp")); (case hA => rfl))
  | ((with_reducible refine' Lf.rd_gunl ?hS ?hA ?_); (case hS => (walk_at "hp")); (case hA => rfl))
  | ((with_reducible refine' Lf.rd_istuK ?hS ?hK ?_); (case hS => (walk_at "ht")); (case hK => (walk_at "kp")))
  | ((with_reducible refine' Lf.rd_isli ?hS ?_); (case hS => (walk_at "hp")))
  | ((with_reducible refine' Lf.rd_tyL ?hS ?_); (case hS => (walk_at "hp"))))
local macro_rules | `(tactic| walk_at "rh") => `(tactic| (repeat (first | (walk_at "rh1") | (with_reducible refine Lf.rd_seq ?_))))
local macro_rules | `(tactic| walk_at "rs") => `(tactic| (repeat (walk_at "rh1")))
-- a tracked list, as it was told last
local macro_rules | `(tactic| walk_at "hp") => `(tactic| first
  | assumption
  | ((refine' L2.SqL.of ?k1); (case k1 => (walk_at "hp")))
  | ((refine' Lf.Fr.at (M := []) ?k1 ?k3 ?k2); (case k1 => assumption); (case k2 => simp); (case k3 => (walk_at "hp")))
  | ((refine' Lf.Fr.at2 ?k1 ?k3 ?k4 ?k5); (case k1 => assumption); (case k4 => assumption); (case k5 => assumption); (case k3 => (walk_at "hp")))
  | ((refine' Lf.Fr.at1 ?k1 ?k3 ?k4); (case k1 => assumption); (case k4 => assumption); (case k3 => (walk_at "hp")))
  | ((refine' Lf.Fr.seq0 ?k1 ?k3); (case k1 => assumption); (case k3 => (walk_at "hp"))))
-- a tuple, at whatever heap
local macro_rules | `(tactic| walk_at "ht") => `(tactic| first
  | assumption
  | ((refine' L2.SqT.of ?k1); (case k1 => assumption)))
-- tuples stay from one heap to another
local macro_rules | `(tactic| walk_at "kp") => `(tactic| first
  | assumption
  | exact Lf.Kp.refl _
  | ((refine' Lf.Kp.trans ?k3 (Lf.Fr.kp0 ?k1)); (case k1 => assumption); (case k3 => (walk_at "kp")))
  | ((refine' Lf.Kp.trans ?k3 ?k1); (case k1 => assumption); (case k3 => (walk_at "kp"))))
-- xs.append(v) of a tracked list
local macro_rules | `(tactic| walk_at "ap") => `(tactic| ((refine' Lf.rd_app ?k1 ?k2 ?k3); (case k1 => (walk_at "hp")); (case k2 => simp)))
-- a test of written words
local macro_rules | `(tactic| walk_at "wd") => `(tactic| first
  | ((with_reducible refine' Lf.ifF ?k1 ?k2); (case k1 => decide +kernel))
  | ((with_reducible refine' Lf.ifT ?k1 ?k2); (case k1 => decide +kernel)))
local macro_rules | `(tactic| walk_at "rx") => `(tactic| (repeat (first | (walk_at "rh1") | (with_reducible refine Lf.rd_seq ?_) | (walk_at "wd"))))
namespace Lf
open PySem PySem.Spec PyProof.Rows L2
/-! ### folds over three numbers and a row (plain) -/
inductive Kd where
  | num | row | tup
/-- the three numbers and the row -/
structure Sl where
  a : Int
  b : Int
  c : Int
  r : List Int
abbrev Vl : Kd → Type
  | .num => Int
  | .row => List Int
  | .tup => Sl
inductive Fo : Kd → Type where
  | num (n : Int) : Fo .num
  | s0 : Fo .num
  | s1 : Fo .num
  | s2 : Fo .num
  | row3 : Fo .row
  | less (x : Fo .num) : Fo .num
  | add (x y : Fo .num) : Fo .num
  | mul (x y : Fo .num) : Fo .num
  | none : Fo .row
  | more (x : Fo .row) (y : Fo .num) : Fo .row
  | tuple (x y z : Fo .num) (w : Fo .row) : Fo .tup
  | wher {k : Kd} (t : Fo .num) (x y : Fo k) : Fo k
  | wit {k : Kd} (t : Fo .tup) (x : Fo k) : Fo k
  | fold (n : Fo .num) (t g : Fo .tup) : Fo .tup
def iter {α : Type} (f : α → α) : Nat → α → α
  | 0, x => x
  | n + 1, x => iter f n (f x)
def ev : {k : Kd} → Fo k → Sl → Vl k
  | _, .num n, _ => n
  | _, .s0, s => s.a
  | _, .s1, s => s.b
  | _, .s2, s => s.c
  | _, .row3, s => s.r
  | _, .less x, s => if ev x s > 0 then ev x s - 1 else 0
  | _, .add x y, s => ev x s + ev y s
  | _, .mul x y, s => ev x s * ev y s
  | _, .none, _ => []
  | _, .more x y, s => ev x s ++ [ev y s]
  | _, .tuple x y z w, s => ⟨ev x s, ev y s, ev z s, ev w s⟩
  | _, .wher t x y, s => if ev t s ≠ 0 then ev x s else ev y s
  | _, .wit t x, s => ev x (ev t s)
  | _, .fold n t g, s => iter (ev g) (ev n s).toNat (ev t s)
def dep : {k : Kd} → Fo k → Nat
  | _, .num _ => 0
  | _, .s0 => 0
  | _, .s1 => 0
  | _, .s2 => 0
  | _, .row3 => 0
  | _, .less x => dep x + 1
  | _, .add x y => max (dep x) (dep y) + 1
  | _, .mul x y => max (dep x) (dep y) + 1
  | _, .none => 0
  | _, .more x y => max (dep x) (dep y) + 1
  | _, .tuple x y z w => max (max (dep x) (dep y)) (max (dep z) (dep w)) + 1
  | _, .wher t x y => max (dep t) (max (dep x) (dep y)) + 1
  | _, .wit t x => max (dep t) (dep x) + 1
  | _, .fold n t g => max (dep n) (max (dep t) (dep g)) + 1
/-- as it is written -/
def enc : {k : Kd} → Fo k → D
  | _, .num n => .tup [.str "num", .int n]
  | _, .s0 => .tup [.str "slot", .int 0]
  | _, .s1 => .tup [.str "slot", .int 1]
  | _, .s2 => .tup [.str "slot", .int 2]
  | _, .row3 => .tup [.str "slot", .int 3]
  | _, .less x => .tup [.str "less", enc x]
  | _, .add x y => .tup [.str "add", enc x, enc y]
  | _, .mul x y => .tup [.str "times", enc x, enc y]
  | _, .none => .tup [.str "none"]
  | _, .more x y => .tup [.str "more", enc x, enc y]
  | _, .tuple x y z w => .tup [.str "tuple", .tup [enc x, enc y, enc z, enc w]]
  | _, .wher t x y => .tup [.str "where", enc t, enc x, enc y]
  | _, .wit t x => .tup [.str "with", enc t, enc x]
  | _, .fold n t g => .tup [.str "fold", enc n, enc t, enc g]
/-- what the reckoning asks of sizes -/
def Fits : {k : Kd} → Fo k → Sl → Prop
  | _, .num _, _ => True
  | _, .s0, _ => True
  | _, .s1, _ => True
  | _, .s2, _ => True
  | _, .row3, s => s.r.length ≤ 900
  | _, .less x, s => Fits x s
  | _, .add x y, s => Fits x s ∧ Fits y s
  | _, .mul x y, s => Fits x s ∧ Fits y s ∧ (ev x s).natAbs < 2 ^ 400000 ∧ (ev y s).natAbs < 2 ^ 400000
  | _, .none, _ => True
  | _, .more x y, s => Fits x s ∧ Fits y s ∧ (ev x s).length ≤ 900
  | _, .tuple x y z w, s => Fits x s ∧ Fits y s ∧ Fits z s ∧ Fits w s
  | _, .wher t x y, s => Fits t s ∧ Fits x s ∧ Fits y s
  | _, .wit t x, s => Fits t s ∧ Fits x (ev t s)
  | _, .fold n t g, s => Fits n s ∧ Fits t s ∧ 0 ≤ ev n s ∧ ev n s ≤ 1000 ∧ ∀ i, i < (ev n s).toNat → Fits g (iter (ev g) i (ev t s))
theorem iter_succ {α : Type} (f : α → α) : ∀ (n : Nat) (x : α), iter f (n + 1) x = f (iter f n x)
  | 0, _ => rfl
  | n + 1, x => by
    show iter f (n + 1) (f x) = f (iter f n (f x))
    exact iter_succ f n (f x)
theorem iter_fix {α : Type} {f : α → α} {x : α} (h : f x = x) : ∀ n, iter f n x = x
  | 0 => rfl
  | n + 1 => by
    show iter f n (f x) = x
    rw [h]; exact iter_fix h n
theorem iter_add {α : Type} (f : α → α) : ∀ (m n : Nat) (x : α), iter f (m + n) x = iter f n (iter f m x)
  | 0, n, x => by rw [Nat.zero_add]; rfl
  | m + 1, n, x => by
    rw [Nat.succ_add]
    show iter f (m + n) (f x) = iter f n (iter f m (f x))
    exact iter_add f m n (f x)
end Lf
namespace Lf
open PySem PySem.Spec PyProof.Rows L2
/-! ### how great a fold's value gets (plain) -/
structure SlB (b l : Nat) (s : Sl) : Prop where
  ha : s.a.natAbs < 2 ^ b
  hb : s.b.natAbs < 2 ^ b
  hc : s.c.natAbs < 2 ^ b
  hr : s.r.length ≤ l
theorem pow_up {b c x : Nat} (h : x < 2 ^ b) (hc : b ≤ c) : x < 2 ^ c := Nat.lt_of_lt_of_le h (Nat.pow_le_pow_right (by decide) hc)
theorem SlB.up {b l b' l' : Nat} {s : Sl} (h : SlB b l s) (hb : b ≤ b') (hl : l ≤ l') : SlB b' l' s := ⟨pow_up h.ha hb, pow_up h.hb hb, pow_up h.hc hb, Nat.le_trans h.hr hl⟩
def VB (b l : Nat) : (k : Kd) → Vl k → Prop
  | .num, x => (show Int from x).natAbs < 2 ^ b
  | .row, x => (show List Int from x).length ≤ l
  | .tup, x => SlB b l x
theorem VB.up {b l b' l' : Nat} (hb : b ≤ b') (hl : l ≤ l') : {k : Kd} → {x : Vl k} → VB b l k x → VB b' l' k x
  | .num, _, h => pow_up h hb
  | .row, _, h => Nat.le_trans h hl
  | .tup, _, h => SlB.up h hb hl
def kk : Nat → Nat
  | 0 => 1
  | d + 1 => 2 * (kk d * kk d)
theorem kk_pos : ∀ d, 1 ≤ kk d
  | 0 => Nat.le_refl 1
  | d + 1 => by
    have := Nat.mul_le_mul (kk_pos d) (kk_pos d)
    show 1 ≤ 2 * (kk d * kk d); omega
theorem kk_sq (d : Nat) : kk d ≤ kk d * kk d := Nat.le_mul_of_pos_right _ (kk_pos d)
def fi (d b : Nat) : Nat := (b + 8) * kk d
def la (d l : Nat) : Nat := l + 5 * (2 ^ d - 1)
theorem fi_ge (d b : Nat) : b + 8 ≤ fi d b := Nat.le_mul_of_pos_right _ (kk_pos d)
theorem fi_two (d b : Nat) : 2 * fi d b ≤ fi (d + 1) b := by
  have h := kk_sq d
  show 2 * ((b + 8) * kk d) ≤ (b + 8) * (2 * (kk d * kk d))
  calc 2 * ((b + 8) * kk d) = (b + 8) * (2 * kk d) := by rw [Nat.mul_left_comm]
    _ ≤ (b + 8) * (2 * (kk d * kk d)) := Nat.mul_le_mul_left _ (by omega)
theorem fi_fi (d b : Nat) : fi d (fi d b) ≤ fi (d + 1) b := by
  have h := kk_sq d
  have e : (b + 8) * (2 * (kk d * kk d)) = (b + 8) * (kk d * kk d) + (b + 8) * (kk d * kk d) := by rw [Nat.mul_left_comm, Nat.two_mul]
  have e2 : (b + 8) * kk d * kk d = (b + 8) * (kk d * kk d) := Nat.mul_assoc _ _ _
  have h3 : 8 * kk d ≤ (b + 8) * (kk d * kk d) := Nat.mul_le_mul (by omega) h
  show ((b + 8) * kk d + 8) * kk d ≤ (b + 8) * (2 * (kk d * kk d))
  rw [e, Nat.add_mul, e2]
  omega
theorem la_step (d l : Nat) : la d l + 5 ≤ la (d + 1) l := by
  have h : 1 ≤ 2 ^ d := Nat.one_le_two_pow
  show l + 5 * (2 ^ d - 1) + 5 ≤ l + 5 * (2 ^ (d + 1) - 1)
  rw [Nat.pow_succ]; omega
theorem la_la (d l : Nat) : la d (la d l) ≤ la (d + 1) l := by
  have h : 1 ≤ 2 ^ d := Nat.one_le_two_pow
  show l + 5 * (2 ^ d - 1) + 5 * (2 ^ d - 1) ≤ l + 5 * (2 ^ (d + 1) - 1)
  rw [Nat.pow_succ]; omega
theorem la_ge (d l : Nat) : l ≤ la d l := Nat.le_add_right _ _
/-- of depth d: what it asks of sizes holds, and how great it gets -/
def Sem (d : Nat) {k : Kd} (F : Fo k) : Prop := ∀ b l s, fi d b ≤ 500000 → la d l ≤ 900 → SlB b l s → Fits F s ∧ VB (fi d b) (la d l) k (ev F s)
theorem Sem.step {d : Nat} {k : Kd} {F : Fo k} (h : Sem d F) : Sem (d + 1) F := fun b l s h1 h2 hs => by
  have q := fi_two d b
  have q2 := la_step d l
  obtain ⟨f, v⟩ := h b l s (by omega) (by omega) hs
  exact ⟨f, v.up (by omega) (by omega)⟩
theorem Sem.up {d e : Nat} {k : Kd} {F : Fo k} (h : Sem d F) (hd : d ≤ e) : Sem e F := by
  obtain ⟨n, rfl⟩ := Nat.exists_eq_add_of_le hd
  clear hd
  induction n with
  | zero => exact h
  | succ n ih => exact ih.step
theorem sem_num (d : Nat) {n : Int} (h : n.natAbs < 2 ^ 8) : Sem d (.num n) := fun b l s _ _ _ => ⟨trivial, pow_up (show n.natAbs < 2 ^ 8 from h) (by have := fi_ge d b; omega)⟩
theorem sem_s0 (d : Nat) : Sem d .s0 := fun b l s _ _ hs => ⟨trivial, pow_up hs.ha (by have := fi_ge d b; omega)⟩
theorem sem_s1 (d : Nat) : Sem d .s1 := fun b l s _ _ hs => ⟨trivial, pow_up hs.hb (by have := fi_ge d b; omega)⟩
theorem sem_s2 (d : Nat) : Sem d .s2 := fun b l s _ _ hs => ⟨trivial, pow_up hs.hc (by have := fi_ge d b; omega)⟩
theorem sem_row3 (d : Nat) : Sem d .row3 := fun b l s _ h2 hs => by
  have := la_ge d l
  exact ⟨show s.r.length ≤ 900 from by have := hs.hr; omega, show s.r.length ≤ la d l from by have := hs.hr; omega⟩
theorem sem_none (d : Nat) : Sem d .none := fun b l s _ _ hs => ⟨trivial, Nat.zero_le _⟩
theorem less_le (z : Int) : (if z > 0 then z - 1 else 0).natAbs ≤ z.natAbs := by split <;> omega
theorem sem_less {d : Nat} {x : Fo .num} (h : Sem d x) : Sem (d + 1) (.less x) := fun b l s h1 h2 hs => by
  obtain ⟨f, v⟩ := h.step b l s h1 h2 hs
  exact ⟨f, Nat.lt_of_le_of_lt (less_le _) v⟩
theorem natAbs_add_lt {x y : Int} {m n : Nat} (h : x.natAbs < 2 ^ m) (g : y.natAbs < 2 ^ m) (hn : m + 1 ≤ n) : (x + y).natAbs < 2 ^ n := by
  refine pow_up (b := m + 1) ?_ hn
  rw [Nat.pow_succ]; omega
theorem sem_add {d : Nat} {x y : Fo .num} (hx : Sem d x) (hy : Sem d y) : Sem (d + 1) (.add x y) := fun b l s h1 h2 hs => by
  have q := fi_two d b
  have q1 := fi_ge d b
  have q2 := la_step d l
  obtain ⟨f, v⟩ := hx b l s (by omega) (by omega) hs
  obtain ⟨f', v'⟩ := hy b l s (by omega) (by omega) hs
  exact ⟨⟨f, f'⟩, natAbs_add_lt v v' (by omega)⟩
theorem sem_mul {d : Nat} {x y : Fo .num} (hx : Sem d x) (hy : Sem d y) : Sem (d + 1) (.mul x y) := fun b l s h1 h2 hs => by
  have q := fi_two d b
  have q2 := la_step d l
  obtain ⟨f, v⟩ := hx b l s (by omega) (by omega) hs
  obtain ⟨f', v'⟩ := hy b l s (by omega) (by omega) hs
  refine ⟨⟨f, f', pow_up v (by omega), pow_up v' (by omega)⟩, ?_⟩
  exact pow_up (wide_lt (a := fi d b) (b := fi d b) v v') (by omega)
theorem sem_more {d : Nat} {x : Fo .row} {y : Fo .num} (hx : Sem d x) (hy : Sem d y) : Sem (d + 1) (.more x y) := fun b l s h1 h2 hs => by
  have q := fi_two d b
  have q2 := la_step d l
  obtain ⟨f, v⟩ := hx b l s (by omega) (by omega) hs
  obtain ⟨f', _⟩ := hy b l s (by omega) (by omega) hs
  have v : (ev x s).length ≤ la d l := v
  refine ⟨⟨f, f', by omega⟩, ?_⟩
  show (ev x s ++ [ev y s]).length ≤ la (d + 1) l
  rw [List.length_append, List.length_singleton]; omega
theorem sem_tuple {d : Nat} {x y z : Fo .num} {w : Fo .row} (hx : Sem d x) (hy : Sem d y) (hz : Sem d z) (hw : Sem d w) : Sem d (.tuple x y z w) := fun b l s h1 h2 hs => by
  obtain ⟨f1, v1⟩ := hx b l s h1 h2 hs
  obtain ⟨f2, v2⟩ := hy b l s h1 h2 hs
  obtain ⟨f3, v3⟩ := hz b l s h1 h2 hs
  obtain ⟨f4, v4⟩ := hw b l s h1 h2 hs
  exact ⟨⟨f1, f2, f3, f4⟩, ⟨v1, v2, v3, v4⟩⟩
theorem sem_wher {d : Nat} {k : Kd} {t : Fo .num} {x y : Fo k} (ht : Sem (d + 1) t) (hx : Sem d x) (hy : Sem d y) : Sem (d + 1) (.wher t x y) := fun b l s h1 h2 hs => by
  obtain ⟨f, _⟩ := ht b l s h1 h2 hs
  obtain ⟨f', v'⟩ := hx.step b l s h1 h2 hs
  obtain ⟨f'', v''⟩ := hy.step b l s h1 h2 hs
  refine ⟨⟨f, f', f''⟩, ?_⟩
  show VB _ _ _ (if ev t s ≠ 0 then ev x s else ev y s)
  split
  · exact v'
  · exact v''
theorem sem_wit {d : Nat} {k : Kd} {t : Fo .tup} {x : Fo k} (ht : Sem d t) (hx : Sem d x) : Sem (d + 1) (.wit t x) := fun b l s h1 h2 hs => by
  have q := fi_two d b
  have q1 := fi_fi d b
  have q2 := la_step d l
  have q3 := la_la d l
  obtain ⟨f, v⟩ := ht b l s (by omega) (by omega) hs
  obtain ⟨f', v'⟩ := hx (fi d b) (la d l) (ev t s) (by omega) (by omega) v
  exact ⟨⟨f, f'⟩, v'.up q1 q3⟩
/-- a turn's fold: a little more each time -/
def Flat (g : Fo .tup) : Prop := ∀ b l s, l ≤ 899 → SlB b l s → Fits g s ∧ SlB (b + 2) (l + 1) (ev g s)
theorem flat_iter {g : Fo .tup} (h : Flat g) : ∀ (n : Nat) (b l : Nat) (s : Sl), l + n ≤ 899 → SlB b l s → SlB (b + 2 * n) (l + n) (iter (ev g) n s)
  | 0, _, _, _, _, hs => hs
  | n + 1, b, l, s, hl, hs => by
    have q := flat_iter h n (b + 2) (l + 1) (ev g s) (by omega) (h b l s (by omega) hs).2
    exact q.up (by omega) (by omega)
theorem toNat4 (z : Int) (h : z ≤ 4) : z.toNat ≤ 4 := by omega
theorem sem_fold {d : Nat} {m : Fo .num} {t g : Fo .tup} (hm : ∀ s, Fits m s ∧ 0 ≤ ev m s ∧ ev m s ≤ (4 : Int)) (ht : Sem d t) (hg : Flat g) : Sem (d + 1) (.fold m t g) := fun b l s h1 h2 hs => by
  have q := fi_two d b
  have q1 := fi_ge d b
  have q2 := la_step d l
  obtain ⟨f, v⟩ := ht b l s (by omega) (by omega) hs
  obtain ⟨m1, m2, m3⟩ := hm s
  have v : SlB (fi d b) (la d l) (ev t s) := v
  have hn := toNat4 (ev m s) m3
  refine ⟨⟨m1, f, m2, Int.le_trans m3 (by decide), fun i hi => ?_⟩, ?_⟩
  · have hi4 := Nat.lt_of_lt_of_le hi hn
    exact (hg _ _ _ (by omega) (flat_iter hg i _ _ _ (by omega) v)).1
  · show SlB _ _ (iter (ev g) (Int.toNat (ev m s)) (ev t s))
    generalize Int.toNat (ev m s) = n at hn
    exact (flat_iter hg n _ _ _ (by omega) v).up (by omega) (by omega)
theorem kk4 : kk 4 = 32768 := rfl
/-- at slots below a hundred -/
theorem Sem.fits {k : Kd} {F : Fo k} (h : Sem 4 F) {s : Sl} (hs : SlB 7 2 s) : Fits F s := (h 7 2 s (by decide) (by decide) hs).1
end Lf
namespace Lf
open PySem PySem.Spec PyProof.Rows L2
/-! ### value, walked -/
def SlAt (K : PySem.W.Frag) (H : Hp) (v : V) (s : Sl) : Prop := ∃ p r, v = .ref p ∧ SqT K H p [.int s.a, .int s.b, .int s.c, .ref r] ∧ SqL K H r (s.r.map V.int)
/-- a value of a kind; its row is new since H0 -/
def ResAt (K : PySem.W.Frag) (H0 H : Hp) : (k : Kd) → V → Vl k → Prop
  | .num, v, x => v = .int x
  | .row, v, x => ∃ p, v = .ref p ∧ H0 p = none ∧ H p = some (.lst ((show List Int from x).map V.int))
  | .tup, v, x => ∃ p r, v = .ref p ∧ SqT K H p [.int (show Sl from x).a, .int (show Sl from x).b, .int (show Sl from x).c, .ref r] ∧ H0 r = none ∧ H r = some (.lst ((show Sl from x).r.map V.int))
theorem ResAt.sl {K : PySem.W.Frag} {H0 H : Hp} {v : V} {x : Sl} (h : ResAt K H0 H .tup v x) : SlAt K H v x := by
  obtain ⟨p, r, rfl, s, _, e⟩ := h
  exact ⟨p, r, rfl, s, SqL.of e⟩
theorem SlAt.mono {K : PySem.W.Frag} {H H1 : Hp} {v : V} {s : Sl} (h : SlAt K H v s) (f : Fr [] H H1) : SlAt K H1 v s := by
  obtain ⟨p, r, rfl, a, b⟩ := h
  exact ⟨p, r, rfl, f.tup0 a, f.seq0 b⟩
theorem ResAt.mono {K : PySem.W.Frag} {H0 H H1 : Hp} (f : Fr [] H H1) : {k : Kd} → {v : V} → {x : Vl k} → ResAt K H0 H k v x → ResAt K H0 H1 k v x
  | .num, _, _, h => h
  | .row, _, _, ⟨p, e, n, h⟩ => ⟨p, e, n, f.at h⟩
  | .tup, _, _, ⟨p, r, e, s, n, h⟩ => ⟨p, r, e, f.tup0 s, n, f.at h⟩
theorem ResAt.back {K : PySem.W.Frag} {H0 H1 H : Hp} (f : Fr [] H0 H1) : {k : Kd} → {v : V} → {x : Vl k} → ResAt K H1 H k v x → ResAt K H0 H k v x
  | .num, _, _, h => h
  | .row, _, _, ⟨p, e, n, h⟩ => ⟨p, e, f.free n, h⟩
  | .tup, _, _, ⟨p, r, e, s, n, h⟩ => ⟨p, r, e, s, f.free n, h⟩
theorem less_eq (z : Int) : (if z - 1 > 0 then z - 1 else 0) = if z > 0 then z - 1 else 0 := by
  split <;> split <;> omega
theorem ResAt.backM {K : PySem.W.Frag} {H1 H' H : Hp} {D : Addr} {o : HO} (f : Fr [D] H1 H') (e : H' D = some o) {k : Kd} {v : V} {x : Vl k} (h : ResAt K H' H k v x) : ResAt K H1 H k v x := by
  have key : ∀ p, H' p = none → H1 p = none := fun p hp => by
    cases z : H1 p with
    | none => rfl
    | some u =>
      have hne : p ≠ D := fun c => by subst c; rw [e] at hp; cases hp
      rw [f.at z (by simpa using hne)] at hp; cases hp
  match k, x, h with
  | .num, _, h => exact h
  | .row, _, ⟨p, e, n, h⟩ => exact ⟨p, e, key p n, h⟩
  | .tup, _, ⟨p, r, e, s, n, h⟩ => exact ⟨p, r, e, s, key r n, h⟩
def spCopied (K : PySem.W.Frag) : Sp := fun vs H Q _ => (∃ i, vs = [.int i] ∧ Q (.int i) H) ∨ ∃ p xs, vs = [.ref p] ∧ SqL K H p xs ∧ ∀ q H2, H q = none → Fr [] H H2 → H2 q = some (.lst xs) → Q (.ref q) H2
def spJoined : Sp := fun vs H Q _ => (∃ i j, vs = [.str "add", .int i, .int j] ∧ Q (.int (i + j)) H) ∨ (∃ i j, vs = [.str "times", .int i, .int j] ∧ i.natAbs < 2 ^ 400000 ∧ j.natAbs < 2 ^ 400000 ∧ Q (.int (i * j)) H) ∨
  ∃ p xs j, vs = [.str "more", .ref p, .int j] ∧ H p = some (.lst xs) ∧ xs.length ≤ 900 ∧ ∀ q H2, H q = none → Fr [] H H2 → H2 q = some (.lst (xs ++ [.int j])) → Q (.ref q) H2
def spValue (K : PySem.W.Frag) (n : Nat) : Sp := fun vs H Q _ => ∃ (k : Kd) (F : Fo k) (s : Sl) (fv sv : V), vs = [fv, sv] ∧ Rp K H (enc F) fv ∧ SlAt K H sv s ∧ dep F < n ∧ Fits F s ∧ ∀ v H2, Fr [] H H2 → ResAt K H H2 k v (ev F s) → Q v H2
def spTurned (K : PySem.W.Frag) (n : Nat) : Sp := fun vs H Q _ => ∃ (m : Int) (g : Fo .tup) (s : Sl) (H0 : Hp) (bv gv : V), vs = [.int m, bv, gv] ∧ Rp K H (enc g) gv ∧ Fr [] H0 H ∧ ResAt K H0 H .tup bv s ∧ dep g < n ∧ 0 ≤ m ∧ m ≤ 1000 ∧ (∀ i, i < m.toNat → Fits g (iter (ev g) i s)) ∧
  ∀ v H2, Fr [] H H2 → ResAt K H0 H2 .tup v (iter (ev g) m.toNat s) → Q v H2
section
variable {P : Program} {w : World} {K : PySem.W.Frag} {mg : Str → Option Value} {base : Heap}
abbrev s_copied : Stmt := top 1
abbrev N_copied : List Str := ["one"]
theorem sc_copied : FnScope N_copied ["one"] (defScope s_copied) := ⟨rfl, rfl, rfl, by decide +kernel, rfl, by decide +kernel, by decide +kernel⟩
theorem ok_copied (T : Blt mg) (F : Here K mg "copied" s_copied ["one"]) : DefOk P w K mg base CX0 "copied" ["one"] 1 (spCopied K) := by
  refine F.ok sc_copied (fun vs H Q E h => ?_) (fun f cdv A outer s H vs Q E hr h => ?_)
  · rcases h with ⟨_, rfl, _⟩ | ⟨_, _, rfl, _⟩ <;> rfl
  refine ⟨_, (pss_cons (ps_if (pt_val (pe_callB call_isiA (by rfl) T.n_isinstance (by decide +kernel) (pa_cons (pv 0) (pa_cons (pe_tyN (n := "list") (by rfl) T.n_list (by decide +kernel)) pa_nil))))
    (pss_one (ps_ret (pe_callTy call_listA (by rfl) T.n_list (by decide +kernel) (pa_cons (pv 0) pa_nil))))
    pss_nil)
    (pss_one (ps_ret (pv 0)))), ?_⟩
  rcases h with ⟨i, rfl, q⟩ | ⟨p, xs, rfl, hS, q⟩
  · walk_at "rh"
    refine rd_isi (k := false) (.base (.int i)) (by decide +kernel) ?_
    walk_at "rx"
    exact q
  · walk_at "rh"
    refine rd_isi (k := true) (ty_list hS) (by decide +kernel) ?_
    walk_at "rx"
    exact rd_list hS q
abbrev s_joined : Stmt := top 4
abbrev N_joined : List Str := ["word", "one", "other"]
theorem sc_joined : FnScope N_joined ["word", "one", "other"] (defScope s_joined) := ⟨rfl, rfl, rfl, by decide +kernel, rfl, by decide +kernel, by decide +kernel⟩
theorem ok_joined (F : Here K mg "joined" s_joined ["word", "one", "other"]) : DefOk P w K mg base CX0 "joined" ["word", "one", "other"] 1 spJoined := by
  refine F.ok sc_joined (fun vs H Q E h => ?_) (fun f cdv A outer s H vs Q E hr h => ?_)
  · rcases h with ⟨_, _, rfl, _⟩ | ⟨_, _, rfl, _⟩ | ⟨_, _, _, rfl, _⟩ <;> rfl
  have hu64 := hr.units
  refine ⟨_, (pss_cons (ps_if (pt_cmpR (op_eqA hu64) (pv 0) pe_str (nomark _))
    (pss_one (ps_ret (pe_op op_plus (pv 1) (pv 2))))
    pss_nil)
    (pss_cons (ps_if (pt_cmpR (op_eqA hu64) (pv 0) pe_str (nomark _))
    (pss_one (ps_ret (pe_op op_timesA (pv 1) (pv 2))))
    pss_nil)
    (pss_one (ps_ret (pe_op op_plus (pv 1) (pe_lst (pa_cons (pv 2) pa_nil))))))), ?_⟩
  rcases h with ⟨i, j, rfl, q⟩ | ⟨i, j, rfl, hi, hj, q⟩ | ⟨p, xs, j, rfl, hp, hl, q⟩
  · walk_at "rx"
    exact q
  · walk_at "rx"
    exact rd_mulW 400000 400000 hi hj (by decide) q
  · walk_at "rx"
    refine rd_newL (by simp) fun l H1 fl f1 el => ?_
    refine rd_plusL (f1.at hp) el (Nat.le_of_lt (small1000 (by simp; omega))) fun t H2 ft f2 et => ?_
    exact q t H2 (f1.free ft) (f1.trans f2) et
theorem eqv_sl (s t : Sl) : PyData.eqv (.tuple [.int s.a, .int s.b, .int s.c, .list (s.r.map PyData.int)]) (.tuple [.int t.a, .int t.b, .int t.c, .list (t.r.map PyData.int)]) = true ↔ s = t := by
  have key : ∀ xs ys : List Int, PyData.eqvAll (xs.map PyData.int) (ys.map PyData.int) = true ↔ xs = ys := by
    intro xs
    induction xs with
    | nil => intro ys; cases ys <;> simp [PyData.eqvAll]
    | cons x xs ih => intro ys; cases ys <;> simp [PyData.eqvAll, PyData.eqv, ih]
  cases s; cases t
  simp [PyData.eqv, PyData.eqvAll, key, and_assoc]
theorem canLay_ints' : ∀ (cells : List Int), PyData.canLayAll0 (cells.map PyData.int) = true
  | [] => rfl
  | _ :: r => by simp [PyData.canLayAll0, PyData.canLay0, canLay_ints' r]
theorem depth_ints' : ∀ (cells : List Int), PyData.depthAll (cells.map PyData.int) = 0
  | [] => rfl
  | _ :: r => by simp [PyData.depthAll, PyData.depth, depth_ints' r]
theorem dp_ints' {K : PySem.W.Frag} {H : Hp} : ∀ (cells : List Int), DpAll K H (cells.map V.int) (cells.map PyData.int)
  | [] => .nil
  | _ :: r => .cons (.int _) (dp_ints' r)
theorem shaped_sl (s : Sl) : SeqAt.shaped (.tuple [.int s.a, .int s.b, .int s.c, .list (s.r.map PyData.int)]) = true := by
  simp [SeqAt.shaped, PyData.canLay0, PyData.canLayAll0, canLay_ints', PyData.depth, PyData.depthAll, depth_ints']
theorem SlAt.dp {H : Hp} {v : V} {s : Sl} (h : SlAt K H v s) : Dp K H v (.tuple [.int s.a, .int s.b, .int s.c, .list (s.r.map PyData.int)]) := by
  obtain ⟨p, r, rfl, a, b⟩ := h
  exact .tup a (.cons (.int _) (.cons (.int _) (.cons (.int _) (.cons (.lst b (dp_ints' _)) .nil))))
theorem SlAt.ref {H : Hp} {v : V} {s : Sl} (h : SlAt K H v s) : ∃ p, v = .ref p := by
  obtain ⟨p, r, e, _⟩ := h; exact ⟨p, e⟩
abbrev s_turned : Stmt := top 3
abbrev N_turned : List Str := ["many", "begun", "inner", "found", "turn", "behind"]
theorem sc_turned : FnScope N_turned ["many", "begun", "inner"] (defScope s_turned) := ⟨rfl, rfl, rfl, by decide +kernel, rfl, by decide +kernel, by decide +kernel⟩
theorem ok_turned (T : Blt mg) (n k : Nat) (F : Here K mg "turned" s_turned ["many", "begun", "inner"]) (D_value : DefOk P w K mg base CX0 "value" ["fold", "slots"] k (spValue K n)) : DefOk P w K mg base CX0 "turned" ["many", "begun", "inner"] (k + 1) (spTurned K n) := by
  refine F.ok sc_turned (fun vs H Q E h => ?_) (fun f cdv A outer s H vs Q E hr h => ?_)
  · obtain ⟨_, _, _, _, _, _, rfl, _⟩ := h; rfl
  obtain ⟨m, g, x, H0, bv, gv, rfl, hg, f0, hb, hd, m0, m1, hf, q⟩ := h
  have hu64 := hr.units
  have hr_value := hr
  refine ⟨_, (pss_cons (ps_set (i := 3) sc_turned.nd rfl (Or.inl rfl) (pv 1))
    (pss_cons (ps_for PassesOwn.never rfl (pi_range1 (by rfl) T.n_range (pa_cons (pv 0) pa_nil)) (pg_name (i := 4) sc_turned.nd rfl (Or.inl rfl))
    (pss_cons (ps_set (i := 5) sc_turned.nd rfl (Or.inl rfl) (pe_callD D_value hr_value pass0 (pa_cons (pv 2) (pa_cons (pv 3) pa_nil))))
    (pss_cons (ps_if (pt_cmpR (op_eqA hu64) (pv 5) (pv 3) (nomark _))
    (pss_one (ps_ret (pv 3)))
    pss_nil)
    (pss_one (ps_set (i := 3) sc_turned.nd rfl (Or.inl rfl) (pv 5))))))
    (pss_one (ps_ret (pv 3))))), ?_⟩
  walk_at "rh"
  refine rd_rng1 (by omega) ?_
  refine rd_forR (fun i σ' H' => ∃ (fv : V) (u4 u5 : Option V), σ' = [some (.int m), some bv, some gv, some fv, u4, u5] ∧ Fr [] H H' ∧ ResAt K H0 H' .tup fv (iter (ev g) i x)) ⟨bv, none, none, rfl, Fr.refl _ _, hb⟩ ?_ ?_
  · rintro i σ' H' hi ⟨fv, u4, u5, rfl, f1, hres⟩
    walk_at "rh"
    refine ⟨.tup, g, iter (ev g) i x, gv, fv, rfl, hg.mono f1.kp0, hres.sl, hd, hf i hi, fun v H2 f2 hv => ?_⟩
    have hv' : ResAt K H0 H2 .tup v (ev g (iter (ev g) i x)) := hv.back (f0.trans f1)
    have hres2 := hres.mono f2
    walk_at "rh"
    refine rd_eqD hv'.sl.dp hres2.sl.dp (shaped_sl _) (shaped_sl _) ?_
    walk_at "rh"
    by_cases e : ev g (iter (ev g) i x) = iter (ev g) i x
    · refine ifT ((eqv_sl _ _).mpr e) ?_
      walk_at "rh"
      refine q fv H2 (f1.trans f2) ?_
      have e2 : m.toNat = i + (m.toNat - i) := by omega
      rw [e2, iter_add, iter_fix e]
      exact hres2
    · refine ifF (Bool.eq_false_iff.mpr fun z => e ((eqv_sl _ _).mp z)) ?_
      walk_at "rh"
      refine ⟨v, _, _, rfl, f1.trans f2, ?_⟩
      rw [iter_succ]
      exact hv'
  · rintro σ' H' ⟨fv, u4, u5, rfl, f1, hres⟩
    walk_at "rh"
    exact q fv H' f1 hres
abbrev s_value : Stmt := top 2
abbrev N_value : List Str := ["fold", "slots", "word", "part"]
theorem sc_value : FnScope N_value ["fold", "slots"] (defScope s_value) := ⟨rfl, rfl, rfl, by decide +kernel, rfl, by decide +kernel, by decide +kernel⟩
theorem bd_value (T : Blt mg) (n k : Nat) (D_value : DefOk P w K mg base CX0 "value" ["fold", "slots"] k (spValue K n)) (D_turned : DefOk P w K mg base CX0 "turned" ["many", "begun", "inner"] (k + 1) (spTurned K n))
    (D_copied : DefOk P w K mg base CX0 "copied" ["one"] 1 (spCopied K)) (D_joined : DefOk P w K mg base CX0 "joined" ["word", "one", "other"] 1 spJoined) {f : Addr} {cdv : Value} {A : Around} {outer : List Env} {s : Shared} {H : Hp} {vs : List V} {Q : VK} {E : XK}
    (hr : Room (k + 1) (A.deeper (envOfC "value" (defScope s_value) s.heap.objs.size f cdv))) (h : spValue K (n + 1) vs H Q E) :
    ∃ t, PSs (cxOf CX0 P w K mg base N_value "value" (defScope s_value) f cdv A outer s H E).nox (defBody s_value) t ∧ t { nx := fun _ H' => Q .non H', rt := Q } (start N_value vs) H := by
  obtain ⟨kd, G, x, fv, sv, rfl, hF, hS, hd, hfit, q⟩ := h
  have hu64 := hr.units
  have hr_value := hr.mono (j := k) (by omega)
  have hr_turned := hr
  have hr_copied := hr.mono (j := 1) (by omega)
  have hr_joined := hr.mono (j := 1) (by omega)
  refine ⟨_, (pss_cons (ps_set (i := 2) sc_value.nd rfl (Or.inl rfl) (pe_ix ix_seq (pv 0) pe_int (fun _ _ => rfl)))
    (pss_cons (ps_if (pt_cmpR (op_eqA hu64) (pv 2) pe_str (nomark _))
    (pss_one (ps_ret (pe_ix ix_seq (pv 0) pe_int (fun _ _ => rfl))))
    pss_nil)
    (pss_cons (ps_if (pt_cmpR (op_eqA hu64) (pv 2) pe_str (nomark _))
    (pss_one (ps_ret (pe_callD D_copied hr_copied pass0 (pa_cons (pe_ix ix_seq (pv 1) (pe_ix ix_seq (pv 0) pe_int (fun _ _ => rfl)) (fun _ _ => rfl)) pa_nil))))
    pss_nil)
    (pss_cons (ps_if (pt_cmpR (op_eqA hu64) (pv 2) pe_str (nomark _))
    (pss_one (ps_ret (pe_lst pa_nil)))
    pss_nil)
    (pss_cons (ps_if (pt_cmpR (op_eqA hu64) (pv 2) pe_str (nomark _))
    (pss_one (ps_ret (pe_callTy call_tupleA (by rfl) T.n_tuple (by decide +kernel) (pa_cons (pe_lc (own := [("part", 3)]) (g := gName 3) (tt := tYes) rfl sc_value.nd (pi_tup (pe_ix ix_seq (pv 0) pe_int (fun _ _ => rfl))) (blkOk_by (own := [("part", 3)]) (N := N_value) (sc := defScope s_value) (by decide +kernel)) (fun _ _ _ _ _ => (pg_name (i := 3) sc_value.nd rfl (Or.inl rfl))) (fun _ _ _ _ _ => pts_nil) (fun _ _ _ _ _ => (pe_callD D_value hr_value pass0 (pa_cons (pv 3) (pa_cons (pv 1) pa_nil))))) pa_nil))))
    pss_nil)
    (pss_cons (ps_if (pt_cmpR (op_eqA hu64) (pv 2) pe_str (nomark _))
    (pss_one (ps_ret (pe_ifExp (pt_cmpR (op_neA hu64) (pe_callD D_value hr_value pass0 (pa_cons (pe_ix ix_seq (pv 0) pe_int (fun _ _ => rfl)) (pa_cons (pv 1) pa_nil))) pe_int (nomark _)) (pe_callD D_value hr_value pass0 (pa_cons (pe_ix ix_seq (pv 0) pe_int (fun _ _ => rfl)) (pa_cons (pv 1) pa_nil))) (pe_callD D_value hr_value pass0 (pa_cons (pe_ix ix_seq (pv 0) pe_int (fun _ _ => rfl)) (pa_cons (pv 1) pa_nil))))))
    pss_nil)
    (pss_cons (ps_if (pt_cmpR (op_eqA hu64) (pv 2) pe_str (nomark _))
    (pss_one (ps_ret (pe_callD D_value hr_value pass0 (pa_cons (pe_ix ix_seq (pv 0) pe_int (fun _ _ => rfl)) (pa_cons (pe_callD D_value hr_value pass0 (pa_cons (pe_ix ix_seq (pv 0) pe_int (fun _ _ => rfl)) (pa_cons (pv 1) pa_nil))) pa_nil)))))
    pss_nil)
    (pss_cons (ps_if (pt_cmpR (op_eqA hu64) (pv 2) pe_str (nomark _))
    (pss_one (ps_ret (pe_callD D_turned hr_turned pass0 (pa_cons (pe_callD D_value hr_value pass0 (pa_cons (pe_ix ix_seq (pv 0) pe_int (fun _ _ => rfl)) (pa_cons (pv 1) pa_nil))) (pa_cons (pe_callD D_value hr_value pass0 (pa_cons (pe_ix ix_seq (pv 0) pe_int (fun _ _ => rfl)) (pa_cons (pv 1) pa_nil))) (pa_cons (pe_ix ix_seq (pv 0) pe_int (fun _ _ => rfl)) pa_nil))))))
    pss_nil)
    (pss_cons (ps_if (pt_cmpR (op_eqA hu64) (pv 2) pe_str (nomark _))
    (pss_one (ps_ret (pe_callB (call_max2A rfl) (by rfl) T.n_max (by decide +kernel) (pa_cons pe_int (pa_cons (pe_op op_sub (pe_callD D_value hr_value pass0 (pa_cons (pe_ix ix_seq (pv 0) pe_int (fun _ _ => rfl)) (pa_cons (pv 1) pa_nil))) pe_int) pa_nil)))))
    pss_nil)
    (pss_one (ps_ret (pe_callD D_joined hr_joined pass0 (pa_cons (pv 2) (pa_cons (pe_callD D_value hr_value pass0 (pa_cons (pe_ix ix_seq (pv 0) pe_int (fun _ _ => rfl)) (pa_cons (pv 1) pa_nil))) (pa_cons (pe_callD D_value hr_value pass0 (pa_cons (pe_ix ix_seq (pv 0) pe_int (fun _ _ => rfl)) (pa_cons (pv 1) pa_nil))) pa_nil))))))))))))))), ?_⟩
  cases G with
  | num i =>
    obtain ⟨a, _, rfl, hT, _, _, rfl, rfl, _, _, rfl, rfl, rfl⟩ := hF
    walk_at "rx"
    exact q _ H (Fr.refl _ _) rfl
  | s0 =>
    obtain ⟨a, _, rfl, hT, _, _, rfl, rfl, _, _, rfl, rfl, rfl⟩ := hF
    obtain ⟨p, r, rfl, sT, sL⟩ := id hS
    walk_at "rx"
    exact .inl ⟨_, rfl, q _ H (Fr.refl _ _) rfl⟩
  | s1 =>
    obtain ⟨a, _, rfl, hT, _, _, rfl, rfl, _, _, rfl, rfl, rfl⟩ := hF
    obtain ⟨p, r, rfl, sT, sL⟩ := id hS
    walk_at "rx"
    exact .inl ⟨_, rfl, q _ H (Fr.refl _ _) rfl⟩
  | s2 =>
    obtain ⟨a, _, rfl, hT, _, _, rfl, rfl, _, _, rfl, rfl, rfl⟩ := hF
    obtain ⟨p, r, rfl, sT, sL⟩ := id hS
    walk_at "rx"
    exact .inl ⟨_, rfl, q _ H (Fr.refl _ _) rfl⟩
  | row3 =>
    obtain ⟨a, _, rfl, hT, _, _, rfl, rfl, _, _, rfl, rfl, rfl⟩ := hF
    obtain ⟨p, r, rfl, sT, sL⟩ := id hS
    walk_at "rx"
    exact .inr ⟨r, _, rfl, sL, fun p H2 fp f2 e2 => q _ H2 f2 ⟨p, rfl, fp, e2⟩⟩
  | less u =>
    obtain ⟨a, _, rfl, hT, _, _, rfl, rfl, u1, _, rfl, hu, rfl⟩ := hF
    have hd1 : dep u + 1 < n + 1 := hd
    walk_at "rx"
    refine ⟨_, u, x, _, _, rfl, hu, hS, by omega, hfit, fun v H2 f2 hv => ?_⟩
    obtain rfl := hv
    walk_at "rx"
    refine q _ H2 f2 ?_
    show V.int (if ev u x - 1 > 0 then ev u x - 1 else 0) = V.int (if ev u x > 0 then ev u x - 1 else 0)
    refine congrArg V.int ?_
    exact less_eq (ev u x)
  | add u w =>
    obtain ⟨a, _, rfl, hT, _, _, rfl, rfl, u1, _, rfl, hu, w1, _, rfl, hw, rfl⟩ := hF
    have hd1 : max (dep u) (dep w) + 1 < n + 1 := hd
    walk_at "rx"
    refine ⟨_, u, x, _, _, rfl, hu, hS, by omega, hfit.1, fun v H2 f2 hv => ?_⟩
    obtain rfl := hv
    walk_at "rx"
    refine ⟨_, w, x, _, _, rfl, hw.mono f2.kp0, hS.mono f2, by omega, hfit.2, fun v H3 f3 hv => ?_⟩
    obtain rfl := hv
    walk_at "rx"
    exact .inl ⟨_, _, rfl, q _ H3 (f2.trans f3) rfl⟩
  | mul u w =>
    obtain ⟨a, _, rfl, hT, _, _, rfl, rfl, u1, _, rfl, hu, w1, _, rfl, hw, rfl⟩ := hF
    have hd1 : max (dep u) (dep w) + 1 < n + 1 := hd
    walk_at "rx"
    refine ⟨_, u, x, _, _, rfl, hu, hS, by omega, hfit.1, fun v H2 f2 hv => ?_⟩
    obtain rfl := hv
    walk_at "rx"
    refine ⟨_, w, x, _, _, rfl, hw.mono f2.kp0, hS.mono f2, by omega, hfit.2.1, fun v H3 f3 hv => ?_⟩
    obtain rfl := hv
    walk_at "rx"
    exact .inr (.inl ⟨_, _, rfl, hfit.2.2.1, hfit.2.2.2, q _ H3 (f2.trans f3) rfl⟩)
  | none =>
    obtain ⟨a, _, rfl, hT, _, _, rfl, rfl, rfl⟩ := hF
    walk_at "rx"
    exact rd_newL (by simp) fun p H2 fp f2 e2 => q _ H2 f2 ⟨p, rfl, fp, e2⟩
  | more u w =>
    obtain ⟨a, _, rfl, hT, _, _, rfl, rfl, u1, _, rfl, hu, w1, _, rfl, hw, rfl⟩ := hF
    have hd1 : max (dep u) (dep w) + 1 < n + 1 := hd
    walk_at "rx"
    refine ⟨_, u, x, _, _, rfl, hu, hS, by omega, hfit.1, fun v H2 f2 hv => ?_⟩
    obtain ⟨p, rfl, fp, ep⟩ := hv
    walk_at "rx"
    refine ⟨_, w, x, _, _, rfl, hw.mono f2.kp0, hS.mono f2, by omega, hfit.2.1, fun v H3 f3 hv => ?_⟩
    obtain rfl := hv
    walk_at "rx"
    refine .inr (.inr ⟨p, _, _, rfl, f3.at ep, by rw [List.length_map]; exact hfit.2.2, fun t H4 ft f4 et => ?_⟩)
    refine q _ H4 (f2.trans (f3.trans f4)) ⟨t, rfl, (f2.trans f3).free ft, ?_⟩
    rw [et, ← List.map_singleton, ← List.map_append]
    rfl
  | tuple u1 u2 u3 u4 =>
    obtain ⟨a, _, rfl, hT, _, _, rfl, rfl, _, _, rfl, ⟨b, _, rfl, hT2, w1, _, rfl, h1, w2, _, rfl, h2, w3, _, rfl, h3, w4, _, rfl, h4, rfl⟩, rfl⟩ := hF
    have hd1 : max (max (dep u1) (dep u2)) (max (dep u3) (dep u4)) + 1 < n + 1 := hd
    obtain ⟨g1, g2, g3, g4⟩ := hfit
    walk_at "rx"
    refine rd_lcT [w1, w2, w3, w4] fun D H1 fD f1 eD => ?_
    have hS1 := hS.mono f1
    let cs : List (Σ k, Fo k) := [⟨.num, u1⟩, ⟨.num, u2⟩, ⟨.num, u3⟩, ⟨.row, u4⟩]
    have look : ∀ (k : Nat) (y : V), [w1, w2, w3, w4][k]? = some y → ∃ c, cs[k]? = some c ∧ Rp K H (enc c.2) y ∧ dep c.2 < n ∧ Fits c.2 x := by
      intro k y hy
      match k, hy with
      | 0, hy => cases hy; exact ⟨_, rfl, h1, by show dep u1 < n; omega, g1⟩
      | 1, hy => cases hy; exact ⟨_, rfl, h2, by show dep u2 < n; omega, g2⟩
      | 2, hy => cases hy; exact ⟨_, rfl, h3, by show dep u3 < n; omega, g3⟩
      | 3, hy => cases hy; exact ⟨_, rfl, h4, by show dep u4 < n; omega, g4⟩
    refine ⟨fun k acc H' => Fr [] H H' ∧ Fr [D] H1 H' ∧ acc.length = k ∧ ∀ (i : Nat) (w : V) (c : Σ k, Fo k), acc[i]? = some w → cs[i]? = some c → ResAt K H1 H' c.1 w (ev c.2 x), ⟨f1, Fr.refl _ _, rfl, fun i w c h => by simp at h⟩, fun k acc H' _ p => p.1.tup0 hT2, fun k y acc H' hy e p => ?_, fun acc H' e p => ?_⟩
    · obtain ⟨f', fD1, hl, hp⟩ := p
      obtain ⟨c, hc, hR, hdc, hfc⟩ := look k y hy
      have hk : k < 4 := (List.getElem?_eq_some_iff.mp hy).1
      walk_at "rx"
      refine ⟨c.1, c.2, x, _, _, rfl, hR.mono f'.kp0, hS.mono f', hdc, hfc, fun v H2 f2 hv => ?_⟩
      refine rd_lcend (f2.at e) (by omega) fun H5 f5 k5 e5 => ?_
      have mv : ∀ {kk : Kd} {w : V} {z : Vl kk}, ResAt K H1 H2 kk w z → ResAt K H1 H5 kk w z := by
        intro kk w z h
        match kk, z, h with
        | .num, _, h => exact h
        | .row, _, ⟨p, e, m, h⟩ => exact ⟨p, e, m, f5.at h (by simp; rintro rfl; rw [eD] at m; cases m)⟩
        | .tup, _, ⟨p, r, e, s, m, h⟩ => exact ⟨p, r, e, k5.sq s, m, f5.at h (by simp; rintro rfl; rw [eD] at m; cases m)⟩
      refine ⟨(f'.trans f2).then1 f5 fD, (fD1.trans f2.nil).trans f5, by simp [hl], fun i w c' hi hc' => ?_⟩
      by_cases hlt : i < k
      · rw [List.getElem?_append_left (by omega)] at hi
        exact mv ((hp i w c' hi hc').mono f2)
      · have hik : i = k := by
          have := (List.getElem?_eq_some_iff.mp hi).1
          simp at this; omega
        subst hik
        rw [List.getElem?_append_right (by omega)] at hi
        have hw : v = w := by simpa [hl] using hi
        subst hw
        rw [hc] at hc'
        cases hc'
        exact mv (hv.backM fD1 e)
    · obtain ⟨f', fD1, hl, hp⟩ := p
      match acc, hl with
      | [y1, y2, y3, y4], _ =>
      have e1 : y1 = .int (ev u1 x) := hp 0 y1 ⟨.num, u1⟩ rfl rfl
      have e2 : y2 = .int (ev u2 x) := hp 1 y2 ⟨.num, u2⟩ rfl rfl
      have e3 : y3 = .int (ev u3 x) := hp 2 y3 ⟨.num, u3⟩ rfl rfl
      obtain ⟨r, e4, n4, h4'⟩ : ResAt K H1 H' .row y4 (ev u4 x) := hp 3 y4 ⟨.row, u4⟩ rfl rfl
      subst e1 e2 e3 e4
      walk_at "rx"
      refine rd_tupL (SqL.of e) fun l H2 fl f2 el => ?_
      exact q _ H2 (f'.trans f2) ⟨l, r, rfl, SqT.of el, f1.free n4, f2.at h4'⟩
  | wher t u w =>
    obtain ⟨a, _, rfl, hT, _, _, rfl, rfl, t1, _, rfl, ht, u1, _, rfl, hu, w1, _, rfl, hw, rfl⟩ := hF
    have hd1 : max (dep t) (max (dep u) (dep w)) + 1 < n + 1 := hd
    walk_at "rx"
    refine ⟨_, t, x, _, _, rfl, ht, hS, by omega, hfit.1, fun v H2 f2 hv => ?_⟩
    obtain rfl := hv
    walk_at "rx"
    by_cases h0 : ev t x = 0
    · refine ifF (by simp [h0]) ?_
      walk_at "rx"
      refine ⟨_, w, x, _, _, rfl, hw.mono f2.kp0, hS.mono f2, by omega, hfit.2.2, fun v H3 f3 hv => ?_⟩
      refine q v H3 (f2.trans f3) ?_
      show ResAt K H H3 _ v (if ev t x ≠ 0 then ev u x else ev w x)
      rw [if_neg (by simpa using h0)]
      exact hv.back f2
    · refine ifT (by simp [h0]) ?_
      walk_at "rx"
      refine ⟨_, u, x, _, _, rfl, hu.mono f2.kp0, hS.mono f2, by omega, hfit.2.1, fun v H3 f3 hv => ?_⟩
      refine q v H3 (f2.trans f3) ?_
      show ResAt K H H3 _ v (if ev t x ≠ 0 then ev u x else ev w x)
      rw [if_pos h0]
      exact hv.back f2
  | wit t u =>
    obtain ⟨a, _, rfl, hT, _, _, rfl, rfl, t1, _, rfl, ht, u1, _, rfl, hu, rfl⟩ := hF
    have hd1 : max (dep t) (dep u) + 1 < n + 1 := hd
    walk_at "rx"
    refine ⟨_, t, x, _, _, rfl, ht, hS, by omega, hfit.1, fun v H2 f2 hv => ?_⟩
    walk_at "rx"
    refine ⟨_, u, ev t x, _, _, rfl, hu.mono f2.kp0, hv.sl, by omega, hfit.2, fun v H3 f3 hv => ?_⟩
    exact q v H3 (f2.trans f3) (hv.back f2)
  | fold m t g =>
    obtain ⟨a, _, rfl, hT, _, _, rfl, rfl, m1, _, rfl, hm, t1, _, rfl, ht, g1, _, rfl, hg, rfl⟩ := hF
    have hd1 : max (dep m) (max (dep t) (dep g)) + 1 < n + 1 := hd
    walk_at "rx"
    refine ⟨_, m, x, _, _, rfl, hm, hS, by omega, hfit.1, fun v H2 f2 hv => ?_⟩
    obtain rfl := hv
    walk_at "rx"
    refine ⟨_, t, x, _, _, rfl, ht.mono f2.kp0, hS.mono f2, by omega, hfit.2.1, fun v H3 f3 hv => ?_⟩
    walk_at "rx"
    refine ⟨_, g, ev t x, H, _, _, rfl, hg.mono (f2.trans f3).kp0, f2.trans f3, hv.back f2, by omega, hfit.2.2.1, hfit.2.2.2.1, hfit.2.2.2.2, fun v H4 f4 hv => ?_⟩
    exact q v H4 (f2.trans (f3.trans f4)) hv
theorem ok_value (T : Blt mg) (n k : Nat) (F : Here K mg "value" s_value ["fold", "slots"]) (D_value : DefOk P w K mg base CX0 "value" ["fold", "slots"] k (spValue K n)) (D_turned : DefOk P w K mg base CX0 "turned" ["many", "begun", "inner"] (k + 1) (spTurned K n))
    (D_copied : DefOk P w K mg base CX0 "copied" ["one"] 1 (spCopied K)) (D_joined : DefOk P w K mg base CX0 "joined" ["word", "one", "other"] 1 spJoined) : DefOk P w K mg base CX0 "value" ["fold", "slots"] (k + 2) (spValue K (n + 1)) := by
  refine F.ok sc_value (fun vs H Q E h => ?_) (fun f cdv A outer s H vs Q E hr h => bd_value T n k D_value D_turned D_copied D_joined hr h)
  obtain ⟨_, _, _, _, _, rfl, _⟩ := h; rfl
/-- the tuple of the row alone -/
def spRowT (K : PySem.W.Frag) : Sp := fun vs H Q _ => ∃ (s : Sl) (fv sv : V), vs = [fv, sv] ∧ Rp K H (.tup [.str "tuple", .tup [enc .row3]]) fv ∧ SlAt K H sv s ∧ s.r.length ≤ 900 ∧ ∀ t r H2, Fr [] H H2 → SqT K H2 t [.ref r] → H r = none → H2 r = some (.lst (s.r.map V.int)) → Q (.ref t) H2
theorem ok_valueB (T : Blt mg) (n k : Nat) (F : Here K mg "value" s_value ["fold", "slots"]) (D_value : DefOk P w K mg base CX0 "value" ["fold", "slots"] k (spValue K (n + 1))) (D_turned : DefOk P w K mg base CX0 "turned" ["many", "begun", "inner"] (k + 1) (spTurned K (n + 1)))
    (D_copied : DefOk P w K mg base CX0 "copied" ["one"] 1 (spCopied K)) (D_joined : DefOk P w K mg base CX0 "joined" ["word", "one", "other"] 1 spJoined) : DefOk P w K mg base CX0 "value" ["fold", "slots"] (k + 2) (fun vs H Q E => spValue K (n + 2) vs H Q E ∨ spRowT K vs H Q E) := by
  refine F.ok sc_value (fun vs H Q E h => ?_) (fun f cdv A outer s H vs Q E hr h => ?_)
  · rcases h with ⟨_, _, _, _, _, rfl, _⟩ | ⟨_, _, _, rfl, _⟩ <;> rfl
  rcases h with h | ⟨x, fv, sv, rfl, hF, hS, hlen, q⟩
  · exact bd_value T (n + 1) k D_value D_turned D_copied D_joined hr h
  have hu64 := hr.units
  have hr_value := hr.mono (j := k) (by omega)
  have hr_turned := hr
  have hr_copied := hr.mono (j := 1) (by omega)
  have hr_joined := hr.mono (j := 1) (by omega)
  refine ⟨_, (pss_cons (ps_set (i := 2) sc_value.nd rfl (Or.inl rfl) (pe_ix ix_seq (pv 0) pe_int (fun _ _ => rfl)))
    (pss_cons (ps_if (pt_cmpR (op_eqA hu64) (pv 2) pe_str (nomark _))
    (pss_one (ps_ret (pe_ix ix_seq (pv 0) pe_int (fun _ _ => rfl))))
    pss_nil)
    (pss_cons (ps_if (pt_cmpR (op_eqA hu64) (pv 2) pe_str (nomark _))
    (pss_one (ps_ret (pe_callD D_copied hr_copied pass0 (pa_cons (pe_ix ix_seq (pv 1) (pe_ix ix_seq (pv 0) pe_int (fun _ _ => rfl)) (fun _ _ => rfl)) pa_nil))))
    pss_nil)
    (pss_cons (ps_if (pt_cmpR (op_eqA hu64) (pv 2) pe_str (nomark _))
    (pss_one (ps_ret (pe_lst pa_nil)))
    pss_nil)
    (pss_cons (ps_if (pt_cmpR (op_eqA hu64) (pv 2) pe_str (nomark _))
    (pss_one (ps_ret (pe_callTy call_tupleA (by rfl) T.n_tuple (by decide +kernel) (pa_cons (pe_lc (own := [("part", 3)]) (g := gName 3) (tt := tYes) rfl sc_value.nd (pi_tup (pe_ix ix_seq (pv 0) pe_int (fun _ _ => rfl))) (blkOk_by (own := [("part", 3)]) (N := N_value) (sc := defScope s_value) (by decide +kernel)) (fun _ _ _ _ _ => (pg_name (i := 3) sc_value.nd rfl (Or.inl rfl))) (fun _ _ _ _ _ => pts_nil) (fun _ _ _ _ _ => (pe_callD D_value hr_value pass0 (pa_cons (pv 3) (pa_cons (pv 1) pa_nil))))) pa_nil))))
    pss_nil)
    (pss_cons (ps_if (pt_cmpR (op_eqA hu64) (pv 2) pe_str (nomark _))
    (pss_one (ps_ret (pe_ifExp (pt_cmpR (op_neA hu64) (pe_callD D_value hr_value pass0 (pa_cons (pe_ix ix_seq (pv 0) pe_int (fun _ _ => rfl)) (pa_cons (pv 1) pa_nil))) pe_int (nomark _)) (pe_callD D_value hr_value pass0 (pa_cons (pe_ix ix_seq (pv 0) pe_int (fun _ _ => rfl)) (pa_cons (pv 1) pa_nil))) (pe_callD D_value hr_value pass0 (pa_cons (pe_ix ix_seq (pv 0) pe_int (fun _ _ => rfl)) (pa_cons (pv 1) pa_nil))))))
    pss_nil)
    (pss_cons (ps_if (pt_cmpR (op_eqA hu64) (pv 2) pe_str (nomark _))
    (pss_one (ps_ret (pe_callD D_value hr_value pass0 (pa_cons (pe_ix ix_seq (pv 0) pe_int (fun _ _ => rfl)) (pa_cons (pe_callD D_value hr_value pass0 (pa_cons (pe_ix ix_seq (pv 0) pe_int (fun _ _ => rfl)) (pa_cons (pv 1) pa_nil))) pa_nil)))))
    pss_nil)
    (pss_cons (ps_if (pt_cmpR (op_eqA hu64) (pv 2) pe_str (nomark _))
    (pss_one (ps_ret (pe_callD D_turned hr_turned pass0 (pa_cons (pe_callD D_value hr_value pass0 (pa_cons (pe_ix ix_seq (pv 0) pe_int (fun _ _ => rfl)) (pa_cons (pv 1) pa_nil))) (pa_cons (pe_callD D_value hr_value pass0 (pa_cons (pe_ix ix_seq (pv 0) pe_int (fun _ _ => rfl)) (pa_cons (pv 1) pa_nil))) (pa_cons (pe_ix ix_seq (pv 0) pe_int (fun _ _ => rfl)) pa_nil))))))
    pss_nil)
    (pss_cons (ps_if (pt_cmpR (op_eqA hu64) (pv 2) pe_str (nomark _))
    (pss_one (ps_ret (pe_callB (call_max2A rfl) (by rfl) T.n_max (by decide +kernel) (pa_cons pe_int (pa_cons (pe_op op_sub (pe_callD D_value hr_value pass0 (pa_cons (pe_ix ix_seq (pv 0) pe_int (fun _ _ => rfl)) (pa_cons (pv 1) pa_nil))) pe_int) pa_nil)))))
    pss_nil)
    (pss_one (ps_ret (pe_callD D_joined hr_joined pass0 (pa_cons (pv 2) (pa_cons (pe_callD D_value hr_value pass0 (pa_cons (pe_ix ix_seq (pv 0) pe_int (fun _ _ => rfl)) (pa_cons (pv 1) pa_nil))) (pa_cons (pe_callD D_value hr_value pass0 (pa_cons (pe_ix ix_seq (pv 0) pe_int (fun _ _ => rfl)) (pa_cons (pv 1) pa_nil))) pa_nil))))))))))))))), ?_⟩
  obtain ⟨a, _, rfl, hT, _, _, rfl, rfl, _, _, rfl, ⟨b, _, rfl, hT2, w1, _, rfl, h1, rfl⟩, rfl⟩ := hF
  walk_at "rx"
  refine rd_lcT [w1] fun D H1 fD f1 eD => ?_
  refine ⟨fun k acc H' => Fr [] H H' ∧ Fr [D] H1 H' ∧ acc.length = k ∧ ∀ y ∈ acc, ResAt K H1 H' .row y x.r, ⟨f1, Fr.refl _ _, rfl, by simp⟩, fun k acc H' _ p => p.1.tup0 hT2, fun k y acc H' hy e ⟨f', fD1, hl, hp⟩ => ?_, fun acc H' e ⟨f', fD1, hl, hp⟩ => ?_⟩
  · have hk : k = 0 := by have := (List.getElem?_eq_some_iff.mp hy).1; simp at this; omega
    subst hk
    cases hy
    match acc, hl with
    | [], _ =>
    walk_at "rx"
    refine ⟨.row, .row3, x, _, _, rfl, h1.mono f'.kp0, hS.mono f', Nat.succ_pos _, hlen, fun v H2 f2 hv => ?_⟩
    refine rd_lcend (f2.at e) (by simp) fun H5 f5 k5 e5 => ?_
    refine ⟨(f'.trans f2).then1 f5 fD, (fD1.trans f2.nil).trans f5, rfl, fun z hz => ?_⟩
    have hz : z = v := by simpa using hz
    subst hz
    obtain ⟨p, rfl, m, hp2⟩ := hv.backM fD1 e
    exact ⟨p, rfl, m, f5.at hp2 (by simp; rintro rfl; rw [eD] at m; cases m)⟩
  · match acc, hl with
    | [y], _ =>
    obtain ⟨r, rfl, n4, h4⟩ := hp y (by simp)
    walk_at "rx"
    refine rd_tupL (SqL.of e) fun l H2 fl f2 el => ?_
    exact q l r H2 (f'.trans f2) (SqT.of el) (f1.free n4) (f2.at h4)
/-- nothing is asked at depth none -/
theorem ok_value0 (F : Here K mg "value" s_value ["fold", "slots"]) : DefOk P w K mg base CX0 "value" ["fold", "slots"] 2 (spValue K 0) := by
  obtain ⟨f, fd, F, hm, hb⟩ := F.ex
  have no : ∀ vs H Q E, ¬ spValue K 0 vs H Q E := fun vs H Q E h => by
    obtain ⟨_, _, _, _, _, _, _, _, hd, _⟩ := h
    exact absurd hd (Nat.not_lt_zero _)
  exact ⟨f, fd, ⟨fun vs H Q E h => absurd h (no vs H Q E), fun A outer s H args us vs Q E _ _ _ _ h => absurd h (no vs H Q E)⟩, F.kp, hb, hm⟩
theorem ok_values (T : Blt mg) (FV : Here K mg "value" s_value ["fold", "slots"]) (FT : Here K mg "turned" s_turned ["many", "begun", "inner"]) (FC : Here K mg "copied" s_copied ["one"]) (FJ : Here K mg "joined" s_joined ["word", "one", "other"]) :
    ∀ n, DefOk P w K mg base CX0 "value" ["fold", "slots"] (2 * n + 2) (spValue K n)
  | 0 => ok_value0 FV
  | n + 1 => by
    have ih := ok_values T FV FT FC FJ n
    exact ok_value T n (2 * n + 2) FV ih (ok_turned T n (2 * n + 2) FT ih) (ok_copied T FC) (ok_joined FJ)
end
end Lf
namespace Lf
open PySem PySem.Spec PyProof.Rows L2
/-! ### the law's own reckoning of folds, walked -/
/-- slots whose row lies at r -/
def SlR (K : PySem.W.Frag) (H : Hp) (v : V) (r : Addr) (s : Sl) : Prop := ∃ p, v = .ref p ∧ SqT K H p [.int s.a, .int s.b, .int s.c, .ref r] ∧ SqL K H r (s.r.map V.int)
/-- a row: the slots' own at r0, or new since H0 -/
def RowR (H0 H : Hp) (r0 : Addr) (xs : List V) (p : Addr) (ys : List V) : Prop := (p = r0 ∧ ys = xs) ∨ (H0 p = none ∧ H p = some (.lst ys))
def DatR (K : PySem.W.Frag) (H0 H : Hp) (r0 : Addr) (s : Sl) : (k : Kd) → V → Vl k → Prop
  | .num, v, x => v = .int x
  | .row, v, x => ∃ p, v = .ref p ∧ RowR H0 H r0 (s.r.map V.int) p ((show List Int from x).map V.int)
  | .tup, v, x => ∃ p r, v = .ref p ∧ SqT K H p [.int (show Sl from x).a, .int (show Sl from x).b, .int (show Sl from x).c, .ref r] ∧ RowR H0 H r0 (s.r.map V.int) r ((show Sl from x).r.map V.int)
section
variable {K : PySem.W.Frag} {H0 H H1 H2 : Hp} {r0 p q : Addr} {xs ys zs : List V} {v : V} {s : Sl}
theorem RowR.sq (h : RowR H0 H r0 xs p ys) (f : Fr [] H0 H) (e : SqL K H0 r0 xs) : SqL K H p ys := by
  rcases h with ⟨rfl, rfl⟩ | ⟨_, h⟩
  · exact f.seq0 e
  · exact SqL.of h
theorem RowR.mono (h : RowR H0 H r0 xs p ys) (f : Fr [] H H1) : RowR H0 H1 r0 xs p ys := by
  rcases h with h | ⟨n, h⟩
  · exact .inl h
  · exact .inr ⟨n, f.at h⟩
theorem RowR.back0 (h : RowR H1 H r0 xs p ys) (f : Fr [] H0 H1) : RowR H0 H r0 xs p ys := by
  rcases h with h | ⟨n, h⟩
  · exact .inl h
  · exact .inr ⟨f.free n, h⟩
theorem RowR.comp (h : RowR H0 H1 r0 xs p ys) (f : Fr [] H0 H1) (g : Fr [] H1 H2) (k : RowR H1 H2 p ys q zs) : RowR H0 H2 r0 xs q zs := by
  rcases k with ⟨rfl, rfl⟩ | ⟨n, k⟩
  · exact h.mono g
  · exact .inr ⟨f.free n, k⟩
theorem SlR.mono {r : Addr} (h : SlR K H v r s) (f : Fr [] H H1) : SlR K H1 v r s := by
  obtain ⟨p, rfl, a, b⟩ := h
  exact ⟨p, rfl, f.tup0 a, f.seq0 b⟩
theorem SlR.at {r : Addr} (h : SlR K H v r s) : SlAt K H v s := by
  obtain ⟨p, rfl, a, b⟩ := h
  exact ⟨p, r, rfl, a, b⟩
theorem DatR.back0 (f : Fr [] H0 H1) : {k : Kd} → {v : V} → {x : Vl k} → DatR K H1 H r0 s k v x → DatR K H0 H r0 s k v x
  | .num, _, _, h => h
  | .row, _, _, ⟨p, e, h⟩ => ⟨p, e, h.back0 f⟩
  | .tup, _, _, ⟨p, r, e, t, h⟩ => ⟨p, r, e, t, h.back0 f⟩
theorem DatR.mono (f : Fr [] H H1) : {k : Kd} → {v : V} → {x : Vl k} → DatR K H0 H r0 s k v x → DatR K H0 H1 r0 s k v x
  | .num, _, _, h => h
  | .row, _, _, ⟨p, e, h⟩ => ⟨p, e, h.mono f⟩
  | .tup, _, _, ⟨p, r, e, t, h⟩ => ⟨p, r, e, f.tup0 t, h.mono f⟩
theorem DatR.backM {H' : Hp} {D : Addr} {o : HO} (f : Fr [D] H1 H') (e : H' D = some o) {k : Kd} {v : V} {x : Vl k} (h : DatR K H' H r0 s k v x) : DatR K H1 H r0 s k v x := by
  have key : ∀ p, H' p = none → H1 p = none := fun p hp => by
    cases z : H1 p with
    | none => rfl
    | some u =>
      have hne : p ≠ D := fun c => by subst c; rw [e] at hp; cases hp
      rw [f.at z (by simpa using hne)] at hp; cases hp
  have row : ∀ p ys, RowR H' H r0 (s.r.map V.int) p ys → RowR H1 H r0 (s.r.map V.int) p ys := fun p ys h => by
    rcases h with h | ⟨n, h⟩
    · exact .inl h
    · exact .inr ⟨key p n, h⟩
  match k, x, h with
  | .num, _, h => exact h
  | .row, _, ⟨p, e, h⟩ => exact ⟨p, e, row _ _ h⟩
  | .tup, _, ⟨p, r, e, t, h⟩ => exact ⟨p, r, e, t, row _ _ h⟩
/-- a tuple that came back, as slots -/
theorem DatR.slots (f : Fr [] H0 H) (e : SqL K H0 r0 (s.r.map V.int)) {v : V} {x : Sl} (h : DatR K H0 H r0 s .tup v x) : ∃ r, SlR K H v r x ∧ RowR H0 H r0 (s.r.map V.int) r (x.r.map V.int) := by
  obtain ⟨p, r, rfl, t, h⟩ := h
  exact ⟨r, ⟨p, rfl, t, h.sq f e⟩, h⟩
/-- what is reckoned upon such slots -/
theorem DatR.comp {r : Addr} {x : Sl} (h : RowR H0 H1 r0 (s.r.map V.int) r (x.r.map V.int)) (f : Fr [] H0 H1) (g : Fr [] H1 H2) : {k : Kd} → {v : V} → {y : Vl k} → DatR K H1 H2 r x k v y → DatR K H0 H2 r0 s k v y
  | .num, _, _, k => k
  | .row, _, _, ⟨p, e, k⟩ => ⟨p, e, h.comp f g k⟩
  | .tup, _, _, ⟨p, r, e, t, k⟩ => ⟨p, r, e, t, h.comp f g k⟩
end
def spCome (K : PySem.W.Frag) (n : Nat) : Sp := fun vs H Q _ => ∃ (k : Kd) (F : Fo k) (s : Sl) (r0 : Addr) (fv sv : V), vs = [fv, sv] ∧ Rp K H (enc F) fv ∧ SlR K H sv r0 s ∧ dep F < n ∧ Fits F s ∧ ∀ v H2, Fr [] H H2 → DatR K H H2 r0 s k v (ev F s) → Q v H2
section
variable {P : Program} {w : World} {K : PySem.W.Frag} {mg : Str → Option Value} {base : Heap}
abbrev s__law_come_to : Stmt := top 11
abbrev N__law_come_to : List Str := ["_law_fold", "_law_slots", "_law_word", "_law_part", "_law_one", "_law_other", "_law_turn"]
theorem sc__law_come_to : FnScope N__law_come_to ["_law_fold", "_law_slots"] (defScope s__law_come_to) := ⟨rfl, rfl, rfl, by decide +kernel, rfl, by decide +kernel, by decide +kernel⟩
theorem ok_come (T : Blt mg) (n k : Nat) (F : Here K mg "_law_come_to" s__law_come_to ["_law_fold", "_law_slots"]) (D__law_come_to : DefOk P w K mg base CX0 "_law_come_to" ["_law_fold", "_law_slots"] k (spCome K n)) : DefOk P w K mg base CX0 "_law_come_to" ["_law_fold", "_law_slots"] (k + 1) (spCome K (n + 1)) := by
  refine F.ok sc__law_come_to (fun vs H Q E h => ?_) (fun f cdv A outer s H vs Q E hr h => ?_)
  · obtain ⟨_, _, _, _, _, _, rfl, _⟩ := h; rfl
  obtain ⟨kd, G, x, r0, fv, sv, rfl, hF, hS, hd, hfit, q⟩ := h
  have hu64 := hr.units
  have hr__law_come_to := hr
  have hrow : SqL K H r0 (x.r.map V.int) := by obtain ⟨_, _, _, e⟩ := hS; exact e
  refine ⟨_, (pss_cons (ps_set (i := 2) sc__law_come_to.nd rfl (Or.inl rfl) (pe_ix ix_seq (pv 0) pe_int (fun _ _ => rfl)))
    (pss_cons (ps_if (pt_cmpR (op_eqA hu64) (pv 2) pe_str (nomark _))
    (pss_one (ps_ret (pe_callTy call_tupleA (by rfl) T.n_tuple (by decide +kernel) (pa_cons (pe_lc (own := [("_law_part", 3)]) (g := gName 3) (tt := tYes) rfl sc__law_come_to.nd (pi_tup (pe_ix ix_seq (pv 0) pe_int (fun _ _ => rfl))) (blkOk_by (own := [("_law_part", 3)]) (N := N__law_come_to) (sc := defScope s__law_come_to) (by decide +kernel)) (fun _ _ _ _ _ => (pg_name (i := 3) sc__law_come_to.nd rfl (Or.inl rfl))) (fun _ _ _ _ _ => pts_nil) (fun _ _ _ _ _ => (pe_callD D__law_come_to hr__law_come_to pass0 (pa_cons (pv 3) (pa_cons (pv 1) pa_nil))))) pa_nil))))
    pss_nil)
    (pss_cons (ps_if (pt_cmpR op_in_seq (pv 2) (pe_tup (pa_cons pe_str (pa_cons pe_str pa_nil))) (by rfl))
    (pss_one (ps_ret (pe_ifExp (pt_cmpR (op_eqA hu64) (pv 2) pe_str (nomark _)) (pe_ix ix_seq (pv 0) pe_int (fun _ _ => rfl)) (pe_ix ix_seq (pv 1) (pe_ix ix_seq (pv 0) pe_int (fun _ _ => rfl)) (fun _ _ => rfl)))))
    pss_nil)
    (pss_cons (ps_if (pt_cmpR (op_eqA hu64) (pv 2) pe_str (nomark _))
    (pss_one (ps_ret (pe_lst pa_nil)))
    pss_nil)
    (pss_cons (ps_set (i := 4) sc__law_come_to.nd rfl (Or.inl rfl) (pe_callD D__law_come_to hr__law_come_to pass0 (pa_cons (pe_ix ix_seq (pv 0) pe_int (fun _ _ => rfl)) (pa_cons (pv 1) pa_nil))))
    (pss_cons (ps_if (pt_cmpR (op_eqA hu64) (pv 2) pe_str (nomark _))
    (pss_one (ps_ret (pe_ifExp (pt_cmpR op_gt (pv 4) pe_int (nomark _)) (pe_op op_sub (pv 4) pe_int) pe_int)))
    pss_nil)
    (pss_cons (ps_if (pt_cmpR (op_eqA hu64) (pv 2) pe_str (nomark _))
    (pss_one (ps_ret (pe_callD D__law_come_to hr__law_come_to pass0 (pa_cons (pe_ix ix_seq (pv 0) (pe_op op_sub pe_int (pe_callTy call_intA (by rfl) T.n_int (by decide +kernel) (pa_cons (pe_cmpR (op_neA hu64) (pv 4) pe_int (nomark _)) pa_nil))) (fun _ _ => rfl)) (pa_cons (pv 1) pa_nil)))))
    pss_nil)
    (pss_cons (ps_if (pt_cmpR (op_eqA hu64) (pv 2) pe_str (nomark _))
    (pss_one (ps_ret (pe_callD D__law_come_to hr__law_come_to pass0 (pa_cons (pe_ix ix_seq (pv 0) pe_int (fun _ _ => rfl)) (pa_cons (pv 4) pa_nil)))))
    pss_nil)
    (pss_cons (ps_set (i := 5) sc__law_come_to.nd rfl (Or.inl rfl) (pe_callD D__law_come_to hr__law_come_to pass0 (pa_cons (pe_ix ix_seq (pv 0) pe_int (fun _ _ => rfl)) (pa_cons (pv 1) pa_nil))))
    (pss_cons (ps_if (pt_cmpR (op_eqA hu64) (pv 2) pe_str (nomark _))
    (pss_cons (ps_for PassesOwn.never rfl (pi_range1 (by rfl) T.n_range (pa_cons (pv 4) pa_nil)) (pg_name (i := 6) sc__law_come_to.nd rfl (Or.inl rfl))
    (pss_one (ps_set (i := 5) sc__law_come_to.nd rfl (Or.inl rfl) (pe_callD D__law_come_to hr__law_come_to pass0 (pa_cons (pe_ix ix_seq (pv 0) pe_int (fun _ _ => rfl)) (pa_cons (pv 5) pa_nil))))))
    (pss_one (ps_ret (pv 5))))
    pss_nil)
    (pss_cons (ps_if (pt_cmpR (op_eqA hu64) (pv 2) pe_str (nomark _))
    (pss_one (ps_ret (pe_op op_plus (pe_callTy call_listA (by rfl) T.n_list (by decide +kernel) (pa_cons (pv 4) pa_nil)) (pe_lst (pa_cons (pv 5) pa_nil)))))
    pss_nil)
    (pss_one (ps_ret (pe_ifExp (pt_cmpR (op_eqA hu64) (pv 2) pe_str (nomark _)) (pe_op op_plus (pv 4) (pv 5)) (pe_op op_timesA (pv 4) (pv 5)))))))))))))))), ?_⟩
  cases G with
  | num i =>
    obtain ⟨a, _, rfl, hT, _, _, rfl, rfl, _, _, rfl, rfl, rfl⟩ := hF
    walk_at "rx"
    refine rd_newT (by simp) fun t H1 ft f1 et => ?_
    refine rd_inT (SqT.of et) rfl rfl ?_
    walk_at "rx"
    exact q _ H1 f1 rfl
  | s0 =>
    obtain ⟨a, _, rfl, hT, _, _, rfl, rfl, _, _, rfl, rfl, rfl⟩ := hF
    obtain ⟨p, rfl, sT, sL⟩ := id hS
    walk_at "rx"
    refine rd_newT (by simp) fun t H1 ft f1 et => ?_
    refine rd_inT (SqT.of et) rfl rfl ?_
    walk_at "rx"
    exact q _ H1 f1 rfl
  | s1 =>
    obtain ⟨a, _, rfl, hT, _, _, rfl, rfl, _, _, rfl, rfl, rfl⟩ := hF
    obtain ⟨p, rfl, sT, sL⟩ := id hS
    walk_at "rx"
    refine rd_newT (by simp) fun t H1 ft f1 et => ?_
    refine rd_inT (SqT.of et) rfl rfl ?_
    walk_at "rx"
    exact q _ H1 f1 rfl
  | s2 =>
    obtain ⟨a, _, rfl, hT, _, _, rfl, rfl, _, _, rfl, rfl, rfl⟩ := hF
    obtain ⟨p, rfl, sT, sL⟩ := id hS
    walk_at "rx"
    refine rd_newT (by simp) fun t H1 ft f1 et => ?_
    refine rd_inT (SqT.of et) rfl rfl ?_
    walk_at "rx"
    exact q _ H1 f1 rfl
  | row3 =>
    obtain ⟨a, _, rfl, hT, _, _, rfl, rfl, _, _, rfl, rfl, rfl⟩ := hF
    obtain ⟨p, rfl, sT, sL⟩ := id hS
    walk_at "rx"
    refine rd_newT (by simp) fun t H1 ft f1 et => ?_
    refine rd_inT (SqT.of et) rfl rfl ?_
    walk_at "rx"
    exact q _ H1 f1 ⟨r0, rfl, .inl ⟨rfl, rfl⟩⟩
  | less u =>
    obtain ⟨a, _, rfl, hT, _, _, rfl, rfl, u1, _, rfl, hu, rfl⟩ := hF
    have hd1 : dep u + 1 < n + 1 := hd
    walk_at "rx"
    refine rd_newT (by simp) fun t0 H1 ft f1 et => ?_
    refine rd_inT (SqT.of et) rfl rfl ?_
    walk_at "rx"
    refine ⟨_, u, x, r0, _, _, rfl, hu.mono f1.kp0, hS.mono f1, by omega, hfit, fun v H2 f2 hv => ?_⟩
    obtain rfl := hv
    walk_at "rx"
    refine ite2 (fun hc => ?_) (fun hc => ?_)
    · have hc : ev u x > 0 := of_decide_eq_true hc
      walk_at "rx"
      refine q _ H2 (f1.trans f2) ?_
      show V.int _ = V.int (if ev u x > 0 then ev u x - 1 else 0)
      rw [if_pos hc]
    · have hc : ¬ (ev u x > 0) := fun z => hc (decide_eq_true z)
      walk_at "rx"
      refine q _ H2 (f1.trans f2) ?_
      show V.int _ = V.int (if ev u x > 0 then ev u x - 1 else 0)
      rw [if_neg hc]
  | add u w =>
    obtain ⟨a, _, rfl, hT, _, _, rfl, rfl, u1, _, rfl, hu, w1, _, rfl, hw, rfl⟩ := hF
    have hd1 : max (dep u) (dep w) + 1 < n + 1 := hd
    walk_at "rx"
    refine rd_newT (by simp) fun t0 H1 ft f1 et => ?_
    refine rd_inT (SqT.of et) rfl rfl ?_
    walk_at "rx"
    refine ⟨_, u, x, r0, _, _, rfl, hu.mono f1.kp0, hS.mono f1, by omega, hfit.1, fun v H2 f2 hv => ?_⟩
    obtain rfl := hv
    walk_at "rx"
    refine ⟨_, w, x, r0, _, _, rfl, hw.mono (f1.trans f2).kp0, hS.mono (f1.trans f2), by omega, hfit.2, fun v H3 f3 hv => ?_⟩
    obtain rfl := hv
    walk_at "rx"
    exact q _ H3 (f1.trans (f2.trans f3)) rfl
  | mul u w =>
    obtain ⟨a, _, rfl, hT, _, _, rfl, rfl, u1, _, rfl, hu, w1, _, rfl, hw, rfl⟩ := hF
    have hd1 : max (dep u) (dep w) + 1 < n + 1 := hd
    walk_at "rx"
    refine rd_newT (by simp) fun t0 H1 ft f1 et => ?_
    refine rd_inT (SqT.of et) rfl rfl ?_
    walk_at "rx"
    refine ⟨_, u, x, r0, _, _, rfl, hu.mono f1.kp0, hS.mono f1, by omega, hfit.1, fun v H2 f2 hv => ?_⟩
    obtain rfl := hv
    walk_at "rx"
    refine ⟨_, w, x, r0, _, _, rfl, hw.mono (f1.trans f2).kp0, hS.mono (f1.trans f2), by omega, hfit.2.1, fun v H3 f3 hv => ?_⟩
    obtain rfl := hv
    walk_at "rx"
    refine rd_mulW 400000 400000 hfit.2.2.1 hfit.2.2.2 (by decide) ?_
    exact q _ H3 (f1.trans (f2.trans f3)) rfl
  | none =>
    obtain ⟨a, _, rfl, hT, _, _, rfl, rfl, rfl⟩ := hF
    walk_at "rx"
    refine rd_newT (by simp) fun t0 H1 ft f1 et => ?_
    refine rd_inT (SqT.of et) rfl rfl ?_
    walk_at "rx"
    exact rd_newL (by simp) fun p H2 fp f2 e2 => q _ H2 (f1.trans f2) ⟨p, rfl, .inr ⟨f1.free fp, e2⟩⟩
  | more u w =>
    obtain ⟨a, _, rfl, hT, _, _, rfl, rfl, u1, _, rfl, hu, w1, _, rfl, hw, rfl⟩ := hF
    have hd1 : max (dep u) (dep w) + 1 < n + 1 := hd
    walk_at "rx"
    refine rd_newT (by simp) fun t0 H1 ft f1 et => ?_
    refine rd_inT (SqT.of et) rfl rfl ?_
    walk_at "rx"
    refine ⟨_, u, x, r0, _, _, rfl, hu.mono f1.kp0, hS.mono f1, by omega, hfit.1, fun v H2 f2 hv => ?_⟩
    obtain ⟨p, rfl, hp⟩ := hv
    have hL := (hp.back0 f1).sq (f1.trans f2) hrow
    walk_at "rx"
    refine ⟨_, w, x, r0, _, _, rfl, hw.mono (f1.trans f2).kp0, hS.mono (f1.trans f2), by omega, hfit.2.1, fun v H3 f3 hv => ?_⟩
    obtain rfl := hv
    walk_at "rx"
    refine rd_list (f3.seq0 hL) fun l H4 fl f4 el => ?_
    walk_at "rx"
    refine rd_newL (by simp) fun m H5 fm f5 em => ?_
    refine rd_plusL (f5.at el) em (Nat.le_of_lt (small1000 (by have := hfit.2.2; simp; omega))) fun t H6 ft f6 et => ?_
    have F6 := f1.trans (f2.trans (f3.trans (f4.trans (f5.trans f6))))
    have F5 := f1.trans (f2.trans (f3.trans (f4.trans f5)))
    refine q _ H6 F6 ⟨t, rfl, .inr ⟨F5.free ft, ?_⟩⟩
    rw [et, ← List.map_singleton, ← List.map_append]
    rfl
  | tuple u1 u2 u3 u4 =>
    obtain ⟨a, _, rfl, hT, _, _, rfl, rfl, _, _, rfl, ⟨b, _, rfl, hT2, w1, _, rfl, h1, w2, _, rfl, h2, w3, _, rfl, h3, w4, _, rfl, h4, rfl⟩, rfl⟩ := hF
    have hd1 : max (max (dep u1) (dep u2)) (max (dep u3) (dep u4)) + 1 < n + 1 := hd
    obtain ⟨g1, g2, g3, g4⟩ := hfit
    walk_at "rx"
    refine rd_lcT [w1, w2, w3, w4] fun D H1 fD f1 eD => ?_
    have hS1 := hS.mono f1
    let cs : List (Σ k, Fo k) := [⟨.num, u1⟩, ⟨.num, u2⟩, ⟨.num, u3⟩, ⟨.row, u4⟩]
    have look : ∀ (k : Nat) (y : V), [w1, w2, w3, w4][k]? = some y → ∃ c, cs[k]? = some c ∧ Rp K H (enc c.2) y ∧ dep c.2 < n ∧ Fits c.2 x := by
      intro k y hy
      match k, hy with
      | 0, hy => cases hy; exact ⟨_, rfl, h1, by show dep u1 < n; omega, g1⟩
      | 1, hy => cases hy; exact ⟨_, rfl, h2, by show dep u2 < n; omega, g2⟩
      | 2, hy => cases hy; exact ⟨_, rfl, h3, by show dep u3 < n; omega, g3⟩
      | 3, hy => cases hy; exact ⟨_, rfl, h4, by show dep u4 < n; omega, g4⟩
    refine ⟨fun k acc H' => Fr [] H H' ∧ Fr [D] H1 H' ∧ acc.length = k ∧ ∀ (i : Nat) (w : V) (c : Σ k, Fo k), acc[i]? = some w → cs[i]? = some c → DatR K H1 H' r0 x c.1 w (ev c.2 x), ⟨f1, Fr.refl _ _, rfl, fun i w c h => by simp at h⟩, fun k acc H' _ p => p.1.tup0 hT2, fun k y acc H' hy e p => ?_, fun acc H' e p => ?_⟩
    · obtain ⟨f', fD1, hl, hp⟩ := p
      obtain ⟨c, hc, hR, hdc, hfc⟩ := look k y hy
      have hk : k < 4 := (List.getElem?_eq_some_iff.mp hy).1
      walk_at "rx"
      refine ⟨c.1, c.2, x, r0, _, _, rfl, hR.mono f'.kp0, hS.mono f', hdc, hfc, fun v H2 f2 hv => ?_⟩
      refine rd_lcend (f2.at e) (by omega) fun H5 f5 k5 e5 => ?_
      have F5 : Fr [] H H5 := (f'.trans f2).then1 f5 fD
      have mv : ∀ {kk : Kd} {w : V} {z : Vl kk}, DatR K H1 H2 r0 x kk w z → DatR K H1 H5 r0 x kk w z := by
        intro kk w z h
        have row : ∀ p ys, RowR H1 H2 r0 (x.r.map V.int) p ys → RowR H1 H5 r0 (x.r.map V.int) p ys := by
          intro p ys h
          rcases h with h | ⟨m, h⟩
          · exact .inl h
          · exact .inr ⟨m, f5.at h (by simp; rintro rfl; rw [eD] at m; cases m)⟩
        match kk, z, h with
        | .num, _, h => exact h
        | .row, _, ⟨p, e, h⟩ => exact ⟨p, e, row _ _ h⟩
        | .tup, _, ⟨p, r, e, s, h⟩ => exact ⟨p, r, e, k5.sq s, row _ _ h⟩
      refine ⟨F5, (fD1.trans f2.nil).trans f5, by simp [hl], fun i w c' hi hc' => ?_⟩
      by_cases hlt : i < k
      · rw [List.getElem?_append_left (by omega)] at hi
        exact mv ((hp i w c' hi hc').mono f2)
      · have hik : i = k := by
          have := (List.getElem?_eq_some_iff.mp hi).1
          simp at this; omega
        subst hik
        rw [List.getElem?_append_right (by omega)] at hi
        have hw : v = w := by simpa [hl] using hi
        subst hw
        rw [hc] at hc'
        cases hc'
        exact mv (hv.backM fD1 e)
    · obtain ⟨f', fD1, hl, hp⟩ := p
      match acc, hl with
      | [y1, y2, y3, y4], _ =>
      have e1 : y1 = .int (ev u1 x) := hp 0 y1 ⟨.num, u1⟩ rfl rfl
      have e2 : y2 = .int (ev u2 x) := hp 1 y2 ⟨.num, u2⟩ rfl rfl
      have e3 : y3 = .int (ev u3 x) := hp 2 y3 ⟨.num, u3⟩ rfl rfl
      obtain ⟨r, e4, h4'⟩ : DatR K H1 H' r0 x .row y4 (ev u4 x) := hp 3 y4 ⟨.row, u4⟩ rfl rfl
      subst e1 e2 e3 e4
      walk_at "rx"
      refine rd_tupL (SqL.of e) fun l H2 fl f2 el => ?_
      exact q _ H2 (f'.trans f2) ⟨l, r, rfl, SqT.of el, (h4'.back0 f1).mono f2⟩
  | wher t u w =>
    obtain ⟨a, _, rfl, hT, _, _, rfl, rfl, t1, _, rfl, ht, u1, _, rfl, hu, w1, _, rfl, hw, rfl⟩ := hF
    have hd1 : max (dep t) (max (dep u) (dep w)) + 1 < n + 1 := hd
    walk_at "rx"
    refine rd_newT (by simp) fun t0 H1 ft f1 et => ?_
    refine rd_inT (SqT.of et) rfl rfl ?_
    walk_at "rx"
    refine ⟨_, t, x, r0, _, _, rfl, ht.mono f1.kp0, hS.mono f1, by omega, hfit.1, fun v H2 f2 hv => ?_⟩
    obtain rfl := hv
    have F2 := f1.trans f2
    walk_at "rx"
    by_cases h0 : ev t x = 0
    · have e0 : (3 : Int) - (if (!decide (V.int (ev t x) = V.int 0)) = true then 1 else 0) = 3 := by rw [h0]; rfl
      rw [e0]
      walk_at "rx"
      refine ⟨_, w, x, r0, _, _, rfl, hw.mono F2.kp0, hS.mono F2, by omega, hfit.2.2, fun v H3 f3 hv => ?_⟩
      refine q v H3 (F2.trans f3) ?_
      show DatR K H H3 r0 x _ v (if ev t x ≠ 0 then ev u x else ev w x)
      rw [if_neg (by simpa using h0)]
      exact hv.back0 F2
    · have e0 : (3 : Int) - (if (!decide (V.int (ev t x) = V.int 0)) = true then 1 else 0) = 2 := by
        rw [if_pos (by simp [h0])]; rfl
      rw [e0]
      walk_at "rx"
      refine ⟨_, u, x, r0, _, _, rfl, hu.mono F2.kp0, hS.mono F2, by omega, hfit.2.1, fun v H3 f3 hv => ?_⟩
      refine q v H3 (F2.trans f3) ?_
      show DatR K H H3 r0 x _ v (if ev t x ≠ 0 then ev u x else ev w x)
      rw [if_pos h0]
      exact hv.back0 F2
  | wit t u =>
    obtain ⟨a, _, rfl, hT, _, _, rfl, rfl, t1, _, rfl, ht, u1, _, rfl, hu, rfl⟩ := hF
    have hd1 : max (dep t) (dep u) + 1 < n + 1 := hd
    walk_at "rx"
    refine rd_newT (by simp) fun t0 H1 ft f1 et => ?_
    refine rd_inT (SqT.of et) rfl rfl ?_
    walk_at "rx"
    refine ⟨_, t, x, r0, _, _, rfl, ht.mono f1.kp0, hS.mono f1, by omega, hfit.1, fun v H2 f2 hv => ?_⟩
    have F2 := f1.trans f2
    obtain ⟨r, hsl, hro⟩ := (hv.back0 f1).slots F2 hrow
    walk_at "rx"
    refine ⟨_, u, ev t x, r, _, _, rfl, hu.mono F2.kp0, hsl, by omega, hfit.2, fun v H3 f3 hv => ?_⟩
    exact q v H3 (F2.trans f3) (DatR.comp hro F2 f3 hv)
  | fold m t g =>
    obtain ⟨a, _, rfl, hT, _, _, rfl, rfl, m1, _, rfl, hm, t1, _, rfl, ht, g1, _, rfl, hg, rfl⟩ := hF
    have hd1 : max (dep m) (max (dep t) (dep g)) + 1 < n + 1 := hd
    walk_at "rx"
    refine rd_newT (by simp) fun t0 H1 ft f1 et => ?_
    refine rd_inT (SqT.of et) rfl rfl ?_
    walk_at "rx"
    refine ⟨_, m, x, r0, _, _, rfl, hm.mono f1.kp0, hS.mono f1, by omega, hfit.1, fun v H2 f2 hv => ?_⟩
    obtain rfl := hv
    have F2 := f1.trans f2
    walk_at "rx"
    refine ⟨_, t, x, r0, _, _, rfl, ht.mono F2.kp0, hS.mono F2, by omega, hfit.2.1, fun v H3 f3 hv => ?_⟩
    have F3 := F2.trans f3
    have hv0 := hv.back0 F2
    walk_at "rx"
    have b1 : (0 : Int) ≤ ev m x := hfit.2.2.1
    have b2 : ev m x ≤ (1000 : Int) := hfit.2.2.2.1
    refine rd_rng1 ⟨Int.le_trans (by decide) b1, Int.lt_of_le_of_lt b2 (by decide)⟩ ?_
    refine rd_forR (fun i σ' H' => ∃ (ov : V) (u5 : Option V), σ' = [some (.ref a), some sv, some (.str "fold"), none, some (.int (ev m x)), some ov, u5] ∧ Fr [] H H' ∧ DatR K H H' r0 x .tup ov (iter (ev g) i (ev t x))) ⟨v, none, rfl, F3, hv0⟩ ?_ ?_
    · rintro i σ' H' hi ⟨ov, u5, rfl, f', hov⟩
      obtain ⟨r, hsl, hro⟩ := hov.slots f' hrow
      walk_at "rx"
      refine ⟨_, g, iter (ev g) i (ev t x), r, _, _, rfl, hg.mono f'.kp0, hsl, by omega, hfit.2.2.2.2 i hi, fun v H4 f4 hv => ?_⟩
      walk_at "rx"
      refine ⟨v, _, rfl, f'.trans f4, ?_⟩
      rw [iter_succ]
      exact DatR.comp hro f' f4 hv
    · rintro σ' H' ⟨ov, u5, rfl, f', hov⟩
      walk_at "rx"
      exact q ov H' f' hov
theorem ok_comes (T : Blt mg) (F : Here K mg "_law_come_to" s__law_come_to ["_law_fold", "_law_slots"]) : ∀ n, DefOk P w K mg base CX0 "_law_come_to" ["_law_fold", "_law_slots"] (n + 2) (spCome K n)
  | 0 => by
    obtain ⟨f, fd, F, hm, hb⟩ := F.ex
    have no : ∀ vs H Q E, ¬ spCome K 0 vs H Q E := fun vs H Q E h => by
      obtain ⟨_, _, _, _, _, _, _, _, _, hd, _⟩ := h
      exact absurd hd (Nat.not_lt_zero _)
    exact ⟨f, fd, ⟨fun vs H Q E h => absurd h (no vs H Q E), fun A outer s H args us vs Q E _ _ _ _ h => absurd h (no vs H Q E)⟩, F.kp, hb, hm⟩
  | n + 1 => ok_come T n (n + 2) F (ok_comes T F n)
end
end Lf
namespace Lf
open PySem PySem.Spec PyProof.Rows L2
/-! ### the law's drawing: h = [int, cells, int], any cells -/
/-- h stands, its cells at c; n cells -/
structure HAt (H : Hp) (h c : Addr) (n : Nat) : Prop where
  ne : h ≠ c
  ex : ∃ (x k : Int) (cells : List Int), H h = some (.lst [.int x, .ref c, .int k]) ∧ H c = some (.lst (cells.map V.int)) ∧ 0 ≤ k ∧ cells.length = n
def spNext (n : Nat) : Sp := fun vs H Q _ => ∃ h c m, vs = [.ref h, .int m] ∧ 0 < m ∧ m < 2 ^ 64 ∧ HAt H h c n ∧ ∀ r H2, 0 ≤ r → r < m → Fr [h, c] H H2 → HAt H2 h c n → Q (.int r) H2
theorem HAt.kp {H H1 : Hp} {h c : Addr} {n : Nat} (a : HAt H h c n) (f : Fr [h, c] H H1) : Kp H H1 := by
  obtain ⟨_, x, k, cells, eh, ec, _⟩ := a
  exact f.kpL2 eh ec
theorem HAt.mono {H H1 : Hp} {h c : Addr} {n : Nat} (a : HAt H h c n) (f : Fr [] H H1) : HAt H1 h c n := by
  obtain ⟨ne, x, k, cells, eh, ec, r⟩ := a
  exact ⟨ne, x, k, cells, f.at eh, f.at ec, r⟩
/-- another list changes -/
theorem HAt.mono1 {H H1 : Hp} {h c l : Addr} {n : Nat} (a : HAt H h c n) (f : Fr [l] H H1) (nh : l ≠ h) (nc : l ≠ c) : HAt H1 h c n := by
  obtain ⟨ne, x, k, cells, eh, ec, r⟩ := a
  exact ⟨ne, x, k, cells, f.at eh (by simpa using Ne.symm nh), f.at ec (by simpa using Ne.symm nc), r⟩
theorem HAt.new {H : Hp} {h c l : Addr} {n : Nat} (a : HAt H h c n) (e : H l = none) : l ≠ h ∧ l ≠ c := by
  obtain ⟨ne, x, k, cells, eh, ec, r⟩ := a
  exact ⟨(ne_of_none eh e).symm, (ne_of_none ec e).symm⟩
theorem atI_in {vs : List V} {i : Int} (h0 : 0 ≤ i) (h : i < (vs.length : Int)) : ∃ v, v ∈ vs ∧ atI vs i = some v := by
  have hk : i.toNat < vs.length := by omega
  refine ⟨vs[i.toNat], List.getElem_mem hk, ?_⟩
  have e : i = ((i.toNat : Nat) : Int) := by omega
  have q : atI vs ((i.toNat : Nat) : Int) = some vs[i.toNat] := atI_nat (List.getElem?_eq_getElem hk)
  rw [← e] at q
  exact q
theorem atI_mem {cells : List Int} {i : Int} (h0 : 0 ≤ i) (h : i < (cells.length : Int)) : ∃ v : Int, v ∈ cells ∧ atI (cells.map V.int) i = some (.int v) := by
  have hk : i.toNat < cells.length := by omega
  refine ⟨cells[i.toNat], List.getElem_mem hk, ?_⟩
  have e : i = ((i.toNat : Nat) : Int) := by omega
  have q : atI (cells.map V.int) ((i.toNat : Nat) : Int) = some (.int cells[i.toNat]) := atI_nat (by rw [List.getElem?_map, List.getElem?_eq_getElem hk]; rfl)
  rw [← e] at q
  exact q
theorem atI_ints {cells : List Int} {i : Int} (h0 : 0 ≤ i) (h : i < (cells.length : Int)) : ∃ v : Int, atI (cells.map V.int) i = some (.int v) := by
  obtain ⟨v, _, q⟩ := atI_mem h0 h; exact ⟨v, q⟩
theorem ixN_in {n : Nat} {i : Int} (h0 : 0 ≤ i) (h : i < (n : Int)) : ixN n i = some i.toNat := by
  unfold ixN; rw [if_pos h0, if_pos h]
theorem dp_ints {K : PySem.W.Frag} {H : Hp} : ∀ (cells : List Int), DpAll K H (cells.map V.int) (cells.map PyData.int)
  | [] => .nil
  | _ :: r => .cons (.int _) (dp_ints r)
theorem canLay_ints : ∀ (cells : List Int), PyData.canLayAll0 (cells.map PyData.int) = true
  | [] => rfl
  | _ :: r => by simp [PyData.canLayAll0, PyData.canLay0, canLay_ints r]
theorem depth_ints : ∀ (cells : List Int), PyData.depthAll (cells.map PyData.int) = 0
  | [] => rfl
  | _ :: r => by simp [PyData.depthAll, PyData.depth, depth_ints r]
theorem shaped_ints (cells : List Int) : SeqAt.shaped (.list (cells.map PyData.int)) = true := by
  simp [SeqAt.shaped, PyData.canLay0, canLay_ints, PyData.depth, depth_ints]
theorem eqv_nil (cells : List Int) : PyData.eqv (.list (cells.map PyData.int)) (.list []) = decide (cells = []) := by
  cases cells <;> simp [PyData.eqv, PyData.eqvAll]
theorem rd_neNilI {K : PySem.W.Frag} {H : Hp} {Q : VK} {a p : Addr} {cells : List Int} (h : SqL K H a (cells.map V.int)) (h2 : SqL K H p []) (q : Q (.bl (!decide (cells = []))) H) : rNeA K (.ref a) (.ref p) H Q :=
  rd_neD (.lst h (dp_ints cells)) (.lst h2 .nil) (shaped_ints cells) (shaped_ints []) (by rw [eqv_nil]; exact q)
theorem mod_pos (a : Int) {m : Int} (h : 0 < m) : 0 ≤ Int.fmod a m ∧ Int.fmod a m < m := by
  rw [Int.fmod_eq_emod_of_nonneg _ (by omega)]
  exact ⟨Int.emod_nonneg _ (by omega), Int.emod_lt_of_pos _ h⟩
section
variable {P : Program} {w : World} {K : PySem.W.Frag} {mg : Str → Option Value} {base : Heap}
abbrev s__law_next : Stmt := top 6
abbrev N__law_next : List Str := ["_law_h", "_law_many", "_law_at", "_law_cell"]
theorem sc__law_next : FnScope N__law_next ["_law_h", "_law_many"] (defScope s__law_next) := ⟨rfl, rfl, rfl, by decide +kernel, rfl, by decide +kernel, by decide +kernel⟩
theorem ok_next (n : Nat) (T : Blt mg) (F : Here K mg "_law_next" s__law_next ["_law_h", "_law_many"]) : DefOk P w K mg base CX0 "_law_next" ["_law_h", "_law_many"] 1 (spNext n) := by
  refine F.ok sc__law_next (fun vs H Q E h => ?_) (fun f cdv A outer s H vs Q E hr h => ?_)
  · obtain ⟨_, _, _, rfl, _⟩ := h; rfl
  obtain ⟨h, c, m, rfl, m0, m1, ⟨ne, x, k, cells, eh, ec, k0, el⟩, q⟩ := h
  have hu64 := hr.units
  refine ⟨_, (pss_cons (ps_set (i := 2) sc__law_next.nd rfl (Or.inl rfl) (pe_op op_modN (pe_ix ix_seq (pv 0) pe_int (fun _ _ => rfl)) (pe_callB (call_max2A rfl) (by rfl) T.n_max (by decide +kernel) (pa_cons pe_int (pa_cons (pe_callB call_lenA (by rfl) T.n_len (by decide +kernel) (pa_cons (pe_ix ix_seq (pv 0) pe_int (fun _ _ => rfl)) pa_nil)) pa_nil)))))
    (pss_cons (ps_set (i := 3) sc__law_next.nd rfl (Or.inl rfl) (pe_ifExp (pt_cmpR (op_neA hu64) (pe_ix ix_seq (pv 0) pe_int (fun _ _ => rfl)) (pe_lst pa_nil) (nomark _)) (pe_ix ix_seq (pe_ix ix_seq (pv 0) pe_int (fun _ _ => rfl)) (pv 2) (fun _ _ => rfl)) pe_int))
    (pss_cons (ps_if (pt_cmpR op_ge (pv 3) (pe_op op_pow pe_int pe_int) (nomark _))
    (pss_cons (ps_asg (pe_op op_fdivW (pv 3) (pv 1)) (pg_sub (pe_ix ix_seq (pv 0) pe_int (fun _ _ => rfl)) (pv 2) set_list))
    (pss_one (ps_ret (pe_op op_modN (pv 3) (pv 1)))))
    pss_nil)
    (pss_cons (ps_asg (pe_op op_modN (pe_op op_plus (pe_op op_plus (pe_op op_timesA (pe_ix ix_seq (pv 0) pe_int (fun _ _ => rfl)) pe_int) (pe_op op_timesA (pv 3) pe_int)) pe_int) pe_int) (pg_sub (pv 0) pe_int set_list))
    (pss_cons (ps_asg (pe_op op_plus (pe_ix ix_seq (pv 0) pe_int (fun _ _ => rfl)) pe_int) (pg_sub (pv 0) pe_int set_list))
    (pss_one (ps_ret (pe_op op_modN (pe_op op_fdivW (pe_ix ix_seq (pv 0) pe_int (fun _ _ => rfl)) pe_int) (pv 1))))))))), ?_⟩
  have hlen : (((cells.map V.int).length : Nat) : Int) = (cells.length : Int) := by rw [List.length_map]
  with_reducible refine rd_seq ?_
  walk_at "rs"
  have hat := mod_pos k (m := if (((cells.map V.int).length : Nat) : Int) > 1 then (((cells.map V.int).length : Nat) : Int) else 1) (by split <;> omega)
  refine rd_I (by split <;> omega) ?_
  generalize he : Int.fmod k _ = i at hat ⊢
  walk_at "rs"
  with_reducible refine rd_seqc fun N hN => ?_
  -- the drawn cell is v; i lies in the cells where there are any
  have fin : ∀ (v : Int) (H1 : Hp), Fr [] H H1 → (cells = [] → v = 0) → N [some (.ref h), some (.int m), some (.int i), some (.int v)] H1 := by
    intro v H1 f1 hv
    refine hN _ _ ?_
    have eh1 := f1.at eh
    have ec1 := f1.at ec
    with_reducible refine rd_seqc fun N2 hN2 => ?_
    have two : N2 [some (.ref h), some (.int m), some (.int i), some (.int v)] H1 := by
      refine hN2 _ _ ?_
      walk_at "rh"
      refine rd_mulR (by decide) ?_
      walk_at "rh"
      refine rd_mulR (by decide) ?_
      walk_at "rh"
      refine rd_I (by decide) ?_
      walk_at "rh"
      refine rd_setL eh1 rfl fun H2 f2 _ e2 => ?_
      have ec2 : H2 c = some (.lst (cells.map V.int)) := f2.at ec1 (by simpa using Ne.symm ne)
      walk_at "rh"
      refine rd_setL e2 rfl fun H3 f3 _ e3 => ?_
      have ec3 : H3 c = some (.lst (cells.map V.int)) := f3.at ec2 (by simpa using Ne.symm ne)
      walk_at "rh"
      refine rd_I (wide_div (b := 10) (by decide) (by decide) (by decide) (by decide)) ?_
      walk_at "rh"
      refine rd_I (by omega) ?_
      walk_at "rh"
      have r := mod_pos ((Int.fmod (x * 48271 + v * 69621 + 11) 2147483647) / 7) m0
      refine q _ H3 r.1 r.2 (f1.nil.trans ((f2.wk (by simp)).trans (f3.wk (by simp)))) ⟨ne, _, k + 1, cells, e3, ec3, by omega, el⟩
    walk_at "rs"
    refine rd_I ⟨by decide, by decide, by decide⟩ ?_
    walk_at "rs"
    refine ite2 (fun hc => ?_) (fun _ => ?_)
    · have hv1 : (10 : Int) ^ (18 : Int).toNat ≤ v := of_decide_eq_true hc
      have hne : cells ≠ [] := fun e => by rw [hv e] at hv1; exact absurd hv1 (by decide)
      have hpos : 0 < cells.length := List.length_pos_iff.mpr hne
      have hi : 0 ≤ i ∧ i < (cells.length : Int) := by
        refine ⟨hat.1, ?_⟩
        have := hat.2
        rw [hlen] at this
        split at this <;> omega
      walk_at "rh"
      refine rd_I (wide_div (b := 64) m0 (by omega) (by decide) (by decide)) ?_
      walk_at "rh"
      refine rd_setL ec1 (ixN_in hi.1 (by rw [hlen]; exact hi.2)) fun H2 f2 _ e2 => ?_
      have eh2 : H2 h = some (.lst [.int x, .ref c, .int k]) := f2.at eh1 (by simpa using ne)
      walk_at "rh"
      refine rd_I (by omega) ?_
      walk_at "rh"
      have r := mod_pos v m0
      have hset : (cells.map V.int).set i.toNat (V.int (v / m)) = (cells.set i.toNat (v / m)).map V.int := by rw [List.map_set]
      refine q _ H2 r.1 r.2 (f1.nil.trans (f2.wk (by simp))) ⟨ne, x, k, cells.set i.toNat (v / m), eh2, by rw [e2, hset], k0, by rw [List.length_set]; exact el⟩
    · walk_at "rs"
      exact two
  walk_at "rs"
  refine rd_newL (by simp) fun p H1 fp f1 ep => ?_
  have ec1 := f1.at ec
  refine rd_neNilI (SqL.of ec1) (SqL.of ep) ?_
  walk_at "rs"
  refine ite2 (fun hc => ?_) (fun hc => ?_)
  · have hne : cells ≠ [] := by simpa using hc
    have hpos : 0 < cells.length := List.length_pos_iff.mpr hne
    obtain ⟨v, hv⟩ := atI_ints (cells := cells) hat.1 (by have := hat.2; rw [hlen] at this; split at this <;> omega)
    walk_at "rs"
    refine rd_ixH ec1 hv ?_
    walk_at "rs"
    exact fin v H1 f1 (fun e => absurd e hne)
  · have hne : cells = [] := by simpa using hc
    walk_at "rs"
    exact fin 0 H1 f1 (fun _ => rfl)
theorem c_next {n : Nat} {H : Hp} {h c : Addr} {m : Int} {Q : VK} {E : XK} (hat : HAt H h c n) (hm : 0 < m ∧ m < 2 ^ 64) (q : ∀ r H2, 0 ≤ r → r < m → Fr [h, c] H H2 → Kp H H2 → HAt H2 h c n → Q (.int r) H2) : spNext n ([.ref h, .int m] ++ []) H Q E :=
  ⟨h, c, m, rfl, hm.1, hm.2, hat, fun r H2 a b f g => q r H2 a b f (hat.kp f) g⟩
end
end Lf
local macro_rules | `(tactic| walk_at "ha") => `(tactic| first
  | assumption
  | ((refine' Lf.HAt.mono ?k3 ?k1); (case k1 => assumption); (case k3 => (walk_at "ha")))
  | ((refine' Lf.HAt.mono1 ?k3 ?k1 ?k4 ?k5); (case k1 => assumption); (case k4 => assumption); (case k5 => assumption); (case k3 => (walk_at "ha"))))
local macro_rules | `(tactic| walk_at "nx") => `(tactic| ((refine' Lf.c_next ?k1 ?k2 ?k3); (case k1 => (walk_at "ha")); (case k2 => decide)))
namespace Lf
open PySem PySem.Spec PyProof.Rows L2
/-! ### the law's folds, drawn -/
/-- a drawn number's fold, a row's, a tuple's, of depth d -/
def NuOk (K : PySem.W.Frag) (H : Hp) (d : Nat) (v : V) : Prop := ∃ F : Fo .num, Sem d F ∧ dep F ≤ 5 * d ∧ Rp K H (enc F) v
def RoOk (K : PySem.W.Frag) (H : Hp) (d : Nat) (v : V) : Prop := ∃ F : Fo .row, Sem d F ∧ dep F ≤ 5 * d + 2 ∧ Rp K H (enc F) v
def TuOk (K : PySem.W.Frag) (H : Hp) (d : Nat) (v : V) : Prop := ∃ F : Fo .tup, Sem d F ∧ dep F ≤ 5 * d + 3 ∧ Rp K H (enc F) v
def FlOk (K : PySem.W.Frag) (H : Hp) (v : V) : Prop := ∃ F : Fo .tup, Flat F ∧ dep F ≤ 2 ∧ Rp K H (enc F) v
/-- a part of a turn's fold -/
def FlN (F : Fo .num) : Prop := ∀ b l s, SlB b l s → Fits F s ∧ (show Int from ev F s).natAbs < 2 ^ (b + 2)
def FlR (F : Fo .row) : Prop := ∀ b l s, l ≤ 899 → SlB b l s → Fits F s ∧ (show List Int from ev F s).length ≤ l + 1
def PaOk (K : PySem.W.Frag) (H : Hp) (v : V) : Prop := ∃ F : Fo .num, FlN F ∧ dep F ≤ 1 ∧ Rp K H (enc F) v
def PrOk (K : PySem.W.Frag) (H : Hp) (v : V) : Prop := ∃ F : Fo .row, FlR F ∧ dep F ≤ 1 ∧ Rp K H (enc F) v
section
variable {K : PySem.W.Frag} {H H1 : Hp} {d : Nat} {v : V} {t : Addr} {r : Int}
theorem NuOk.kp (h : NuOk K H d v) (k : Kp H H1) : NuOk K H1 d v := by obtain ⟨F, a, b, c⟩ := h; exact ⟨F, a, b, c.mono k⟩
theorem RoOk.kp (h : RoOk K H d v) (k : Kp H H1) : RoOk K H1 d v := by obtain ⟨F, a, b, c⟩ := h; exact ⟨F, a, b, c.mono k⟩
theorem TuOk.kp (h : TuOk K H d v) (k : Kp H H1) : TuOk K H1 d v := by obtain ⟨F, a, b, c⟩ := h; exact ⟨F, a, b, c.mono k⟩
theorem PaOk.kp (h : PaOk K H v) (k : Kp H H1) : PaOk K H1 v := by obtain ⟨F, a, b, c⟩ := h; exact ⟨F, a, b, c.mono k⟩
theorem PrOk.kp (h : PrOk K H v) (k : Kp H H1) : PrOk K H1 v := by obtain ⟨F, a, b, c⟩ := h; exact ⟨F, a, b, c.mono k⟩
theorem Rp2 {w : Str} {x : D} {v : V} (e : H t = some (.tup [.str w, v])) (h : Rp K H x v) : Rp K H (.tup [.str w, x]) (.ref t) := ⟨t, _, rfl, SqT.of e, _, _, rfl, rfl, _, _, rfl, h, rfl⟩
theorem Rp3 {w : Str} {x y : D} {v u : V} (e : H t = some (.tup [.str w, v, u])) (h : Rp K H x v) (g : Rp K H y u) : Rp K H (.tup [.str w, x, y]) (.ref t) := ⟨t, _, rfl, SqT.of e, _, _, rfl, rfl, _, _, rfl, h, _, _, rfl, g, rfl⟩
theorem Rp4 {w : Str} {x y z : D} {v u o : V} (e : H t = some (.tup [.str w, v, u, o])) (h : Rp K H x v) (g : Rp K H y u) (k : Rp K H z o) : Rp K H (.tup [.str w, x, y, z]) (.ref t) :=
  ⟨t, _, rfl, SqT.of e, _, _, rfl, rfl, _, _, rfl, h, _, _, rfl, g, _, _, rfl, k, rfl⟩
theorem three {r : Int} (h0 : 0 ≤ r) (h : r < 3) : r = 0 ∨ r = 1 ∨ r = 2 := by omega
theorem sl_fl {F : Fo .num} (h : F = .s0 ∨ F = .s1 ∨ F = .s2) : FlN F ∧ (∀ d, Sem d F) ∧ dep F = 0 := by
  rcases h with rfl | rfl | rfl
  · exact ⟨fun b l s hs => ⟨trivial, pow_up hs.ha (by omega)⟩, fun d => sem_s0 d, rfl⟩
  · exact ⟨fun b l s hs => ⟨trivial, pow_up hs.hb (by omega)⟩, fun d => sem_s1 d, rfl⟩
  · exact ⟨fun b l s hs => ⟨trivial, pow_up hs.hc (by omega)⟩, fun d => sem_s2 d, rfl⟩
theorem sl_mk (e : H t = some (.tup [.str "slot", .int r])) (h0 : 0 ≤ r) (h : r < 3) : ∃ F : Fo .num, (F = .s0 ∨ F = .s1 ∨ F = .s2) ∧ Rp K H (enc F) (.ref t) := by
  rcases three h0 h with rfl | rfl | rfl
  · exact ⟨.s0, .inl rfl, Rp2 e rfl⟩
  · exact ⟨.s1, .inr (.inl rfl), Rp2 e rfl⟩
  · exact ⟨.s2, .inr (.inr rfl), Rp2 e rfl⟩
theorem fl_num {n : Int} (h : n.natAbs < 4) : FlN (.num n) := fun b l s hs => ⟨trivial, by
  show n.natAbs < 2 ^ (b + 2)
  have := Nat.one_le_two_pow (n := b)
  rw [Nat.pow_add]; omega⟩
theorem fl_less {F : Fo .num} (h : F = .s0 ∨ F = .s1 ∨ F = .s2) : FlN (.less F) := fun b l s hs => by
  obtain ⟨f, v⟩ := (sl_fl h).1 b l s hs
  exact ⟨f, Nat.lt_of_le_of_lt (less_le _) v⟩
theorem fl_add {F : Fo .num} {n : Int} (h : F = .s0 ∨ F = .s1 ∨ F = .s2) (hn : n.natAbs < 3) : FlN (.add F (.num n)) := fun b l s hs => by
  have p := Nat.one_le_two_pow (n := b)
  have key : ∀ x : Int, x.natAbs < 2 ^ b → (x + n).natAbs < 2 ^ (b + 2) := fun x hx => by rw [Nat.pow_add]; omega
  rcases h with rfl | rfl | rfl
  · exact ⟨⟨trivial, trivial⟩, key _ hs.ha⟩
  · exact ⟨⟨trivial, trivial⟩, key _ hs.hb⟩
  · exact ⟨⟨trivial, trivial⟩, key _ hs.hc⟩
theorem fr_row3 : FlR .row3 := fun b l s hl hs => ⟨show s.r.length ≤ 900 from by have := hs.hr; omega, show s.r.length ≤ l + 1 from by have := hs.hr; omega⟩
theorem fr_none : FlR .none := fun b l s hl hs => ⟨trivial, Nat.zero_le _⟩
theorem fr_more {F : Fo .num} (h : F = .s0 ∨ F = .s1 ∨ F = .s2) : FlR (.more .row3 F) := fun b l s hl hs => by
  have e := hs.hr
  obtain ⟨f, _⟩ := (sl_fl h).1 b l s hs
  refine ⟨⟨show s.r.length ≤ 900 from by omega, f, show s.r.length ≤ 900 from by omega⟩, ?_⟩
  show (s.r ++ [ev F s]).length ≤ l + 1
  rw [List.length_append, List.length_singleton]; omega
theorem flat_mk {x y z : Fo .num} {w : Fo .row} (hx : FlN x) (hy : FlN y) (hz : FlN z) (hw : FlR w) : Flat (.tuple x y z w) := fun b l s hl hs => by
  obtain ⟨f1, v1⟩ := hx b l s hs
  obtain ⟨f2, v2⟩ := hy b l s hs
  obtain ⟨f3, v3⟩ := hz b l s hs
  obtain ⟨f4, v4⟩ := hw b l s hl hs
  exact ⟨⟨f1, f2, f3, f4⟩, ⟨v1, v2, v3, v4⟩⟩
end
/-- what a drawing def promises: h is drawn from, all else stays -/
def spDraw (n : Nat) (args : List V) (R : Hp → V → Prop) : Sp := fun vs H Q _ => ∃ h c, vs = .ref h :: args ∧ HAt H h c n ∧ ∀ v H2, Fr [h, c] H H2 → Kp H H2 → HAt H2 h c n → R H2 v → Q v H2
def spNu (K : PySem.W.Frag) (n d : Nat) : Sp := fun vs H Q E => ∃ e : Nat, e < d ∧ spDraw n [.int e] (fun H2 v => NuOk K H2 e v) vs H Q E
def spRo (K : PySem.W.Frag) (n d : Nat) : Sp := fun vs H Q E => ∃ e : Nat, e < d ∧ spDraw n [.int e] (fun H2 v => RoOk K H2 e v) vs H Q E
def spTu (K : PySem.W.Frag) (n d : Nat) : Sp := fun vs H Q E => ∃ e : Nat, e < d ∧ spDraw n [.int e] (fun H2 v => TuOk K H2 e v) vs H Q E
section
variable {P : Program} {w : World} {K : PySem.W.Frag} {mg : Str → Option Value} {base : Heap}
abbrev s__law_flat : Stmt := top 10
abbrev N__law_flat : List Str := ["_law_h", "_law_parts", "_law_k", "_law_one", "_law_some", "_law_row"]
theorem sc__law_flat : FnScope N__law_flat ["_law_h"] (defScope s__law_flat) := ⟨rfl, rfl, rfl, by decide +kernel, rfl, by decide +kernel, by decide +kernel⟩
theorem ok_flat (T : Blt mg) (n : Nat) (F : Here K mg "_law_flat" s__law_flat ["_law_h"]) (D__law_next : DefOk P w K mg base CX0 "_law_next" ["_law_h", "_law_many"] 1 (spNext n)) : DefOk P w K mg base CX0 "_law_flat" ["_law_h"] 2 (spDraw n [] (FlOk K)) := by
  refine F.ok sc__law_flat (fun vs H Q E h => ?_) (fun f cdv A outer s H vs Q E hr h => ?_)
  · obtain ⟨_, _, rfl, _⟩ := h; rfl
  obtain ⟨h, c, rfl, hat, q⟩ := h
  have hr__law_next := hr
  refine ⟨_, (pss_cons (ps_set (i := 1) sc__law_flat.nd rfl (Or.inl rfl) (pe_lst pa_nil))
    (pss_cons (ps_for PassesOwn.never rfl (pi_range1 (by rfl) T.n_range (pa_cons pe_int pa_nil)) (pg_name (i := 2) sc__law_flat.nd rfl (Or.inl rfl))
    (pss_cons (ps_set (i := 3) sc__law_flat.nd rfl (Or.inl rfl) (pe_tup (pa_cons pe_str (pa_cons (pe_callD D__law_next hr__law_next pass0 (pa_cons (pv 0) (pa_cons pe_int pa_nil))) pa_nil))))
    (pss_cons (ps_set (i := 4) sc__law_flat.nd rfl (Or.inl rfl) (pe_lst (pa_cons (pv 3) (pa_cons (pe_tup (pa_cons pe_str (pa_cons (pv 3) pa_nil))) (pa_cons (pe_tup (pa_cons pe_str (pa_cons (pv 3) (pa_cons (pe_tup (pa_cons pe_str (pa_cons (pe_callD D__law_next hr__law_next pass0 (pa_cons (pv 0) (pa_cons pe_int pa_nil))) pa_nil))) pa_nil)))) (pa_cons (pe_tup (pa_cons pe_str (pa_cons (pe_callD D__law_next hr__law_next pass0 (pa_cons (pv 0) (pa_cons pe_int pa_nil))) pa_nil))) pa_nil))))))
    (pss_one (ps_expr (pe_bm PySem.F.plainAttrs_list PySem.F.slot_list_append PySem.F.type_list_append mt_append (pv 1) (pa_cons (pe_ix ix_seq (pv 4) (pe_callD D__law_next hr__law_next pass0 (pa_cons (pv 0) (pa_cons pe_int pa_nil))) (fun _ _ => rfl)) pa_nil)))))))
    (pss_cons (ps_set (i := 5) sc__law_flat.nd rfl (Or.inl rfl) (pe_ix ix_seq (pe_lst (pa_cons (pe_tup (pa_cons pe_str (pa_cons pe_int pa_nil))) (pa_cons (pe_tup (pa_cons pe_str (pa_cons (pe_tup (pa_cons pe_str (pa_cons pe_int pa_nil))) (pa_cons (pe_tup (pa_cons pe_str (pa_cons (pe_callD D__law_next hr__law_next pass0 (pa_cons (pv 0) (pa_cons pe_int pa_nil))) pa_nil))) pa_nil)))) (pa_cons (pe_tup (pa_cons pe_str pa_nil)) pa_nil)))) (pe_callD D__law_next hr__law_next pass0 (pa_cons (pv 0) (pa_cons pe_int pa_nil))) (fun _ _ => rfl)))
    (pss_one (ps_ret (pe_tup (pa_cons pe_str (pa_cons (pe_op op_plus (pe_callTy call_tupleA (by rfl) T.n_tuple (by decide +kernel) (pa_cons (pv 1) pa_nil)) (pe_tup (pa_cons (pv 5) pa_nil))) pa_nil)))))))), ?_⟩
  walk_at "rh"
  refine rd_newL (by simp) fun p H1 fp f1 ep => ?_
  have ⟨nph, npc⟩ := hat.new fp
  walk_at "rh"
  refine rd_forR (fun i σ' H' => ∃ (vs : List V) (u2 u3 u4 u5 : Option V), σ' = [some (.ref h), some (.ref p), u2, u3, u4, u5] ∧ Fr [h, c] H H' ∧ HAt H' h c n ∧ H' p = some (.lst vs) ∧ vs.length = i ∧ ∀ v ∈ vs, PaOk K H' v) ?_ ?_ ?_
  · exact ⟨[], _, _, _, _, rfl, f1.nil, hat.mono f1, ep, rfl, by simp⟩
  · rintro i σ' H2 hi ⟨vs, u2, u3, u4, u5, rfl, f2, hat2, ep2, hl, hp⟩
    walk_at "rh"
    walk_at "nx"
    intro r H3 a3 b3 f3 k3 hat3
    walk_at "rh"
    refine rd_newT (by simp) fun t1 H4 _ f4 et1 => ?_
    obtain ⟨F1, hF1, R1⟩ := sl_mk (K := K) et1 a3 b3
    walk_at "rh"
    refine rd_newT (by simp) fun t2 H5 _ f5 et2 => ?_
    have P1 : PaOk K H5 (.ref t1) := ⟨F1, (sl_fl hF1).1, by rw [(sl_fl hF1).2.2]; decide, R1.mono f5.kp0⟩
    have P2 : PaOk K H5 (.ref t2) := ⟨.less F1, fl_less hF1, by show dep F1 + 1 ≤ 1; rw [(sl_fl hF1).2.2]; decide, Rp2 et2 (R1.mono f5.kp0)⟩
    walk_at "rh"
    walk_at "nx"
    intro r6 H6 a6 b6 f6 k6 hat6
    walk_at "rh"
    refine rd_newT (by simp) fun t3 H7 _ f7 et3 => ?_
    walk_at "rh"
    refine rd_newT (by simp) fun t4 H8 _ f8 et4 => ?_
    have k18 : Kp H4 H8 := by walk_at "kp"
    have P3 : PaOk K H8 (.ref t4) := ⟨.add F1 (.num r6), fl_add hF1 (by omega), by show max (dep F1) 0 + 1 ≤ 1; rw [(sl_fl hF1).2.2]; decide, Rp3 et4 (R1.mono k18) (Rp2 (f8.at et3) rfl)⟩
    walk_at "rh"
    walk_at "nx"
    intro r9 H9 a9 b9 f9 k9 hat9
    walk_at "rh"
    refine rd_newT (by simp) fun t5 H10 _ f10 et5 => ?_
    have P4 : PaOk K H10 (.ref t5) := ⟨.num r9, fl_num (by omega), by show 0 ≤ 1; decide, Rp2 et5 rfl⟩
    walk_at "rh"
    refine rd_newL (by simp) fun l H11 fl f11 el => ?_
    have hat10 : HAt H10 h c n := by walk_at "ha"
    have ⟨nlh, nlc⟩ := hat10.new fl
    walk_at "rh"
    walk_at "nx"
    intro r12 H12 a12 b12 f12 k12 hat12
    obtain ⟨v, hv, hat'⟩ := atI_in (vs := [.ref t1, .ref t2, .ref t4, .ref t5]) a12 (by simpa using b12)
    have el12 := f12.at2 el nlh nlc
    refine rd_ixH el12 hat' ?_
    have PV : PaOk K H12 v := by
      simp only [List.mem_cons, List.not_mem_nil, or_false] at hv
      rcases hv with rfl | rfl | rfl | rfl
      · exact P1.kp (by walk_at "kp")
      · exact P2.kp (by walk_at "kp")
      · exact P3.kp (by walk_at "kp")
      · exact P4.kp (by walk_at "kp")
    walk_at "rh"
    have ep12 : H12 p = some (.lst vs) := by walk_at "hp"
    refine rd_app ep12 (by omega) fun H13 f13 k13 ep13 => ?_
    walk_at "rh"
    have k213 : Kp H2 H13 := by walk_at "kp"
    have F12 : Fr [h, c] H H12 := f2.trans (f3.trans (f4.nil.trans (f5.nil.trans (f6.trans (f7.nil.trans (f8.nil.trans (f9.trans (f10.nil.trans (f11.nil.trans f12)))))))))
    refine ⟨vs ++ [v], _, _, _, _, rfl, F12.then1 f13 fp, hat12.mono1 f13 nph npc, ep13, by simp [hl], fun x hx => ?_⟩
    rcases List.mem_append.mp hx with hx | hx
    · exact (hp x hx).kp k213
    · rw [show x = v by simpa using hx]; exact PV.kp k13
  · rintro σ' H2 ⟨vs, u2, u3, u4, u5, rfl, f2, hat2, ep2, hl, hp⟩
    match vs, hl with
    | [v1, v2, v3], _ =>
    walk_at "rh"
    refine rd_newT (by simp) fun t1 H3 _ f3 et1 => ?_
    walk_at "rh"
    refine rd_newT (by simp) fun t2 H4 _ f4 et2 => ?_
    walk_at "rh"
    walk_at "nx"
    intro r5 H5 a5 b5 f5 k5 hat5
    walk_at "rh"
    refine rd_newT (by simp) fun t3 H6 _ f6 et3 => ?_
    obtain ⟨F1, hF1, R1⟩ := sl_mk (K := K) et3 a5 b5
    walk_at "rh"
    refine rd_newT (by simp) fun t4 H7 _ f7 et4 => ?_
    walk_at "rh"
    refine rd_newT (by simp) fun t5 H8 _ f8 et5 => ?_
    walk_at "rh"
    refine rd_newL (by simp) fun l H9 fl f9 el => ?_
    have hat8 : HAt H8 h c n := by walk_at "ha"
    have ⟨nlh, nlc⟩ := hat8.new fl
    have r3 : PrOk K H3 (.ref t1) := ⟨.row3, fr_row3, by show 0 ≤ 1; decide, Rp2 et1 rfl⟩
    have et2' : SqT K H7 t2 [.str "slot", .int 3] := (show Kp H4 H7 by walk_at "kp").sq (SqT.of et2)
    have rm : PrOk K H7 (.ref t4) := ⟨.more .row3 F1, fr_more hF1, by show max 0 (dep F1) + 1 ≤ 1; rw [(sl_fl hF1).2.2]; decide, Rp3 et4 ⟨t2, _, rfl, et2', _, _, rfl, rfl, _, _, rfl, rfl, rfl⟩ (R1.mono f7.kp0)⟩
    have rn : PrOk K H8 (.ref t5) := ⟨.none, fr_none, by show 0 ≤ 1; decide, t5, _, rfl, SqT.of et5, _, _, rfl, rfl, rfl⟩
    walk_at "rh"
    walk_at "nx"
    intro r10 H10 a10 b10 f10 k10 hat10
    obtain ⟨v, hv, hat'⟩ := atI_in (vs := [.ref t1, .ref t4, .ref t5]) a10 (by simpa using b10)
    have el10 := f10.at2 el nlh nlc
    refine rd_ixH el10 hat' ?_
    have PV : PrOk K H10 v := by
      simp only [List.mem_cons, List.not_mem_nil, or_false] at hv
      rcases hv with rfl | rfl | rfl
      · exact r3.kp (by walk_at "kp")
      · exact rm.kp (by walk_at "kp")
      · exact rn.kp (by walk_at "kp")
    walk_at "rh"
    have ep10 : H10 p = some (.lst [v1, v2, v3]) := by walk_at "hp"
    refine rd_tupL (SqL.of ep10) fun s1 H11 _ f11 es1 => ?_
    walk_at "rh"
    refine rd_newT (by simp) fun s2 H12 _ f12 es2 => ?_
    refine rd_plusT (SqT.of (f12.at es1)) (SqT.of es2) (Nat.le_of_lt (small1000 (by simp))) fun s3 H13 f13 es3 => ?_
    walk_at "rh"
    refine rd_newT (by simp) fun s4 H14 _ f14 es4 => ?_
    have kk2 : Kp H2 H14 := by walk_at "kp"
    have kk10 : Kp H10 H14 := by walk_at "kp"
    obtain ⟨G1, g1, d1, q1⟩ := (hp v1 (by simp)).kp kk2
    obtain ⟨G2, g2, d2, q2⟩ := (hp v2 (by simp)).kp kk2
    obtain ⟨G3, g3, d3, q3⟩ := (hp v3 (by simp)).kp kk2
    obtain ⟨G4, g4, d4, q4⟩ := PV.kp kk10
    have FF : Fr [h, c] H H14 := f2.trans (f3.nil.trans (f4.nil.trans (f5.trans (f6.nil.trans (f7.nil.trans (f8.nil.trans (f9.nil.trans (f10.trans (f11.nil.trans (f12.nil.trans (f13.nil.trans f14.nil)))))))))))
    refine q _ H14 FF (hat.kp FF) (by walk_at "ha") ⟨.tuple G1 G2 G3 G4, flat_mk g1 g2 g3 g4, ?_, ?_⟩
    · show max (max (dep G1) (dep G2)) (max (dep G3) (dep G4)) + 1 ≤ 2
      omega
    · exact ⟨s4, _, rfl, SqT.of es4, _, _, rfl, rfl, _, _, rfl, ⟨s3, _, rfl, f14.tup0 es3, _, _, rfl, q1, _, _, rfl, q2, _, _, rfl, q3, _, _, rfl, q4, rfl⟩, rfl⟩
end
end Lf
namespace Lf
open PySem PySem.Spec PyProof.Rows L2
theorem NuOk.up {K : PySem.W.Frag} {H : Hp} {d e : Nat} {v : V} (h : NuOk K H d v) (hd : d ≤ e) : NuOk K H e v := by
  obtain ⟨F, a, b, c⟩ := h; exact ⟨F, a.up hd, by omega, c⟩
section
variable {K : PySem.W.Frag} {n d : Nat} {H : Hp} {h c : Addr} {i : Int} {e : Nat} {Q : VK} {E : XK}
/-- the three drawing defs, called -/
theorem c_nu (hat : HAt H h c n) (hi : i = (e : Int)) (he : e < d) (q : ∀ v H2, Fr [h, c] H H2 → Kp H H2 → HAt H2 h c n → NuOk K H2 e v → Q v H2) : spNu K n d ([.ref h, .int i] ++ []) H Q E := ⟨e, he, h, c, by rw [hi]; rfl, hat, q⟩
theorem c_ro (hat : HAt H h c n) (hi : i = (e : Int)) (he : e < d) (q : ∀ v H2, Fr [h, c] H H2 → Kp H H2 → HAt H2 h c n → RoOk K H2 e v → Q v H2) : spRo K n d ([.ref h, .int i] ++ []) H Q E := ⟨e, he, h, c, by rw [hi]; rfl, hat, q⟩
theorem c_tu (hat : HAt H h c n) (hi : i = (e : Int)) (he : e < d) (q : ∀ v H2, Fr [h, c] H H2 → Kp H H2 → HAt H2 h c n → TuOk K H2 e v → Q v H2) : spTu K n d ([.ref h, .int i] ++ []) H Q E := ⟨e, he, h, c, by rw [hi]; rfl, hat, q⟩
end
theorem mod2 {r : Int} : Int.fmod r 2 = 0 ∨ Int.fmod r 2 = 1 := by
  have := mod_pos r (m := 2) (by decide); omega
section
variable {P : Program} {w : World} {K : PySem.W.Frag} {mg : Str → Option Value} {base : Heap}
abbrev s__law_number : Stmt := top 7
abbrev N__law_number : List Str := ["_law_h", "_law_deep", "_law_way", "_law_test", "_law_one", "_law_word"]
theorem sc__law_number : FnScope N__law_number ["_law_h", "_law_deep"] (defScope s__law_number) := ⟨rfl, rfl, rfl, by decide +kernel, rfl, by decide +kernel, by decide +kernel⟩
theorem ok_number (T : Blt mg) (n d k : Nat) (hk : 2 ≤ k) (F : Here K mg "_law_number" s__law_number ["_law_h", "_law_deep"]) (D__law_next : DefOk P w K mg base CX0 "_law_next" ["_law_h", "_law_many"] 1 (spNext n))
    (D__law_number : DefOk P w K mg base CX0 "_law_number" ["_law_h", "_law_deep"] k (spNu K n d)) (D__law_tuple : DefOk P w K mg base CX0 "_law_tuple" ["_law_h", "_law_deep"] k (spTu K n d)) : DefOk P w K mg base CX0 "_law_number" ["_law_h", "_law_deep"] (k + 1) (spNu K n (d + 1)) := by
  refine F.ok sc__law_number (fun vs H Q E h => ?_) (fun f cdv A outer s H vs Q E hr h => ?_)
  · obtain ⟨_, _, _, _, rfl, _⟩ := h; rfl
  obtain ⟨e, he, h, c, rfl, hat, q⟩ := h
  have hu64 := hr.units
  have hr__law_next := hr.mono (j := 1) (by omega)
  have hr__law_number := hr
  have hr__law_tuple := hr
  refine ⟨_, (pss_cons (ps_set (i := 2) sc__law_number.nd rfl (Or.inl rfl) (pe_callD D__law_next hr__law_next pass0 (pa_cons (pv 0) (pa_cons pe_int pa_nil))))
    (pss_cons (ps_if (PW.pt (pw_or (pt_cmpR (op_eqA hu64) (pv 1) pe_int (nomark _)) (pw_or1 (pt_cmpR op_lt (pv 2) pe_int (nomark _)))))
    (pss_one (ps_ret (pe_ix ix_seq (pe_lst (pa_cons (pe_tup (pa_cons pe_str (pa_cons (pe_callD D__law_next hr__law_next pass0 (pa_cons (pv 0) (pa_cons pe_int pa_nil))) pa_nil))) (pa_cons (pe_tup (pa_cons pe_str (pa_cons (pe_callD D__law_next hr__law_next pass0 (pa_cons (pv 0) (pa_cons pe_int pa_nil))) pa_nil))) pa_nil))) (pe_callD D__law_next hr__law_next pass0 (pa_cons (pv 0) (pa_cons pe_int pa_nil))) (fun _ _ => rfl))))
    pss_nil)
    (pss_cons (ps_if (pt_cmpR (op_eqA hu64) (pv 2) pe_int (nomark _))
    (pss_one (ps_ret (pe_tup (pa_cons pe_str (pa_cons (pe_callD D__law_number hr__law_number pass0 (pa_cons (pv 0) (pa_cons (pe_op op_sub (pv 1) pe_int) pa_nil))) pa_nil)))))
    pss_nil)
    (pss_cons (ps_if (pt_cmpR (op_eqA hu64) (pv 2) pe_int (nomark _))
    (pss_cons (ps_set (i := 3) sc__law_number.nd rfl (Or.inl rfl) (pe_callD D__law_number hr__law_number pass0 (pa_cons (pv 0) (pa_cons (pe_op op_sub (pv 1) pe_int) pa_nil))))
    (pss_cons (ps_set (i := 4) sc__law_number.nd rfl (Or.inl rfl) (pe_callD D__law_number hr__law_number pass0 (pa_cons (pv 0) (pa_cons (pe_op op_sub (pv 1) pe_int) pa_nil))))
    (pss_one (ps_ret (pe_tup (pa_cons pe_str (pa_cons (pv 3) (pa_cons (pv 4) (pa_cons (pe_callD D__law_number hr__law_number pass0 (pa_cons (pv 0) (pa_cons (pe_op op_sub (pv 1) pe_int) pa_nil))) pa_nil)))))))))
    pss_nil)
    (pss_cons (ps_if (pt_cmpR (op_eqA hu64) (pv 2) pe_int (nomark _))
    (pss_one (ps_ret (pe_tup (pa_cons pe_str (pa_cons (pe_callD D__law_tuple hr__law_tuple pass0 (pa_cons (pv 0) (pa_cons (pe_op op_sub (pv 1) pe_int) pa_nil))) (pa_cons (pe_callD D__law_number hr__law_number pass0 (pa_cons (pv 0) (pa_cons (pe_op op_sub (pv 1) pe_int) pa_nil))) pa_nil))))))
    pss_nil)
    (pss_cons (ps_set (i := 5) sc__law_number.nd rfl (Or.inl rfl) (pe_ix ix_seq (pe_lst (pa_cons pe_str (pa_cons pe_str pa_nil))) (pe_op op_modN (pv 2) pe_int) (fun _ _ => rfl)))
    (pss_cons (ps_set (i := 4) sc__law_number.nd rfl (Or.inl rfl) (pe_callD D__law_number hr__law_number pass0 (pa_cons (pv 0) (pa_cons (pe_op op_sub (pv 1) pe_int) pa_nil))))
    (pss_one (ps_ret (pe_tup (pa_cons (pv 5) (pa_cons (pv 4) (pa_cons (pe_callD D__law_number hr__law_number pass0 (pa_cons (pv 0) (pa_cons (pe_op op_sub (pv 1) pe_int) pa_nil))) pa_nil))))))))))))), ?_⟩
  with_reducible refine rd_seq ?_
  walk_at "rs"
  walk_at "nx"
  intro r1 H1 a1 b1 f1 k1 hat1
  walk_at "rs"
  with_reducible refine rd_seqc fun N hN => ?_
  -- what stands behind the first test
  have rest : ∀ e' : Nat, e = e' + 1 → 2 ≤ r1 → N [some (.ref h), some (.int (e : Int)), some (.int r1), none, none, none] H1 := by
    intro e' ee r2
    have ie : (e : Int) - 1 = (e' : Int) := by omega
    refine hN _ _ ?_
    with_reducible refine rd_seqc fun N1 hN1 => ?_
    have rest1 : N1 [some (.ref h), some (.int (e : Int)), some (.int r1), none, none, none] H1 := by
      refine hN1 _ _ ?_
      with_reducible refine rd_seqc fun N2 hN2 => ?_
      have rest2 : N2 [some (.ref h), some (.int (e : Int)), some (.int r1), none, none, none] H1 := by
        refine hN2 _ _ ?_
        with_reducible refine rd_seqc fun N3 hN3 => ?_
        have rest3 : N3 [some (.ref h), some (.int (e : Int)), some (.int r1), none, none, none] H1 := by
          refine hN3 _ _ ?_
          walk_at "rh"
          refine rd_newL (by simp) fun l H2 fl f2 el => ?_
          walk_at "rh"
          refine rd_I (by decide) ?_
          obtain ⟨wd, hwd, haw⟩ : ∃ wd : Str, (wd = "add" ∨ wd = "times") ∧ atI [V.str "add", V.str "times"] (Int.fmod r1 2) = some (.str wd) := by
            rcases mod2 (r := r1) with z | z <;> rw [z]
            · exact ⟨"add", .inl rfl, rfl⟩
            · exact ⟨"times", .inr rfl, rfl⟩
          refine rd_ixH el haw ?_
          walk_at "rh"
          refine c_nu (e := e') (by walk_at "ha") ie (by omega) fun v3 H3 f3 k3 hat3 n3 => ?_
          walk_at "rh"
          refine c_nu (e := e') (by walk_at "ha") ie (by omega) fun v4 H4 f4 k4 hat4 n4 => ?_
          walk_at "rh"
          refine rd_newT (by simp) fun t H5 _ f5 et => ?_
          have FF : Fr [h, c] H H5 := f1.trans (f2.nil.trans (f3.trans (f4.trans f5.nil)))
          obtain ⟨G3, s3, d3, p3⟩ := n3.kp (show Kp H3 H5 by walk_at "kp")
          obtain ⟨G4, s4, d4, p4⟩ := n4.kp (show Kp H4 H5 by walk_at "kp")
          subst ee
          rcases hwd with rfl | rfl
          · exact q _ H5 FF (hat.kp FF) (by walk_at "ha") ⟨.add G3 G4, sem_add s3 s4, by show max (dep G3) (dep G4) + 1 ≤ _; omega, Rp3 et p3 p4⟩
          · exact q _ H5 FF (hat.kp FF) (by walk_at "ha") ⟨.mul G3 G4, sem_mul s3 s4, by show max (dep G3) (dep G4) + 1 ≤ _; omega, Rp3 et p3 p4⟩
        walk_at "rh"
        refine ite2 (fun hc => ?_) (fun hc => ?_)
        · walk_at "rh"
          refine c_tu (e := e') (by walk_at "ha") ie (by omega) fun v3 H3 f3 k3 hat3 n3 => ?_
          walk_at "rh"
          refine c_nu (e := e') (by walk_at "ha") ie (by omega) fun v4 H4 f4 k4 hat4 n4 => ?_
          walk_at "rh"
          refine rd_newT (by simp) fun t H5 _ f5 et => ?_
          have FF : Fr [h, c] H H5 := f1.trans (f3.trans (f4.trans f5.nil))
          obtain ⟨G3, s3, d3, p3⟩ := n3.kp (show Kp H3 H5 by walk_at "kp")
          obtain ⟨G4, s4, d4, p4⟩ := n4.kp (show Kp H4 H5 by walk_at "kp")
          subst ee
          exact q _ H5 FF (hat.kp FF) (by walk_at "ha") ⟨.wit G3 G4, sem_wit s3 s4, by show max (dep G3) (dep G4) + 1 ≤ _; omega, Rp3 et p3 p4⟩
        · walk_at "rh"
          exact rest3
      walk_at "rh"
      refine ite2 (fun hc => ?_) (fun hc => ?_)
      · walk_at "rh"
        refine c_nu (e := e') (by walk_at "ha") ie (by omega) fun v3 H3 f3 k3 hat3 n3 => ?_
        walk_at "rh"
        refine c_nu (e := e') (by walk_at "ha") ie (by omega) fun v4 H4 f4 k4 hat4 n4 => ?_
        walk_at "rh"
        refine c_nu (e := e') (by walk_at "ha") ie (by omega) fun v5 H5 f5 k5 hat5 n5 => ?_
        walk_at "rh"
        refine rd_newT (by simp) fun t H6 _ f6 et => ?_
        have FF : Fr [h, c] H H6 := f1.trans (f3.trans (f4.trans (f5.trans f6.nil)))
        obtain ⟨G3, s3, d3, p3⟩ := n3.kp (show Kp H3 H6 by walk_at "kp")
        obtain ⟨G4, s4, d4, p4⟩ := n4.kp (show Kp H4 H6 by walk_at "kp")
        obtain ⟨G5, s5, d5, p5⟩ := n5.kp (show Kp H5 H6 by walk_at "kp")
        subst ee
        exact q _ H6 FF (hat.kp FF) (by walk_at "ha") ⟨.wher G3 G4 G5, sem_wher s3.step s4 s5, by show max (dep G3) (max (dep G4) (dep G5)) + 1 ≤ _; omega, Rp4 et p3 p4 p5⟩
      · walk_at "rh"
        exact rest2
    walk_at "rh"
    refine ite2 (fun hc => ?_) (fun hc => ?_)
    · walk_at "rh"
      refine c_nu (e := e') (by walk_at "ha") ie (by omega) fun v3 H3 f3 k3 hat3 n3 => ?_
      walk_at "rh"
      refine rd_newT (by simp) fun t H5 _ f5 et => ?_
      have FF : Fr [h, c] H H5 := f1.trans (f3.trans f5.nil)
      obtain ⟨G3, s3, d3, p3⟩ := n3.kp (show Kp H3 H5 by walk_at "kp")
      subst ee
      exact q _ H5 FF (hat.kp FF) (by walk_at "ha") ⟨.less G3, sem_less s3, by show dep G3 + 1 ≤ _; omega, Rp2 et p3⟩
    · walk_at "rh"
      exact rest1
  walk_at "rh"
  have e0 : decide (V.int (e : Int) = V.int 0) = decide (e = 0) := by
    refine decide_eq_decide.mpr ⟨fun z => ?_, fun z => by rw [z]; rfl⟩
    have := V.int.inj z; omega
  rw [e0]
  have fin : ∀ (D0 : Ends), D0.rt = Q → tRet (tOp (rIx (cxOf CX0 P w K mg base N__law_number "_law_number" (defScope s__law_number) f cdv A outer s H E).nox.K) (tLst (tCons (tTup (tCons (tC (.str "num")) (tCons (tCall (spNext n) [] E0 (tCons (tVar 0) (tCons (tC (.int 5)) tNil))) tNil)))
      (tCons (tTup (tCons (tC (.str "slot")) (tCons (tCall (spNext n) [] E0 (tCons (tVar 0) (tCons (tC (.int 3)) tNil))) tNil))) tNil))) (tCall (spNext n) [] E0 (tCons (tVar 0) (tCons (tC (.int 2)) tNil)))) D0 [some (.ref h), some (.int (e : Int)), some (.int r1), none, none, none] H1 := by
    rintro D0 rfl
    walk_at "rh"
    walk_at "nx"
    intro r2 H2 a2 b2 f2 k2 hat2
    walk_at "rh"
    refine rd_newT (by simp) fun t1 H3 _ f3 et1 => ?_
    walk_at "rh"
    walk_at "nx"
    intro r4 H4 a4 b4 f4 k4 hat4
    walk_at "rh"
    refine rd_newT (by simp) fun t2 H5 _ f5 et2 => ?_
    obtain ⟨F1, hF1, R1⟩ := sl_mk (K := K) et2 a4 b4
    walk_at "rh"
    refine rd_newL (by simp) fun l H6 fl f6 el => ?_
    have hat5 : HAt H5 h c n := by walk_at "ha"
    have ⟨nlh, nlc⟩ := hat5.new fl
    walk_at "rh"
    walk_at "nx"
    intro r7 H7 a7 b7 f7 k7 hat7
    obtain ⟨v, hv, hat'⟩ := atI_in (vs := [.ref t1, .ref t2]) a7 (by simpa using b7)
    refine rd_ixH (f7.at2 el nlh nlc) hat' ?_
    have FF : Fr [h, c] H H7 := f1.trans (f2.trans (f3.nil.trans (f4.trans (f5.nil.trans (f6.nil.trans f7)))))
    have kp2 : Kp H5 H7 := by walk_at "kp"
    have kp1 : Kp H3 H7 := by walk_at "kp"
    refine q _ H7 FF (hat.kp FF) hat7 ?_
    simp only [List.mem_cons, List.not_mem_nil, or_false] at hv
    rcases hv with rfl | rfl
    · exact ⟨.num r2, sem_num e (by omega), Nat.zero_le _, (Rp2 (x := .int r2) et1 rfl : Rp K H3 _ _).mono kp1⟩
    · exact ⟨F1, (sl_fl hF1).2.1 e, by rw [(sl_fl hF1).2.2]; exact Nat.zero_le _, R1.mono kp2⟩
  by_cases hz : e = 0
  · refine ifT (decide_eq_true hz) ?_
    refine ifT rfl ?_
    exact fin _ rfl
  · refine ifF (decide_eq_false hz) ?_
    walk_at "rh"
    refine ite2 (fun hc => ?_) (fun hc => ?_)
    · exact fin _ rfl
    · have hc' : ¬ r1 < 2 := fun z => hc (decide_eq_true z)
      walk_at "rh"
      exact rest (e - 1) (by omega) (by omega)
abbrev s__law_rowed : Stmt := top 8
abbrev N__law_rowed : List Str := ["_law_h", "_law_deep", "_law_way", "_law_one"]
theorem sc__law_rowed : FnScope N__law_rowed ["_law_h", "_law_deep"] (defScope s__law_rowed) := ⟨rfl, rfl, rfl, by decide +kernel, rfl, by decide +kernel, by decide +kernel⟩
theorem ok_rowed (T : Blt mg) (n d k : Nat) (hk : 2 ≤ k) (F : Here K mg "_law_rowed" s__law_rowed ["_law_h", "_law_deep"]) (D__law_next : DefOk P w K mg base CX0 "_law_next" ["_law_h", "_law_many"] 1 (spNext n))
    (D__law_number : DefOk P w K mg base CX0 "_law_number" ["_law_h", "_law_deep"] k (spNu K n (d + 1))) (D__law_rowed : DefOk P w K mg base CX0 "_law_rowed" ["_law_h", "_law_deep"] k (spRo K n d)) : DefOk P w K mg base CX0 "_law_rowed" ["_law_h", "_law_deep"] (k + 1) (spRo K n (d + 1)) := by
  refine F.ok sc__law_rowed (fun vs H Q E h => ?_) (fun f cdv A outer s H vs Q E hr h => ?_)
  · obtain ⟨_, _, _, _, rfl, _⟩ := h; rfl
  obtain ⟨e, he, h, c, rfl, hat, q⟩ := h
  have hu64 := hr.units
  have hr__law_next := hr.mono (j := 1) (by omega)
  have hr__law_number := hr
  have hr__law_rowed := hr
  refine ⟨_, (pss_cons (ps_set (i := 2) sc__law_rowed.nd rfl (Or.inl rfl) (pe_callD D__law_next hr__law_next pass0 (pa_cons (pv 0) (pa_cons pe_int pa_nil))))
    (pss_cons (ps_if (PW.pt (pw_or (pt_cmpR (op_eqA hu64) (pv 1) pe_int (nomark _)) (pw_or1 (pt_cmpR (op_eqA hu64) (pv 2) pe_int (nomark _)))))
    (pss_one (ps_ret (pe_ix ix_seq (pe_lst (pa_cons (pe_tup (pa_cons pe_str pa_nil)) (pa_cons (pe_tup (pa_cons pe_str (pa_cons pe_int pa_nil))) pa_nil))) (pe_callD D__law_next hr__law_next pass0 (pa_cons (pv 0) (pa_cons pe_int pa_nil))) (fun _ _ => rfl))))
    pss_nil)
    (pss_cons (ps_set (i := 3) sc__law_rowed.nd rfl (Or.inl rfl) (pe_callD D__law_rowed hr__law_rowed pass0 (pa_cons (pv 0) (pa_cons (pe_op op_sub (pv 1) pe_int) pa_nil))))
    (pss_cons (ps_if (pt_cmpR op_lt (pv 2) pe_int (nomark _))
    (pss_one (ps_ret (pe_tup (pa_cons pe_str (pa_cons (pv 3) (pa_cons (pe_callD D__law_number hr__law_number pass0 (pa_cons (pv 0) (pa_cons (pe_op op_sub (pv 1) pe_int) pa_nil))) pa_nil))))))
    pss_nil)
    (pss_one (ps_ret (pe_tup (pa_cons pe_str (pa_cons (pe_callD D__law_number hr__law_number pass0 (pa_cons (pv 0) (pa_cons pe_int pa_nil))) (pa_cons (pv 3) (pa_cons (pe_callD D__law_rowed hr__law_rowed pass0 (pa_cons (pv 0) (pa_cons pe_int pa_nil))) pa_nil))))))))))), ?_⟩
  with_reducible refine rd_seq ?_
  walk_at "rs"
  walk_at "nx"
  intro r1 H1 a1 b1 f1 k1 hat1
  walk_at "rs"
  with_reducible refine rd_seqc fun N hN => ?_
  have rest : ∀ e' : Nat, e = e' + 1 → N [some (.ref h), some (.int (e : Int)), some (.int r1), none] H1 := by
    intro e' ee
    have ie : (e : Int) - 1 = (e' : Int) := by omega
    refine hN _ _ ?_
    walk_at "rh"
    refine c_ro (e := e') (by walk_at "ha") ie (by omega) fun v3 H3 f3 k3 hat3 n3 => ?_
    walk_at "rh"
    refine ite2 (fun hc => ?_) (fun hc => ?_)
    · walk_at "rh"
      refine c_nu (e := e') (by walk_at "ha") ie (by omega) fun v4 H4 f4 k4 hat4 n4 => ?_
      walk_at "rh"
      refine rd_newT (by simp) fun t H5 _ f5 et => ?_
      have FF : Fr [h, c] H H5 := f1.trans (f3.trans (f4.trans f5.nil))
      obtain ⟨G3, s3, d3, p3⟩ := n3.kp (show Kp H3 H5 by walk_at "kp")
      obtain ⟨G4, s4, d4, p4⟩ := n4.kp (show Kp H4 H5 by walk_at "kp")
      subst ee
      exact q _ H5 FF (hat.kp FF) (by walk_at "ha") ⟨.more G3 G4, sem_more s3 s4, by show max (dep G3) (dep G4) + 1 ≤ _; omega, Rp3 et p3 p4⟩
    · walk_at "rh"
      refine c_nu (e := 1) (by walk_at "ha") rfl (by omega) fun v4 H4 f4 k4 hat4 n4 => ?_
      walk_at "rh"
      refine c_ro (e := 0) (by walk_at "ha") rfl (by omega) fun v5 H5 f5 k5 hat5 n5 => ?_
      walk_at "rh"
      refine rd_newT (by simp) fun t H6 _ f6 et => ?_
      have FF : Fr [h, c] H H6 := f1.trans (f3.trans (f4.trans (f5.trans f6.nil)))
      obtain ⟨G3, s3, d3, p3⟩ := n3.kp (show Kp H3 H6 by walk_at "kp")
      obtain ⟨G4, s4, d4, p4⟩ := n4.kp (show Kp H4 H6 by walk_at "kp")
      obtain ⟨G5, s5, d5, p5⟩ := n5.kp (show Kp H5 H6 by walk_at "kp")
      subst ee
      exact q _ H6 FF (hat.kp FF) (by walk_at "ha") ⟨.wher G4 G3 G5, sem_wher (s4.up (by omega)) s3 (s5.up (by omega)), by show max (dep G4) (max (dep G3) (dep G5)) + 1 ≤ _; omega, Rp4 et p4 p3 p5⟩
  walk_at "rh"
  have e0 : decide (V.int (e : Int) = V.int 0) = decide (e = 0) := by
    refine decide_eq_decide.mpr ⟨fun z => ?_, fun z => by rw [z]; rfl⟩
    have := V.int.inj z; omega
  rw [e0]
  have fin : ∀ (D0 : Ends), D0.rt = Q → tRet (tOp (rIx (cxOf CX0 P w K mg base N__law_rowed "_law_rowed" (defScope s__law_rowed) f cdv A outer s H E).nox.K) (tLst (tCons (tTup (tCons (tC (.str "none")) tNil)) (tCons (tTup (tCons (tC (.str "slot")) (tCons (tC (.int 3)) tNil))) tNil)))
      (tCall (spNext n) [] E0 (tCons (tVar 0) (tCons (tC (.int 2)) tNil)))) D0 [some (.ref h), some (.int (e : Int)), some (.int r1), none] H1 := by
    rintro D0 rfl
    walk_at "rh"
    refine rd_newT (by simp) fun t1 H3 _ f3 et1 => ?_
    walk_at "rh"
    refine rd_newT (by simp) fun t2 H5 _ f5 et2 => ?_
    walk_at "rh"
    refine rd_newL (by simp) fun l H6 fl f6 el => ?_
    have hat5 : HAt H5 h c n := by walk_at "ha"
    have ⟨nlh, nlc⟩ := hat5.new fl
    walk_at "rh"
    walk_at "nx"
    intro r7 H7 a7 b7 f7 k7 hat7
    obtain ⟨v, hv, hat'⟩ := atI_in (vs := [.ref t1, .ref t2]) a7 (by simpa using b7)
    refine rd_ixH (f7.at2 el nlh nlc) hat' ?_
    have FF : Fr [h, c] H H7 := f1.trans (f3.nil.trans (f5.nil.trans (f6.nil.trans f7)))
    have kp2 : Kp H5 H7 := by walk_at "kp"
    have kp1 : Kp H3 H7 := by walk_at "kp"
    refine q _ H7 FF (hat.kp FF) hat7 ?_
    simp only [List.mem_cons, List.not_mem_nil, or_false] at hv
    rcases hv with rfl | rfl
    · exact ⟨.none, sem_none e, Nat.zero_le _, kp1.sq (SqT.of et1) |> fun z => ⟨t1, _, rfl, z, _, _, rfl, rfl, rfl⟩⟩
    · exact ⟨.row3, sem_row3 e, Nat.zero_le _, (Rp2 (x := .int 3) et2 rfl : Rp K H5 _ _).mono kp2⟩
  by_cases hz : e = 0
  · refine ifT (decide_eq_true hz) ?_
    refine ifT rfl ?_
    exact fin _ rfl
  · refine ifF (decide_eq_false hz) ?_
    walk_at "rh"
    refine ite2 (fun hc => ?_) (fun hc => ?_)
    · exact fin _ rfl
    · walk_at "rh"
      exact rest (e - 1) (by omega)
abbrev s__law_tuple : Stmt := top 9
abbrev N__law_tuple : List Str := ["_law_h", "_law_deep", "_law_way", "_law_parts", "_law_k", "_law_one", "_law_many"]
theorem sc__law_tuple : FnScope N__law_tuple ["_law_h", "_law_deep"] (defScope s__law_tuple) := ⟨rfl, rfl, rfl, by decide +kernel, rfl, by decide +kernel, by decide +kernel⟩
theorem ok_tuple (T : Blt mg) (n d k : Nat) (hk : 2 ≤ k) (F : Here K mg "_law_tuple" s__law_tuple ["_law_h", "_law_deep"]) (D__law_next : DefOk P w K mg base CX0 "_law_next" ["_law_h", "_law_many"] 1 (spNext n)) (D__law_flat : DefOk P w K mg base CX0 "_law_flat" ["_law_h"] 2 (spDraw n [] (FlOk K)))
    (D__law_number : DefOk P w K mg base CX0 "_law_number" ["_law_h", "_law_deep"] k (spNu K n (d + 1))) (D__law_rowed : DefOk P w K mg base CX0 "_law_rowed" ["_law_h", "_law_deep"] k (spRo K n (d + 1))) (D__law_tuple : DefOk P w K mg base CX0 "_law_tuple" ["_law_h", "_law_deep"] k (spTu K n d)) :
    DefOk P w K mg base CX0 "_law_tuple" ["_law_h", "_law_deep"] (k + 1) (spTu K n (d + 1)) := by
  refine F.ok sc__law_tuple (fun vs H Q E h => ?_) (fun f cdv A outer s H vs Q E hr h => ?_)
  · obtain ⟨_, _, _, _, rfl, _⟩ := h; rfl
  obtain ⟨e, he, h, c, rfl, hat, q⟩ := h
  have hu64 := hr.units
  have hr__law_next := hr.mono (j := 1) (by omega)
  have hr__law_flat := hr.mono (j := 2) (by omega)
  have hr__law_number := hr
  have hr__law_rowed := hr
  have hr__law_tuple := hr
  refine ⟨_, (pss_cons (ps_set (i := 2) sc__law_tuple.nd rfl (Or.inl rfl) (pe_callD D__law_next hr__law_next pass0 (pa_cons (pv 0) (pa_cons pe_int pa_nil))))
    (pss_cons (ps_if (PW.pt (pw_or (pt_cmpR (op_eqA hu64) (pv 1) pe_int (nomark _)) (pw_or1 (pt_cmpR op_lt (pv 2) pe_int (nomark _)))))
    (pss_cons (ps_setLc (i := 3) (own := [("_law_k", 4)]) (g := gName 4) (tt := tYes) (by rfl) sc__law_tuple.nd rfl rfl (sw_true rfl rfl rfl (by decide +kernel)) (pi_range1 (by rfl) T.n_range (pa_cons pe_int pa_nil)) (blkOk_by (own := [("_law_k", 4)]) (N := N__law_tuple) (sc := defScope s__law_tuple) (by decide +kernel)) (fun _ _ _ _ _ => (pg_name (i := 4) sc__law_tuple.nd rfl (Or.inl rfl))) (fun _ _ _ _ _ => pts_nil) (fun _ _ _ _ _ => (pe_callD D__law_number hr__law_number pass0 (pa_cons (pv 0) (pa_cons (pe_callB (call_max2A rfl) (by rfl) T.n_max (by decide +kernel) (pa_cons pe_int (pa_cons (pe_op op_sub (pv 1) pe_int) pa_nil))) pa_nil)))))
    (pss_one (ps_ret (pe_tup (pa_cons pe_str (pa_cons (pe_op op_plus (pe_callTy call_tupleA (by rfl) T.n_tuple (by decide +kernel) (pa_cons (pv 3) pa_nil)) (pe_tup (pa_cons (pe_callD D__law_rowed hr__law_rowed pass0 (pa_cons (pv 0) (pa_cons (pe_callB (call_max2A rfl) (by rfl) T.n_max (by decide +kernel) (pa_cons pe_int (pa_cons (pe_op op_sub (pv 1) pe_int) pa_nil))) pa_nil))) pa_nil))) pa_nil))))))
    pss_nil)
    (pss_cons (ps_set (i := 5) sc__law_tuple.nd rfl (Or.inl rfl) (pe_callD D__law_tuple hr__law_tuple pass0 (pa_cons (pv 0) (pa_cons (pe_op op_sub (pv 1) pe_int) pa_nil))))
    (pss_cons (ps_if (pt_cmpR (op_eqA hu64) (pv 2) pe_int (nomark _))
    (pss_one (ps_ret (pe_tup (pa_cons pe_str (pa_cons (pv 5) (pa_cons (pe_callD D__law_tuple hr__law_tuple pass0 (pa_cons (pv 0) (pa_cons (pe_op op_sub (pv 1) pe_int) pa_nil))) pa_nil))))))
    pss_nil)
    (pss_cons (ps_if (pt_cmpR (op_eqA hu64) (pv 2) pe_int (nomark _))
    (pss_one (ps_ret (pe_tup (pa_cons pe_str (pa_cons (pe_callD D__law_number hr__law_number pass0 (pa_cons (pv 0) (pa_cons pe_int pa_nil))) (pa_cons (pv 5) (pa_cons (pe_callD D__law_tuple hr__law_tuple pass0 (pa_cons (pv 0) (pa_cons pe_int pa_nil))) pa_nil)))))))
    pss_nil)
    (pss_cons (ps_set (i := 6) sc__law_tuple.nd rfl (Or.inl rfl) (pe_lst (pa_cons (pe_tup (pa_cons pe_str (pa_cons (pe_callD D__law_next hr__law_next pass0 (pa_cons (pv 0) (pa_cons pe_int pa_nil))) pa_nil))) (pa_cons (pe_tup (pa_cons pe_str (pa_cons (pe_tup (pa_cons pe_str (pa_cons (pe_callD D__law_next hr__law_next pass0 (pa_cons (pv 0) (pa_cons pe_int pa_nil))) pa_nil))) pa_nil))) pa_nil))))
    (pss_cons (ps_expr (pe_bm PySem.F.plainAttrs_list PySem.F.slot_list_append PySem.F.type_list_append mt_append (pv 6) (pa_cons (pe_tup (pa_cons pe_str (pa_cons (pe_tup (pa_cons pe_str (pa_cons pe_int pa_nil))) (pa_cons (pe_tup (pa_cons pe_str (pa_cons pe_int pa_nil))) (pa_cons (pe_tup (pa_cons pe_str (pa_cons pe_int pa_nil))) pa_nil))))) pa_nil)))
    (pss_one (ps_ret (pe_tup (pa_cons pe_str (pa_cons (pe_ix ix_seq (pv 6) (pe_callD D__law_next hr__law_next pass0 (pa_cons (pv 0) (pa_cons pe_int pa_nil))) (fun _ _ => rfl)) (pa_cons (pv 5) (pa_cons (pe_callD D__law_flat hr__law_flat pass0 (pa_cons (pv 0) pa_nil)) pa_nil)))))))))))))), ?_⟩
  with_reducible refine rd_seq ?_
  walk_at "rs"
  walk_at "nx"
  intro r1 H1 a1 b1 f1 k1 hat1
  walk_at "rs"
  with_reducible refine rd_seqc fun N hN => ?_
  have rest : ∀ e' : Nat, e = e' + 1 → N [some (.ref h), some (.int (e : Int)), some (.int r1), none, none, none, none] H1 := by
    intro e' ee
    have ie : (e : Int) - 1 = (e' : Int) := by omega
    refine hN _ _ ?_
    with_reducible refine rd_seq ?_
    walk_at "rs"
    refine c_tu (e := e') (by walk_at "ha") ie (by omega) fun v3 H3 f3 k3 hat3 n3 => ?_
    walk_at "rs"
    with_reducible refine rd_seqc fun N1 hN1 => ?_
    have rest1 : N1 [some (.ref h), some (.int (e : Int)), some (.int r1), none, none, some v3, none] H3 := by
      refine hN1 _ _ ?_
      with_reducible refine rd_seqc fun N2 hN2 => ?_
      have rest2 : N2 [some (.ref h), some (.int (e : Int)), some (.int r1), none, none, some v3, none] H3 := by
        refine hN2 _ _ ?_
        walk_at "rh"
        walk_at "nx"
        intro r4 H4 a4 b4 f4 k4 hat4
        walk_at "rh"
        refine rd_newT (by simp) fun t1 H5 _ f5 et1 => ?_
        walk_at "rh"
        walk_at "nx"
        intro r6 H6 a6 b6 f6 k6 hat6
        walk_at "rh"
        refine rd_newT (by simp) fun t2 H7 _ f7 et2 => ?_
        walk_at "rh"
        refine rd_newT (by simp) fun t3 H8 _ f8 et3 => ?_
        walk_at "rh"
        refine rd_newL (by simp) fun l H9 fl f9 el => ?_
        have hat8 : HAt H8 h c n := by walk_at "ha"
        have ⟨nlh, nlc⟩ := hat8.new fl
        walk_at "rh"
        refine rd_newT (by simp) fun t4 H10 _ f10 et4 => ?_
        walk_at "rh"
        refine rd_newT (by simp) fun t5 H11 _ f11 et5 => ?_
        walk_at "rh"
        refine rd_newT (by simp) fun t6 H12 _ f12 et6 => ?_
        walk_at "rh"
        refine rd_newT (by simp) fun t7 H13 _ f13 et7 => ?_
        have el13 : H13 l = some (.lst [.ref t1, .ref t3]) := by walk_at "hp"
        walk_at "rh"
        refine rd_app el13 (by simp) fun H14 f14 k14 e14 => ?_
        have hat14 : HAt H14 h c n := by walk_at "ha"
        walk_at "rh"
        walk_at "nx"
        intro r15 H15 a15 b15 f15 k15 hat15
        obtain ⟨v, hv, hat'⟩ := atI_in (vs := [.ref t1, .ref t3] ++ [.ref t7]) a15 (by simpa using b15)
        refine rd_ixH (f15.at2 e14 nlh nlc) hat' ?_
        walk_at "rh"
        refine ⟨h, c, rfl, hat15, fun v16 H16 f16 k16 hat16 n16 => ?_⟩
        walk_at "rh"
        refine rd_newT (by simp) fun t17 H17 _ f17 et17 => ?_
        have hfr : H1 l = none → True := fun _ => trivial
        have F13 : Fr [h, c] H H13 := f1.trans (f3.trans (f4.trans (f5.nil.trans (f6.trans (f7.nil.trans (f8.nil.trans (f9.nil.trans (f10.nil.trans (f11.nil.trans (f12.nil.trans f13.nil))))))))))
        have F8 : Fr [h, c] H H8 := f1.trans (f3.trans (f4.trans (f5.nil.trans (f6.trans (f7.nil.trans f8.nil)))))
        have FF : Fr [h, c] H H17 := (F13.then1 f14 (F8.freeM fl (by simp [nlh, nlc]))).trans (f15.trans (f16.trans f17.nil))
        have kq16 : Kp H16 H17 := by walk_at "kp"
        have kq13 : Kp H13 H17 := by walk_at "kp"
        have kq8 : Kp H8 H17 := by walk_at "kp"
        have kq5 : Kp H5 H17 := by walk_at "kp"
        have kq3 : Kp H3 H17 := by walk_at "kp"
        obtain ⟨G1, g1, d1, q1⟩ := n3.kp kq3
        obtain ⟨G2, g2, d2, q2⟩ := n16
        obtain ⟨M, hm, dm, qm⟩ : ∃ M : Fo .num, (∀ s, Fits M s ∧ 0 ≤ ev M s ∧ ev M s ≤ (4 : Int)) ∧ dep M ≤ 1 ∧ Rp K H17 (enc M) v := by
          simp only [List.mem_append, List.mem_cons, List.not_mem_nil, or_false] at hv
          rcases hv with (rfl | rfl) | rfl
          · exact ⟨.num r4, fun s => ⟨trivial, a4, by show r4 ≤ 4; omega⟩, by show 0 ≤ 1; decide, (Rp2 (x := .int r4) et1 rfl : Rp K H5 _ _).mono kq5⟩
          · refine ⟨.less (.num r6), fun s => ⟨trivial, ?_, ?_⟩, by show 0 + 1 ≤ 1; decide, (Rp2 et3 (Rp2 (x := .int r6) (f8.at et2) rfl) : Rp K H8 _ _).mono kq8⟩
            · show (0 : Int) ≤ if r6 > 0 then r6 - 1 else 0
              split <;> omega
            · show (if r6 > 0 then r6 - 1 else 0) ≤ (4 : Int)
              split <;> omega
          · refine ⟨.wher .s0 (.num 2) (.num 0), fun s => ⟨⟨trivial, trivial, trivial⟩, ?_, ?_⟩, by show max 0 (max 0 0) + 1 ≤ 1; decide, (Rp4 et7 (Rp2 (x := .int 0) (f13.at (f12.at (f11.at et4))) rfl) (Rp2 (x := .int 2) (f13.at (f12.at et5)) rfl) (Rp2 (x := .int 0) (f13.at et6) rfl) : Rp K H13 _ _).mono kq13⟩
            · show (0 : Int) ≤ if s.a ≠ 0 then 2 else 0
              split <;> decide
            · show (if s.a ≠ 0 then 2 else 0) ≤ (4 : Int)
              split <;> decide
        subst ee
        exact q _ H17 FF (hat.kp FF) (by walk_at "ha") ⟨.fold M G1 G2, sem_fold hm g1 g2, by show max (dep M) (max (dep G1) (dep G2)) + 1 ≤ _; omega, Rp4 et17 qm q1 (q2.mono kq16)⟩
      walk_at "rh"
      refine ite2 (fun hc => ?_) (fun hc => ?_)
      · walk_at "rh"
        refine c_nu (e := 1) (by walk_at "ha") rfl (by omega) fun v4 H4 f4 k4 hat4 n4 => ?_
        walk_at "rh"
        refine c_tu (e := 0) (by walk_at "ha") rfl (by omega) fun v5 H5 f5 k5 hat5 n5 => ?_
        walk_at "rh"
        refine rd_newT (by simp) fun t H6 _ f6 et => ?_
        have FF : Fr [h, c] H H6 := f1.trans (f3.trans (f4.trans (f5.trans f6.nil)))
        obtain ⟨G5, s5, d5, p5⟩ := n5.kp (show Kp H5 H6 by walk_at "kp")
        obtain ⟨G4, s4, d4, p4⟩ := n4.kp (show Kp H4 H6 by walk_at "kp")
        obtain ⟨G3, s3, d3, p3⟩ := n3.kp (show Kp H3 H6 by walk_at "kp")
        subst ee
        exact q _ H6 FF (hat.kp FF) (by walk_at "ha") ⟨.wher G4 G3 G5, sem_wher (s4.up (by omega)) s3 (s5.up (by omega)), by show max (dep G4) (max (dep G3) (dep G5)) + 1 ≤ _; omega, Rp4 et p4 p3 p5⟩
      · walk_at "rh"
        exact rest2
    walk_at "rh"
    refine ite2 (fun hc => ?_) (fun hc => ?_)
    · walk_at "rh"
      refine c_tu (e := e') (by walk_at "ha") ie (by omega) fun v4 H4 f4 k4 hat4 n4 => ?_
      walk_at "rh"
      refine rd_newT (by simp) fun t H5 _ f5 et => ?_
      have FF : Fr [h, c] H H5 := f1.trans (f3.trans (f4.trans f5.nil))
      obtain ⟨G4, s4, d4, p4⟩ := n4.kp (show Kp H4 H5 by walk_at "kp")
      obtain ⟨G3, s3, d3, p3⟩ := n3.kp (show Kp H3 H5 by walk_at "kp")
      subst ee
      exact q _ H5 FF (hat.kp FF) (by walk_at "ha") ⟨.wit G3 G4, sem_wit s3 s4, by show max (dep G3) (dep G4) + 1 ≤ _; omega, Rp3 et p3 p4⟩
    · walk_at "rh"
      exact rest1
  walk_at "rh"
  have e0 : decide (V.int (e : Int) = V.int 0) = decide (e = 0) := by
    refine decide_eq_decide.mpr ⟨fun z => ?_, fun z => by rw [z]; rfl⟩
    have := V.int.inj z; omega
  rw [e0]
  by_cases hz : e = 0
  · refine ifT (decide_eq_true hz) ?_
    refine ifT rfl ?_
    walk_at "rh"
    refine rd_lcR fun D H2 fD f2 eD => ?_
    have ⟨nDh, nDc⟩ := hat1.new fD
    refine ⟨fun k acc H' => Fr [h, c] H H' ∧ HAt H' h c n ∧ acc.length = k ∧ ∀ v ∈ acc, NuOk K H' (e - 1) v, ⟨f1.trans f2.nil, hat1.mono f2, rfl, by simp⟩, fun k acc H' hk e' ⟨f', hat', hl, hp⟩ => ?_, fun acc H' e' ⟨f', hat', hl, hp⟩ => ?_⟩
    · walk_at "rh"
      refine ifT rfl ?_
      walk_at "rh"
      refine c_nu (e := e - 1) (by walk_at "ha") (by split <;> omega) (by omega) fun v H3 f3 k3 hat3 n3 => ?_
      have e3 := f3.at2 e' nDh nDc
      refine rd_lcend e3 (by omega) fun H4 f4 k4 e4 => ?_
      refine ⟨(f'.trans f3).then1 f4 (f1.freeM fD (by simp [nDh, nDc])), hat3.mono1 f4 nDh nDc, by simp [hl], fun x hx => ?_⟩
      rcases List.mem_append.mp hx with hx | hx
      · exact (hp x hx).kp (k3.trans k4)
      · rw [show x = v by simpa using hx]; exact n3.kp k4
    match acc, hl with
    | [v1, v2, v3], _ =>
    walk_at "rh"
    refine rd_tupL (SqL.of e') fun s1 H3 _ f3 es1 => ?_
    walk_at "rh"
    refine c_ro (e := e - 1) (by walk_at "ha") (by split <;> omega) (by omega) fun v4 H4 f4 k4 hat4 n4 => ?_
    walk_at "rh"
    refine rd_newT (by simp) fun s2 H5 _ f5 es2 => ?_
    have ks1 : SqT K H5 s1 [v1, v2, v3] := (show Kp H3 H5 by walk_at "kp").sq (SqT.of es1)
    refine rd_plusT ks1 (SqT.of es2) (Nat.le_of_lt (small1000 (by simp))) fun s3 H6 f6 es3 => ?_
    walk_at "rh"
    refine rd_newT (by simp) fun s4 H7 _ f7 es4 => ?_
    have kk4 : Kp H4 H7 := by walk_at "kp"
    have kk0 : Kp H' H7 := by walk_at "kp"
    obtain ⟨G1, g1, d1, q1⟩ := (hp v1 (by simp)).kp kk0
    obtain ⟨G2, g2, d2, q2⟩ := (hp v2 (by simp)).kp kk0
    obtain ⟨G3, g3, d3, q3⟩ := (hp v3 (by simp)).kp kk0
    obtain ⟨G4, g4, d4, q4⟩ := n4.kp kk4
    have FF : Fr [h, c] H H7 := f'.trans (f3.nil.trans (f4.trans (f5.nil.trans (f6.nil.trans f7.nil))))
    refine q _ H7 FF (hat.kp FF) (by walk_at "ha") ⟨.tuple G1 G2 G3 G4, (sem_tuple g1 g2 g3 g4).up (by omega), ?_, ?_⟩
    · show max (max (dep G1) (dep G2)) (max (dep G3) (dep G4)) + 1 ≤ _
      omega
    · exact ⟨s4, _, rfl, SqT.of es4, _, _, rfl, rfl, _, _, rfl, ⟨s3, _, rfl, f7.tup0 es3, _, _, rfl, q1, _, _, rfl, q2, _, _, rfl, q3, _, _, rfl, q4, rfl⟩, rfl⟩
  · refine ifF (decide_eq_false hz) ?_
    walk_at "rh"
    refine ite2 (fun hc => ?_) (fun hc => ?_)
    · skip
      walk_at "rh"
      refine rd_lcR fun D H2 fD f2 eD => ?_
      have ⟨nDh, nDc⟩ := hat1.new fD
      refine ⟨fun k acc H' => Fr [h, c] H H' ∧ HAt H' h c n ∧ acc.length = k ∧ ∀ v ∈ acc, NuOk K H' (e - 1) v, ⟨f1.trans f2.nil, hat1.mono f2, rfl, by simp⟩, fun k acc H' hk e' ⟨f', hat', hl, hp⟩ => ?_, fun acc H' e' ⟨f', hat', hl, hp⟩ => ?_⟩
      · walk_at "rh"
        refine ifT rfl ?_
        walk_at "rh"
        refine c_nu (e := e - 1) (by walk_at "ha") (by split <;> omega) (by omega) fun v H3 f3 k3 hat3 n3 => ?_
        have e3 := f3.at2 e' nDh nDc
        refine rd_lcend e3 (by omega) fun H4 f4 k4 e4 => ?_
        refine ⟨(f'.trans f3).then1 f4 (f1.freeM fD (by simp [nDh, nDc])), hat3.mono1 f4 nDh nDc, by simp [hl], fun x hx => ?_⟩
        rcases List.mem_append.mp hx with hx | hx
        · exact (hp x hx).kp (k3.trans k4)
        · rw [show x = v by simpa using hx]; exact n3.kp k4
      match acc, hl with
      | [v1, v2, v3], _ =>
      walk_at "rh"
      refine rd_tupL (SqL.of e') fun s1 H3 _ f3 es1 => ?_
      walk_at "rh"
      refine c_ro (e := e - 1) (by walk_at "ha") (by split <;> omega) (by omega) fun v4 H4 f4 k4 hat4 n4 => ?_
      walk_at "rh"
      refine rd_newT (by simp) fun s2 H5 _ f5 es2 => ?_
      have ks1 : SqT K H5 s1 [v1, v2, v3] := (show Kp H3 H5 by walk_at "kp").sq (SqT.of es1)
      refine rd_plusT ks1 (SqT.of es2) (Nat.le_of_lt (small1000 (by simp))) fun s3 H6 f6 es3 => ?_
      walk_at "rh"
      refine rd_newT (by simp) fun s4 H7 _ f7 es4 => ?_
      have kk4 : Kp H4 H7 := by walk_at "kp"
      have kk0 : Kp H' H7 := by walk_at "kp"
      obtain ⟨G1, g1, d1, q1⟩ := (hp v1 (by simp)).kp kk0
      obtain ⟨G2, g2, d2, q2⟩ := (hp v2 (by simp)).kp kk0
      obtain ⟨G3, g3, d3, q3⟩ := (hp v3 (by simp)).kp kk0
      obtain ⟨G4, g4, d4, q4⟩ := n4.kp kk4
      have FF : Fr [h, c] H H7 := f'.trans (f3.nil.trans (f4.trans (f5.nil.trans (f6.nil.trans f7.nil))))
      refine q _ H7 FF (hat.kp FF) (by walk_at "ha") ⟨.tuple G1 G2 G3 G4, (sem_tuple g1 g2 g3 g4).up (by omega), ?_, ?_⟩
      · show max (max (dep G1) (dep G2)) (max (dep G3) (dep G4)) + 1 ≤ _
        omega
      · exact ⟨s4, _, rfl, SqT.of es4, _, _, rfl, rfl, _, _, rfl, ⟨s3, _, rfl, f7.tup0 es3, _, _, rfl, q1, _, _, rfl, q2, _, _, rfl, q3, _, _, rfl, q4, rfl⟩, rfl⟩
    · walk_at "rh"
      exact rest (e - 1) (by omega)
theorem none_draw {x : Str} {st : Stmt} {ps : List Str} {sp : Sp} {k : Nat} (F : Here K mg x st ps) (no : ∀ vs H Q E, ¬ sp vs H Q E) : DefOk P w K mg base CX0 x ps k sp := by
  obtain ⟨f, fd, F, hm, hb⟩ := F.ex
  exact ⟨f, fd, ⟨fun vs H Q E h => absurd h (no vs H Q E), fun A outer s H args us vs Q E _ _ _ _ h => absurd h (no vs H Q E)⟩, F.kp, hb, hm⟩
theorem ok_draws (T : Blt mg) (n : Nat) (FX : Here K mg "_law_next" s__law_next ["_law_h", "_law_many"]) (FF : Here K mg "_law_flat" s__law_flat ["_law_h"]) (FN : Here K mg "_law_number" s__law_number ["_law_h", "_law_deep"]) (FR : Here K mg "_law_rowed" s__law_rowed ["_law_h", "_law_deep"]) (FT : Here K mg "_law_tuple" s__law_tuple ["_law_h", "_law_deep"]) :
    ∀ d, DefOk P w K mg base CX0 "_law_number" ["_law_h", "_law_deep"] (3 * d + 2) (spNu K n d) ∧ DefOk P w K mg base CX0 "_law_rowed" ["_law_h", "_law_deep"] (3 * d + 2) (spRo K n d) ∧ DefOk P w K mg base CX0 "_law_tuple" ["_law_h", "_law_deep"] (3 * d + 2) (spTu K n d)
  | 0 => ⟨none_draw FN fun _ _ _ _ ⟨_, h, _⟩ => Nat.not_lt_zero _ h, none_draw FR fun _ _ _ _ ⟨_, h, _⟩ => Nat.not_lt_zero _ h, none_draw FT fun _ _ _ _ ⟨_, h, _⟩ => Nat.not_lt_zero _ h⟩
  | d + 1 => by
    obtain ⟨N, R, U⟩ := ok_draws T n FX FF FN FR FT d
    have X := ok_next (P := P) (w := w) (base := base) n T FX
    have L := ok_flat (P := P) (w := w) (base := base) T n FF X
    have N1 := ok_number T n d (3 * d + 2) (by omega) FN X N U
    have R1 := ok_rowed T n d (3 * d + 3) (by omega) FR X N1 (R.mono (by omega))
    have U1 := ok_tuple T n d (3 * d + 4) (by omega) FT X L (N1.mono (by omega)) R1 (U.mono (by omega))
    exact ⟨N1.mono (by omega), R1.mono (by omega), U1⟩
end
end Lf
namespace Lf
open PySem PySem.Spec PyProof.Rows L2
def spLaw (K : PySem.W.Frag) : Sp := fun vs H Q _ => ∃ (a : Addr) (ns : List Int), vs = [.ref a] ∧ SqL K H a (ns.map V.int) ∧ ns.length ≤ 63 ∧ ∀ H', Q (.bl true) H'
/-- a fold of any kind, as it was drawn -/
def AnyOk (K : PySem.W.Frag) (H : Hp) (v : V) : Prop := ∃ (k : Kd) (F : Fo k), Sem 4 F ∧ dep F ≤ 23 ∧ Rp K H (enc F) v
theorem AnyOk.kp {K : PySem.W.Frag} {H H1 : Hp} {v : V} (h : AnyOk K H v) (k : Kp H H1) : AnyOk K H1 v := by
  obtain ⟨kd, F, a, b, c⟩ := h; exact ⟨kd, F, a, b, c.mono k⟩
def pd : (k : Kd) → Vl k → PyData
  | .num, x => .int x
  | .row, x => .list ((show List Int from x).map PyData.int)
  | .tup, x => .tuple [.int (show Sl from x).a, .int (show Sl from x).b, .int (show Sl from x).c, .list ((show Sl from x).r.map PyData.int)]
theorem eqvAll_refl : ∀ xs : List Int, PyData.eqvAll (xs.map PyData.int) (xs.map PyData.int) = true
  | [] => rfl
  | x :: r => by simp [PyData.eqvAll, PyData.eqv, eqvAll_refl r]
theorem eqv_pd : (k : Kd) → (x : Vl k) → PyData.eqv (pd k x) (pd k x) = true
  | .num, x => by simp [pd, PyData.eqv]
  | .row, x => by show PyData.eqvAll _ _ = true; exact eqvAll_refl _
  | .tup, x => (eqv_sl x x).mpr rfl
theorem shaped_pd : (k : Kd) → (x : Vl k) → SeqAt.shaped (pd k x) = true
  | .num, x => rfl
  | .row, x => shaped_ints x
  | .tup, x => shaped_sl x
theorem ResAt.dp {K : PySem.W.Frag} {H0 H : Hp} : {k : Kd} → {v : V} → {x : Vl k} → ResAt K H0 H k v x → Dp K H v (pd k x)
  | .num, _, _, h => by cases h; exact .int _
  | .row, _, x, ⟨p, e, _, h⟩ => by subst e; exact .lst (SqL.of h) (dp_ints' _)
  | .tup, _, x, h => (ResAt.sl h).dp
theorem DatR.dp {K : PySem.W.Frag} {H0 H : Hp} {r0 : Addr} {s : Sl} (f : Fr [] H0 H) (e : SqL K H0 r0 (s.r.map V.int)) : {k : Kd} → {v : V} → {x : Vl k} → DatR K H0 H r0 s k v x → Dp K H v (pd k x)
  | .num, _, _, h => by cases h; exact .int _
  | .row, _, x, ⟨p, e', h⟩ => by subst e'; exact .lst (h.sq f e) (dp_ints' _)
  | .tup, _, x, h => by obtain ⟨r, h, _⟩ := DatR.slots f e h; exact h.at.dp
theorem rd_neSame {K : PySem.W.Frag} {H : Hp} {Q : VK} {x y : V} {d : PyData} (h1 : Dp K H x d) (h2 : Dp K H y d) (s : SeqAt.shaped d = true) (e : PyData.eqv d d = true) (q : Q (.bl false) H) : rNeA K x y H Q :=
  rd_neD h1 h2 s s (by rw [e]; exact q)
/-- isinstance of what came back -/
theorem res_isi {K : PySem.W.Frag} {H0 H : Hp} {n : String} {Q : VK} {k : Kd} {v : V} {x : Vl k} {b1 b2 b3 : Bool} (h : ResAt K H0 H k v x) (k1 : kitB "int" n = some b1) (k2 : kitB "list" n = some b2) (k3 : kitB "tuple" n = some b3)
    (q : ∀ b, b = (match k with | .num => b1 | .row => b2 | .tup => b3) → Q (.bl b) H) : rIsi K [v, .ty n] H Q := by
  match k, x, h with
  | .num, _, h => cases h; exact rd_isi (.base (.int _)) k1 (q _ rfl)
  | .row, _, ⟨p, e, _, hp⟩ => subst e; exact rd_isi (.base (.lst hp)) k2 (q _ rfl)
  | .tup, _, ⟨p, r, e, s, _, _⟩ => subst e; exact rd_isi (ty_tup s) k3 (q _ rfl)
section
variable {P : Program} {w : World} {K : PySem.W.Frag} {mg : Str → Option Value} {base : Heap}
abbrev s_law : Stmt := top 12
abbrev N_law : List Str := ["_law_script", "_law_h", "_law_turn", "_law_fold", "_law_row", "_law_k", "_law_slots", "_law_kept", "_law_found"]
theorem sc_law : FnScope N_law ["_law_script"] (defScope s_law) := ⟨rfl, rfl, rfl, by decide +kernel, rfl, by decide +kernel, by decide +kernel⟩
theorem ok_law (T : Blt mg) (D__law_next : ∀ n, DefOk P w K mg base CX0 "_law_next" ["_law_h", "_law_many"] 1 (spNext n)) (D__law_number : ∀ n, DefOk P w K mg base CX0 "_law_number" ["_law_h", "_law_deep"] 17 (spNu K n 5)) (D__law_rowed : ∀ n, DefOk P w K mg base CX0 "_law_rowed" ["_law_h", "_law_deep"] 17 (spRo K n 5))
    (D__law_tuple : ∀ n, DefOk P w K mg base CX0 "_law_tuple" ["_law_h", "_law_deep"] 17 (spTu K n 5)) (D_value : DefOk P w K mg base CX0 "value" ["fold", "slots"] 50 (fun vs H Q E => spValue K 24 vs H Q E ∨ spRowT K vs H Q E)) (D__law_come_to : DefOk P w K mg base CX0 "_law_come_to" ["_law_fold", "_law_slots"] 26 (spCome K 24))
    {fa : Addr} {fd : FuncData} (F : Fun K "law" "law" s_law fa fd) : FnOk P w K mg base CX0 51 fa fd ["_law_script"] (spLaw K) := by
  refine F.ok sc_law (fun vs H Q E h => ?_) (fun cdv A outer s H vs Q E hr h => ?_)
  · obtain ⟨_, _, rfl, _⟩ := h; rfl
  obtain ⟨a, ns, rfl, hS, hlen, q⟩ := h
  have hu64 := hr.units
  have hr__law_next := hr.mono (j := 1) (by decide)
  have hr__law_number := hr.mono (j := 17) (by decide)
  have hr__law_rowed := hr.mono (j := 17) (by decide)
  have hr__law_tuple := hr.mono (j := 17) (by decide)
  have hr_value := hr
  have hr__law_come_to := hr.mono (j := 26) (by decide)
  have D__law_next := D__law_next ns.length
  have D__law_number := D__law_number ns.length
  have D__law_rowed := D__law_rowed ns.length
  have D__law_tuple := D__law_tuple ns.length
  refine ⟨_, (pss_cons (ps_set (i := 1) sc_law.nd rfl (Or.inr rfl) (pe_lst (pa_cons pe_int (pa_cons (pe_callTy call_listA (by rfl) T.n_list (by decide +kernel) (pa_cons (pv 0) pa_nil)) (pa_cons pe_int pa_nil)))))
    (pss_cons (ps_for PassesOwn.never rfl (pi_range1 (by rfl) T.n_range (pa_cons pe_int pa_nil)) (pg_name (i := 2) sc_law.nd rfl (Or.inl rfl))
    (pss_cons (ps_set (i := 3) sc_law.nd rfl (Or.inl rfl) (pe_ix ix_seq (pe_lst (pa_cons (pe_callD D__law_number hr__law_number pass0 (pa_cons (pv 1) (pa_cons pe_int pa_nil))) (pa_cons (pe_callD D__law_tuple hr__law_tuple pass0 (pa_cons (pv 1) (pa_cons pe_int pa_nil))) (pa_cons (pe_callD D__law_rowed hr__law_rowed pass0 (pa_cons (pv 1) (pa_cons pe_int pa_nil))) pa_nil)))) (pe_callD D__law_next hr__law_next pass0 (pa_cons (pv 1) (pa_cons pe_int pa_nil))) (fun _ _ => rfl)))
    (pss_cons (ps_setLc (i := 4) (own := [("_law_k", 5)]) (g := gName 5) (tt := tYes) (by rfl) sc_law.nd rfl rfl (sw_true rfl rfl rfl (by decide +kernel)) (pi_range1 (by rfl) T.n_range (pa_cons (pe_callD D__law_next hr__law_next pass0 (pa_cons (pv 1) (pa_cons pe_int pa_nil))) pa_nil)) (blkOk_by (own := [("_law_k", 5)]) (N := N_law) (sc := defScope s_law) (by decide +kernel)) (fun _ _ _ _ _ => (pg_name (i := 5) sc_law.nd rfl (Or.inl rfl))) (fun _ _ _ _ _ => pts_nil) (fun _ _ _ _ _ => (pe_callD D__law_next hr__law_next pass0 (pa_cons (pv 1) (pa_cons pe_int pa_nil)))))
    (pss_cons (ps_set (i := 6) sc_law.nd rfl (Or.inl rfl) (pe_tup (pa_cons (pe_callD D__law_next hr__law_next pass0 (pa_cons (pv 1) (pa_cons pe_int pa_nil))) (pa_cons (pe_callD D__law_next hr__law_next pass0 (pa_cons (pv 1) (pa_cons pe_int pa_nil))) (pa_cons (pe_callD D__law_next hr__law_next pass0 (pa_cons (pv 1) (pa_cons pe_int pa_nil))) (pa_cons (pv 4) pa_nil))))))
    (pss_cons (ps_set (i := 7) sc_law.nd rfl (Or.inl rfl) (pe_callTy call_listA (by rfl) T.n_list (by decide +kernel) (pa_cons (pv 4) pa_nil)))
    (pss_cons (ps_set (i := 8) sc_law.nd rfl (Or.inl rfl) (pe_callD D_value hr_value pass0 (pa_cons (pv 3) (pa_cons (pv 6) pa_nil))))
    (pss_cons (ps_if (PW.pt (pw_or (pt_cmpR (op_neA hu64) (pv 8) (pe_callD D__law_come_to hr__law_come_to pass0 (pa_cons (pv 3) (pa_cons (pv 6) pa_nil))) (nomark _)) (pw_or (pt_cmpR (op_neA hu64) (pv 4) (pv 7) (nomark _)) (pw_or1 (pt_val (pe_callB call_isiA (by rfl) T.n_isinstance (by decide +kernel) (pa_cons (pv 8) (pa_cons (pe_tyN (n := "bool") (by rfl) T.n_bool (by decide +kernel)) pa_nil))))))))
    (pss_one (ps_ret pe_bl))
    pss_nil)
    (pss_cons (ps_if (pt_val (pe_callB call_isiA (by rfl) T.n_isinstance (by decide +kernel) (pa_cons (pv 8) (pa_cons (pe_tyN (n := "list") (by rfl) T.n_list (by decide +kernel)) pa_nil))))
    (pss_one (ps_expr (pe_bm PySem.F.plainAttrs_list PySem.F.slot_list_append PySem.F.type_list_append mt_append (pv 8) (pa_cons pe_int pa_nil))))
    pss_nil)
    (pss_cons (ps_if (pt_val (pe_callB call_isiA (by rfl) T.n_isinstance (by decide +kernel) (pa_cons (pv 8) (pa_cons (pe_tyN (n := "tuple") (by rfl) T.n_tuple (by decide +kernel)) pa_nil))))
    (pss_one (ps_expr (pe_bm PySem.F.plainAttrs_list PySem.F.slot_list_append PySem.F.type_list_append mt_append (pe_ix ix_seq (pv 8) pe_int (fun _ _ => rfl)) (pa_cons pe_int pa_nil))))
    pss_nil)
    (pss_cons (ps_expr (pe_bm PySem.F.plainAttrs_list PySem.F.slot_list_append PySem.F.type_list_append mt_append (pe_callD D_value hr_value pass0 (pa_cons (pe_tup (pa_cons pe_str (pa_cons pe_int pa_nil))) (pa_cons (pv 6) pa_nil))) (pa_cons pe_int pa_nil)))
    (pss_cons (ps_expr (pe_bm PySem.F.plainAttrs_list PySem.F.slot_list_append PySem.F.type_list_append mt_append (pe_ix ix_seq (pe_callD D_value hr_value pass0 (pa_cons (pe_tup (pa_cons pe_str (pa_cons (pe_tup (pa_cons (pe_tup (pa_cons pe_str (pa_cons pe_int pa_nil))) pa_nil)) pa_nil))) (pa_cons (pv 6) pa_nil))) pe_int (fun _ _ => rfl)) (pa_cons pe_int pa_nil)))
    (pss_one (ps_if (pt_cmpR (op_neA hu64) (pv 4) (pv 7) (nomark _))
    (pss_one (ps_ret pe_bl))
    pss_nil)))))))))))))
    (pss_one (ps_ret pe_bl)))), ?_⟩
  walk_at "rh"
  refine rd_list hS fun c H1 fc f1 ec => ?_
  walk_at "rh"
  refine rd_newL (by simp) fun h H2 fh f2 eh => ?_
  have ec2 := f2.at ec
  have ne : h ≠ c := (ne_of_none ec fh).symm
  have hat : HAt H2 h c ns.length := ⟨ne, 79, 0, ns, eh, ec2, by decide, rfl⟩
  walk_at "rh"
  refine rd_forR (fun _ σ' H' => ∃ (u2 u3 u4 u5 u6 u7 u8 : Option V), σ' = [some (.ref a), some (.ref h), u2, u3, u4, u5, u6, u7, u8] ∧ HAt H' h c ns.length) ⟨_, _, _, _, _, _, _, rfl, hat⟩ ?_ ?_
  rotate_left
  · rintro σ' H3 ⟨u2, u3, u4, u5, u6, u7, u8, rfl, hat⟩
    walk_at "rh"
    exact q H3
  rintro i σ' H3 hi ⟨u2, u3, u4, u5, u6, u7, u8, rfl, hat⟩
  walk_at "rh"
  refine c_nu (e := 4) (by walk_at "ha") rfl (by decide) fun v4 H4 f4 k4 hat4 n4 => ?_
  walk_at "rh"
  refine c_tu (e := 4) (by walk_at "ha") rfl (by decide) fun v5 H5 f5 k5 hat5 n5 => ?_
  walk_at "rh"
  refine c_ro (e := 3) (by walk_at "ha") rfl (by decide) fun v6 H6 f6 k6 hat6 n6 => ?_
  walk_at "rh"
  refine rd_newL (by simp) fun l H7 fl f7 el => ?_
  have ⟨nlh, nlc⟩ := hat6.new fl
  walk_at "rh"
  walk_at "nx"
  intro r8 H8 a8 b8 f8 k8 hat8
  obtain ⟨fv, hfv, haf⟩ := atI_in (vs := [v4, v5, v6]) a8 (by simpa using b8)
  refine rd_ixH (f8.at2 el nlh nlc) haf ?_
  have A8 : AnyOk K H8 fv := by
    have kp6 : Kp H6 H8 := by walk_at "kp"
    have kp5 : Kp H5 H8 := by walk_at "kp"
    have kp4 : Kp H4 H8 := by walk_at "kp"
    simp only [List.mem_cons, List.not_mem_nil, or_false] at hfv
    rcases hfv with rfl | rfl | rfl
    · obtain ⟨G, g1, g2, g3⟩ := n4.kp kp4; exact ⟨.num, G, g1, by omega, g3⟩
    · obtain ⟨G, g1, g2, g3⟩ := n5.kp kp5; exact ⟨.tup, G, g1, by omega, g3⟩
    · obtain ⟨G, g1, g2, g3⟩ := n6.kp kp6; exact ⟨.row, G, g1.up (by decide), by omega, g3⟩
  clear n4 n5 n6 hfv haf
  walk_at "rh"
  walk_at "nx"
  intro r9 H9 a9 b9 f9 k9 hat9
  walk_at "rh"
  refine rd_rng1 (j := r9) (by omega) ?_
  refine rd_lcR fun D H10 fD f10 eD => ?_
  have ⟨nDh, nDc⟩ := hat9.new fD
  refine ⟨fun k acc H' => Fr [h, c] H9 H' ∧ Kp H9 H' ∧ HAt H' h c ns.length ∧ ∃ xs : List Int, acc = xs.map V.int ∧ xs.length = k, ⟨f10.nil, f10.kp0, hat9.mono f10, [], rfl, rfl⟩, fun k acc H' hk e' ⟨f', k', hat', xs, hxs, hl⟩ => ?_, fun acc H11 e11 ⟨f11, k11, hat11, xs, hxs, hl⟩ => ?_⟩
  · walk_at "rh"
    refine ifT rfl ?_
    walk_at "rh"
    walk_at "nx"
    intro r12 H12 a12 b12 f12 k12 hat12
    refine rd_lcend (f12.at2 e' nDh nDc) (by rw [hxs, List.length_map]; omega) fun H13 f13 k13 e13 => ?_
    refine ⟨(f'.trans f12).then1 f13 fD, k'.trans (k12.trans k13), hat12.mono1 f13 nDh nDc, xs ++ [r12], by rw [hxs]; simp, by simp [hl]⟩
  subst hxs
  have hl2 : xs.length ≤ 2 := by omega
  walk_at "rh"
  walk_at "nx"
  intro r12 H12 a12 b12 f12 k12 hat12
  walk_at "rh"
  walk_at "nx"
  intro r13 H13 a13 b13 f13 k13 hat13
  walk_at "rh"
  walk_at "nx"
  intro r14 H14 a14 b14 f14 k14 hat14
  have eD14 : H14 D = some (.lst (xs.map V.int)) := f14.at2 (f13.at2 (f12.at2 e11 nDh nDc) nDh nDc) nDh nDc
  walk_at "rh"
  refine rd_newT (by simp) fun sl H15 _ f15 esl => ?_
  walk_at "rh"
  refine rd_list (SqL.of (f15.at eD14)) fun kept H16 fk f16 ek => ?_
  have A16 : AnyOk K H16 fv := A8.kp (by walk_at "kp")
  have hat16 : HAt H16 h c ns.length := by walk_at "ha"
  have eD16 : H16 D = some (.lst (xs.map V.int)) := f16.at (f15.at eD14)
  let sx : Sl := ⟨r12, r13, r14, xs⟩
  have hsl : SlR K H16 (.ref sl) D sx := ⟨sl, rfl, f16.tup0 (SqT.of esl), SqL.of eD16⟩
  have hsb : SlB 7 2 sx := ⟨by show r12.natAbs < 2 ^ 7; omega, by show r13.natAbs < 2 ^ 7; omega, by show r14.natAbs < 2 ^ 7; omega, hl2⟩
  clear f4 f5 f6 f7 f8 f9 f10 f11 f12 f13 f14 f15 f16 hat4 hat5 hat6 hat8 hat9 hat11 hat12 hat13 hat14 k4 k5 k6 k8 k9 k11 k12 k13 k14 A8 eD14 e11 el
  obtain ⟨kd, G, hsem, hdep, hR⟩ := A16
  have hfit := hsem.fits hsb
  -- all that is asked from here on is known at H16; what is laid since is forgotten
  have keep : ∀ {Hk : Hp}, Fr [] H16 Hk → SlR K Hk (.ref sl) D sx ∧ HAt Hk h c ns.length ∧ Hk D = some (.lst (xs.map V.int)) ∧ Hk kept = some (.lst (xs.map V.int)) ∧ Rp K Hk (enc G) fv :=
    fun g => ⟨hsl.mono g, hat16.mono g, g.at eD16, g.at ek, hR.mono g.kp0⟩
  walk_at "rh"
  refine .inl ⟨kd, G, sx, fv, _, rfl, hR, hsl.at, by omega, hfit, fun v H17 g17 hv => ?_⟩
  walk_at "rs"
  with_reducible refine rd_seqc fun N hN => ?_
  -- behind the first test
  have go1 : ∀ Hk, Fr [] H16 Hk → ResAt K H16 Hk kd v (ev G sx) → N ([some (.ref a), some (.ref h), some (.int (0 + (i : Int))), some fv, some (.ref D), u5, some (.ref sl), some (.ref kept), some v]) Hk := by
    intro Hk gk hvk
    refine hN _ _ ?_
    with_reducible refine rd_seqc fun N1 hN1 => ?_
    have go2 : ∀ Hk, Fr [] H16 Hk → (kd = .tup → ResAt K H16 Hk kd v (ev G sx)) → (kd ≠ .tup → ∀ n, kitB "int" n = some false → kitB "list" n = some false → ∀ (Q : VK), Q (.bl false) Hk → rIsi K [v, .ty n] Hk Q) → N1 ([some (.ref a), some (.ref h), some (.int (0 + (i : Int))), some fv, some (.ref D), u5, some (.ref sl), some (.ref kept), some v]) Hk := by
      intro Hk gk ht hnt
      refine hN1 _ _ ?_
      with_reducible refine rd_seqc fun N2 hN2 => ?_
      have go3 : ∀ Hk, Fr [] H16 Hk → N2 ([some (.ref a), some (.ref h), some (.int (0 + (i : Int))), some fv, some (.ref D), u5, some (.ref sl), some (.ref kept), some v]) Hk := by
        intro Hk gk
        refine hN2 _ _ ?_
        obtain ⟨sk, hatk, eDk, ekk, _⟩ := keep gk
        walk_at "rh"
        refine rd_newT (by simp) fun t1 J1 _ j1 et1 => ?_
        walk_at "rh"
        refine .inl ⟨.row, .row3, sx, _, _, rfl, Rp2 (x := .int 3) et1 rfl, (sk.mono j1).at, by decide, show xs.length ≤ 900 from by omega, fun v2 J2 j2 hv2 => ?_⟩
        obtain ⟨p2, rfl, n2, e2⟩ := hv2
        have p2f : H16 p2 = none := (gk.trans j1).free n2
        walk_at "rh"
        refine rd_app e2 (by show (xs.map V.int).length ≤ 1000; rw [List.length_map]; omega) fun J3 j3 kj3 e3 => ?_
        have G3 : Fr [] H16 J3 := (gk.trans (j1.trans j2)).then1 j3 p2f
        obtain ⟨sk3, _, _, _, _⟩ := keep G3
        walk_at "rh"
        refine rd_newT (by simp) fun t4 J4 _ j4 et4 => ?_
        walk_at "rh"
        refine rd_newT (by simp) fun t5 J5 _ j5 et5 => ?_
        walk_at "rh"
        refine rd_newT (by simp) fun t6 J6 _ j6 et6 => ?_
        have r4 : Rp K J6 (enc .row3) (.ref t4) := (Rp2 (x := .int 3) et4 rfl : Rp K J4 _ _).mono (show Kp J4 J6 by walk_at "kp")
        walk_at "rh"
        have R6 : Rp K J6 (.tup [.str "tuple", .tup [enc .row3]]) (.ref t6) := Rp2 et6 ⟨t5, _, rfl, SqT.of (j6.at et5), _, _, rfl, r4, rfl⟩
        refine .inr ⟨sx, _, _, rfl, R6, ((sk3.mono j4).mono (j5.trans j6)).at, show xs.length ≤ 900 from by omega, fun t r J7 j7 st nr er => ?_⟩
        have F6 : Fr [] H16 J6 := G3.trans (j4.trans (j5.trans j6))
        refine rd_ixT st rfl ?_
        walk_at "rh"
        refine rd_app er (by show (xs.map V.int).length ≤ 1000; rw [List.length_map]; omega) fun J8 j8 kj8 e8 => ?_
        have G8 : Fr [] H16 J8 := (F6.trans j7).then1 j8 (F6.free nr)
        obtain ⟨_, hat8, eD8, ek8, _⟩ := keep G8
        walk_at "rh"
        refine rd_neSame (.lst (SqL.of eD8) (dp_ints xs)) (.lst (SqL.of ek8) (dp_ints xs)) (shaped_ints xs) (eqvAll_refl xs) ?_
        walk_at "rs"
        refine ifF rfl ?_
        walk_at "rs"
        exact ⟨_, _, _, _, _, _, _, rfl, hat8⟩
      by_cases htup : kd = .tup
      · subst htup
        obtain ⟨p, r, rfl, st, nr, er⟩ := ht rfl
        walk_at "rh"
        refine rd_isi (k := true) (ty_tup st) (by decide +kernel) ?_
        walk_at "rs"
        refine ifT rfl ?_
        walk_at "rh"
        refine rd_app er (by
          have hv2 := (hsem 7 2 sx (by decide) (by decide) hsb).2
          have hv3 := (show SlB _ _ (ev G sx) from hv2).hr
          have h900 : la 4 2 ≤ 900 := by decide
          show ((ev G sx).r.map V.int).length ≤ 1000
          rw [List.length_map]; omega) fun J1 j1 kj1 e1 => ?_
        walk_at "rh"
        exact go3 J1 (gk.then1 j1 nr)
      · walk_at "rh"
        refine hnt htup "tuple" (by decide +kernel) (by decide +kernel) _ ?_
        walk_at "rs"
        refine ifF rfl ?_
        walk_at "rh"
        exact go3 Hk gk
    walk_at "rs"
    refine res_isi hvk (b1 := false) (b2 := true) (b3 := false) (by decide +kernel) (by decide +kernel) (by decide +kernel) fun b hb => ?_
    walk_at "rs"
    match kd, G, hvk, hb with
    | .num, G, hvk, hb =>
      subst hb
      refine ifF rfl ?_
      walk_at "rh"
      refine go2 Hk gk (fun z => by cases z) fun _ n k1 k2 Q q => ?_
      have e : v = .int (ev G sx) := hvk
      subst e
      exact rd_isi (.base (.int _)) k1 q
    | .row, G, hvk, hb =>
      subst hb
      refine ifT rfl ?_
      obtain ⟨p, rfl, np, ep⟩ := hvk
      walk_at "rh"
      refine rd_app ep (by
        have hv2 := (hsem 7 2 sx (by decide) (by decide) hsb).2
        have hv3 : (ev G sx).length ≤ la 4 2 := hv2
        have h900 : la 4 2 ≤ 900 := by decide
        show ((ev G sx).map V.int).length ≤ 1000
        rw [List.length_map]; omega) fun J1 j1 kj1 e1 => ?_
      walk_at "rh"
      exact go2 J1 (gk.then1 j1 np) (fun z => by cases z) fun _ n k1 k2 Q q => rd_isi (.base (.lst e1)) k2 q
    | .tup, G, hvk, hb =>
      subst hb
      refine ifF rfl ?_
      walk_at "rh"
      exact go2 Hk gk (fun _ => hvk) fun z => absurd rfl z
  walk_at "rs"
  refine ⟨kd, G, sx, D, _, _, rfl, hR.mono g17.kp0, hsl.mono g17, by omega, hfit, fun v18 H18 g18 hv18 => ?_⟩
  have hv' := hv.mono g18
  have F18 : Fr [] H16 H18 := g17.trans g18
  obtain ⟨_, _, eD18, ek18, _⟩ := keep F18
  refine rd_neSame hv'.dp (hv18.dp g18 (SqL.of (g17.at eD16))) (shaped_pd _ _) (eqv_pd _ _) ?_
  walk_at "rs"
  refine ifF rfl ?_
  walk_at "rs"
  refine rd_neSame (.lst (SqL.of eD18) (dp_ints xs)) (.lst (SqL.of ek18) (dp_ints xs)) (shaped_ints xs) (eqvAll_refl xs) ?_
  walk_at "rs"
  refine ifF rfl ?_
  walk_at "rs"
  refine res_isi hv' (b1 := false) (b2 := false) (b3 := false) (by decide +kernel) (by decide +kernel) (by decide +kernel) fun b hb => ?_
  have hb : b = false := by cases kd <;> exact hb
  subst hb
  walk_at "rs"
  refine ifF rfl ?_
  walk_at "rs"
  exact go1 H18 F18 hv'
/-- everything together -/
theorem glue (T : Blt mg) (F_copied : Here K mg "copied" s_copied ["one"]) (F_value : Here K mg "value" s_value ["fold", "slots"]) (F_turned : Here K mg "turned" s_turned ["many", "begun", "inner"]) (F_joined : Here K mg "joined" s_joined ["word", "one", "other"])
    (F__law_next : Here K mg "_law_next" s__law_next ["_law_h", "_law_many"]) (F__law_number : Here K mg "_law_number" s__law_number ["_law_h", "_law_deep"]) (F__law_rowed : Here K mg "_law_rowed" s__law_rowed ["_law_h", "_law_deep"]) (F__law_tuple : Here K mg "_law_tuple" s__law_tuple ["_law_h", "_law_deep"])
    (F__law_flat : Here K mg "_law_flat" s__law_flat ["_law_h"]) (F__law_come_to : Here K mg "_law_come_to" s__law_come_to ["_law_fold", "_law_slots"])
    {fa : Addr} {fd : FuncData} (F : Fun K "law" "law" s_law fa fd) : FnOk P w K mg base CX0 51 fa fd ["_law_script"] (spLaw K) := by
  have V := ok_values (P := P) (w := w) (base := base) T F_value F_turned F_copied F_joined 23
  have VB := ok_valueB T 22 48 F_value V (ok_turned T 23 48 F_turned V) (ok_copied T F_copied) (ok_joined F_joined)
  have C := ok_comes (P := P) (w := w) (base := base) T F__law_come_to 24
  have N := fun n => ok_next (P := P) (w := w) (base := base) n T F__law_next
  have R := fun n => ok_draws (P := P) (w := w) (base := base) T n F__law_next F__law_flat F__law_number F__law_rowed F__law_tuple 5
  exact ok_law T N (fun n => (R n).1) (fun n => (R n).2.1) (fun n => (R n).2.2) VB C F
end
end Lf
namespace Lf
open PySem PySem.Spec PyProof.Rows L2
theorem all_mk {l : PySem.W.OpenLaw} {w : World} {K : PySem.W.Frag} {h : Heap} {mg : Str → Option Value} {fa f0 f1 f2 f3 f4 f5 f6 f7 f8 f9 f10 : Addr} (X : K.In h) (G : h.Ns mainGlobals mg) (hfa : mg "law" = some (.ref fa))
    {od0 an0 : Option Addr} {sl0 : Array (Option Value)} {oc0 kV0 dc0 pm0 cd0 ct0 : Value}
    (a0 : PySem.W.nsIn K mainGlobals "copied" = some (some (.ref f0))) (l0 : K.lookup f0 = some ⟨oc0, od0, .func (PySem.W.fnOf "copied" "copied" (defArgs s_copied) (defBody s_copied) (defScope s_copied) .none kV0 dc0 pm0 an0 cd0 ct0), sl0⟩) (c0 : PySem.W.codeIn K cd0 "copied" = true) (k0 : PySem.W.keepIn K (.ref f0) = true)
    {od1 an1 : Option Addr} {sl1 : Array (Option Value)} {oc1 kV1 dc1 pm1 cd1 ct1 : Value}
    (a1 : PySem.W.nsIn K mainGlobals "value" = some (some (.ref f1))) (l1 : K.lookup f1 = some ⟨oc1, od1, .func (PySem.W.fnOf "value" "value" (defArgs s_value) (defBody s_value) (defScope s_value) .none kV1 dc1 pm1 an1 cd1 ct1), sl1⟩) (c1 : PySem.W.codeIn K cd1 "value" = true) (k1 : PySem.W.keepIn K (.ref f1) = true)
    {od2 an2 : Option Addr} {sl2 : Array (Option Value)} {oc2 kV2 dc2 pm2 cd2 ct2 : Value}
    (a2 : PySem.W.nsIn K mainGlobals "turned" = some (some (.ref f2))) (l2 : K.lookup f2 = some ⟨oc2, od2, .func (PySem.W.fnOf "turned" "turned" (defArgs s_turned) (defBody s_turned) (defScope s_turned) .none kV2 dc2 pm2 an2 cd2 ct2), sl2⟩) (c2 : PySem.W.codeIn K cd2 "turned" = true) (k2 : PySem.W.keepIn K (.ref f2) = true)
    {od3 an3 : Option Addr} {sl3 : Array (Option Value)} {oc3 kV3 dc3 pm3 cd3 ct3 : Value}
    (a3 : PySem.W.nsIn K mainGlobals "joined" = some (some (.ref f3))) (l3 : K.lookup f3 = some ⟨oc3, od3, .func (PySem.W.fnOf "joined" "joined" (defArgs s_joined) (defBody s_joined) (defScope s_joined) .none kV3 dc3 pm3 an3 cd3 ct3), sl3⟩) (c3 : PySem.W.codeIn K cd3 "joined" = true) (k3 : PySem.W.keepIn K (.ref f3) = true)
    {od4 an4 : Option Addr} {sl4 : Array (Option Value)} {oc4 kV4 dc4 pm4 cd4 ct4 : Value}
    (a4 : PySem.W.nsIn K mainGlobals "_law_next" = some (some (.ref f4))) (l4 : K.lookup f4 = some ⟨oc4, od4, .func (PySem.W.fnOf "_law_next" "_law_next" (defArgs s__law_next) (defBody s__law_next) (defScope s__law_next) .none kV4 dc4 pm4 an4 cd4 ct4), sl4⟩) (c4 : PySem.W.codeIn K cd4 "_law_next" = true) (k4 : PySem.W.keepIn K (.ref f4) = true)
    {od5 an5 : Option Addr} {sl5 : Array (Option Value)} {oc5 kV5 dc5 pm5 cd5 ct5 : Value}
    (a5 : PySem.W.nsIn K mainGlobals "_law_number" = some (some (.ref f5))) (l5 : K.lookup f5 = some ⟨oc5, od5, .func (PySem.W.fnOf "_law_number" "_law_number" (defArgs s__law_number) (defBody s__law_number) (defScope s__law_number) .none kV5 dc5 pm5 an5 cd5 ct5), sl5⟩) (c5 : PySem.W.codeIn K cd5 "_law_number" = true) (k5 : PySem.W.keepIn K (.ref f5) = true)
    {od6 an6 : Option Addr} {sl6 : Array (Option Value)} {oc6 kV6 dc6 pm6 cd6 ct6 : Value}
    (a6 : PySem.W.nsIn K mainGlobals "_law_rowed" = some (some (.ref f6))) (l6 : K.lookup f6 = some ⟨oc6, od6, .func (PySem.W.fnOf "_law_rowed" "_law_rowed" (defArgs s__law_rowed) (defBody s__law_rowed) (defScope s__law_rowed) .none kV6 dc6 pm6 an6 cd6 ct6), sl6⟩) (c6 : PySem.W.codeIn K cd6 "_law_rowed" = true) (k6 : PySem.W.keepIn K (.ref f6) = true)
    {od7 an7 : Option Addr} {sl7 : Array (Option Value)} {oc7 kV7 dc7 pm7 cd7 ct7 : Value}
    (a7 : PySem.W.nsIn K mainGlobals "_law_tuple" = some (some (.ref f7))) (l7 : K.lookup f7 = some ⟨oc7, od7, .func (PySem.W.fnOf "_law_tuple" "_law_tuple" (defArgs s__law_tuple) (defBody s__law_tuple) (defScope s__law_tuple) .none kV7 dc7 pm7 an7 cd7 ct7), sl7⟩) (c7 : PySem.W.codeIn K cd7 "_law_tuple" = true) (k7 : PySem.W.keepIn K (.ref f7) = true)
    {od8 an8 : Option Addr} {sl8 : Array (Option Value)} {oc8 kV8 dc8 pm8 cd8 ct8 : Value}
    (a8 : PySem.W.nsIn K mainGlobals "_law_flat" = some (some (.ref f8))) (l8 : K.lookup f8 = some ⟨oc8, od8, .func (PySem.W.fnOf "_law_flat" "_law_flat" (defArgs s__law_flat) (defBody s__law_flat) (defScope s__law_flat) .none kV8 dc8 pm8 an8 cd8 ct8), sl8⟩) (c8 : PySem.W.codeIn K cd8 "_law_flat" = true) (k8 : PySem.W.keepIn K (.ref f8) = true)
    {od9 an9 : Option Addr} {sl9 : Array (Option Value)} {oc9 kV9 dc9 pm9 cd9 ct9 : Value}
    (a9 : PySem.W.nsIn K mainGlobals "_law_come_to" = some (some (.ref f9))) (l9 : K.lookup f9 = some ⟨oc9, od9, .func (PySem.W.fnOf "_law_come_to" "_law_come_to" (defArgs s__law_come_to) (defBody s__law_come_to) (defScope s__law_come_to) .none kV9 dc9 pm9 an9 cd9 ct9), sl9⟩) (c9 : PySem.W.codeIn K cd9 "_law_come_to" = true) (k9 : PySem.W.keepIn K (.ref f9) = true)
    {od10 an10 : Option Addr} {sl10 : Array (Option Value)} {oc10 kV10 dc10 pm10 cd10 ct10 : Value}
    (a10 : PySem.W.nsIn K mainGlobals "law" = some (some (.ref f10))) (l10 : K.lookup f10 = some ⟨oc10, od10, .func (PySem.W.fnOf "law" "law" (defArgs s_law) (defBody s_law) (defScope s_law) .none kV10 dc10 pm10 an10 cd10 ct10), sl10⟩) (c10 : PySem.W.codeIn K cd10 "law" = true) (k10 : PySem.W.keepIn K (.ref f10) = true)
    (z_abs : PySem.W.nsIn K mainGlobals "abs" = some none)
    (z_len : PySem.W.nsIn K mainGlobals "len" = some none)
    (z_max : PySem.W.nsIn K mainGlobals "max" = some none)
    (z_min : PySem.W.nsIn K mainGlobals "min" = some none)
    (z_list : PySem.W.nsIn K mainGlobals "list" = some none)
    (z_range : PySem.W.nsIn K mainGlobals "range" = some none)
    (z_isinstance : PySem.W.nsIn K mainGlobals "isinstance" = some none)
    (z_tuple : PySem.W.nsIn K mainGlobals "tuple" = some none)
    (z_int : PySem.W.nsIn K mainGlobals "int" = some none)
    (z_bool : PySem.W.nsIn K mainGlobals "bool" = some none)
    (z_str : PySem.W.nsIn K mainGlobals "str" = some none)
    (z_dict : PySem.W.nsIn K mainGlobals "dict" = some none)
    (z_sorted : PySem.W.nsIn K mainGlobals "sorted" = some none)
    (z_set : PySem.W.nsIn K mainGlobals "set" = some none)
    (z_enumerate : PySem.W.nsIn K mainGlobals "enumerate" = some none)
    (z_reversed : PySem.W.nsIn K mainGlobals "reversed" = some none)
    (z_sum : PySem.W.nsIn K mainGlobals "sum" = some none)
    (z_all : PySem.W.nsIn K mainGlobals "all" = some none)
    (z_any : PySem.W.nsIn K mainGlobals "any" = some none)
    : ∃ fd : FuncData, (∀ (s : Shared) (v : Value), BindsTo s fd ⟨[v], []⟩ [("_law_script", v)]) ∧ ∀ base : Heap, K.In base → base.Ns mainGlobals mg → FnOk l.prog w K mg base CX0 51 fa fd ["_law_script"] (spLaw K) := by
  have e := hfa.symm.trans (PySem.W.mg_of X G a10)
  cases e
  have T : Blt mg := ⟨PySem.W.mg_none_of X G z_abs, PySem.W.mg_none_of X G z_len, PySem.W.mg_none_of X G z_max, PySem.W.mg_none_of X G z_min, PySem.W.mg_none_of X G z_list, PySem.W.mg_none_of X G z_range, PySem.W.mg_none_of X G z_isinstance, PySem.W.mg_none_of X G z_tuple, PySem.W.mg_none_of X G z_int, PySem.W.mg_none_of X G z_bool, PySem.W.mg_none_of X G z_str, PySem.W.mg_none_of X G z_dict, PySem.W.mg_none_of X G z_sorted, PySem.W.mg_none_of X G z_set, PySem.W.mg_none_of X G z_enumerate, PySem.W.mg_none_of X G z_reversed, PySem.W.mg_none_of X G z_sum, PySem.W.mg_none_of X G z_all, PySem.W.mg_none_of X G z_any⟩
  have F0 : Here K mg "copied" s_copied ["one"] := here_mk (st := s_copied) X G a0 l0 c0 k0 (fun us hl => match us, hl with | [_], _ => rfl)
  have F1 : Here K mg "value" s_value ["fold", "slots"] := here_mk (st := s_value) X G a1 l1 c1 k1 (fun us hl => match us, hl with | [_, _], _ => rfl)
  have F2 : Here K mg "turned" s_turned ["many", "begun", "inner"] := here_mk (st := s_turned) X G a2 l2 c2 k2 (fun us hl => match us, hl with | [_, _, _], _ => rfl)
  have F3 : Here K mg "joined" s_joined ["word", "one", "other"] := here_mk (st := s_joined) X G a3 l3 c3 k3 (fun us hl => match us, hl with | [_, _, _], _ => rfl)
  have F4 : Here K mg "_law_next" s__law_next ["_law_h", "_law_many"] := here_mk (st := s__law_next) X G a4 l4 c4 k4 (fun us hl => match us, hl with | [_, _], _ => rfl)
  have F5 : Here K mg "_law_number" s__law_number ["_law_h", "_law_deep"] := here_mk (st := s__law_number) X G a5 l5 c5 k5 (fun us hl => match us, hl with | [_, _], _ => rfl)
  have F6 : Here K mg "_law_rowed" s__law_rowed ["_law_h", "_law_deep"] := here_mk (st := s__law_rowed) X G a6 l6 c6 k6 (fun us hl => match us, hl with | [_, _], _ => rfl)
  have F7 : Here K mg "_law_tuple" s__law_tuple ["_law_h", "_law_deep"] := here_mk (st := s__law_tuple) X G a7 l7 c7 k7 (fun us hl => match us, hl with | [_, _], _ => rfl)
  have F8 : Here K mg "_law_flat" s__law_flat ["_law_h"] := here_mk (st := s__law_flat) X G a8 l8 c8 k8 (fun us hl => match us, hl with | [_], _ => rfl)
  have F9 : Here K mg "_law_come_to" s__law_come_to ["_law_fold", "_law_slots"] := here_mk (st := s__law_come_to) X G a9 l9 c9 k9 (fun us hl => match us, hl with | [_, _], _ => rfl)
  exact ⟨_, fun s v => .of_eq rfl, fun base _ _ => glue T F0 F1 F2 F3 F4 F5 F6 F7 F8 F9 (fun_mk (st := s_law) l10 c10 k10)⟩
end Lf
open PySem PySem.W PyProof.Rows
set_option maxRecDepth 100000 in
set_option maxHeartbeats 0 in
theorem PySem.Challenge.cw_lapfold_k18_folds_reckoned_holds : PySem.Challenge.rw_lapfold_k18_folds_reckoned.Holds := by
  w_on; o_law; k_head; (case hw => w_witness2)
  k_fill
  refine L2.walk_of (l := PySem.Challenge.rw_lapfold_k18_folds_reckoned) (n := 63) (k := 51) (x := "_law_script") (CX := fun _ => L2.CX0) (sp := fun w => Lf.spLaw _) rfl (by decide) rfl ⟨rfl, by decide, by decide⟩ (fun w h Y => PySem.W.kIn_of Y) ?F (fun _ _ a ns hl _ hS => ⟨a, ns, rfl, hS, hl, fun _ => rfl⟩) fun _ _ _ _ _ z => z
  case F =>
    intro w mg fa h KX G hmg
    refine' Lf.all_mk KX G hmg ?a0 ?l0 ?c0 ?k0 ?a1 ?l1 ?c1 ?k1 ?a2 ?l2 ?c2 ?k2 ?a3 ?l3 ?c3 ?k3 ?a4 ?l4 ?c4 ?k4 ?a5 ?l5 ?c5 ?k5 ?a6 ?l6 ?c6 ?k6 ?a7 ?l7 ?c7 ?k7 ?a8 ?l8 ?c8 ?k8 ?a9 ?l9 ?c9 ?k9 ?a10 ?l10 ?c10 ?k10 ?z_abs ?z_len ?z_max ?z_min ?z_list ?z_range ?z_isinstance ?z_tuple ?z_int ?z_bool ?z_str ?z_dict ?z_sorted ?z_set ?z_enumerate ?z_reversed ?z_sum ?z_all ?z_any
    (case a0 => k_is)
    (case l0 => k_is)
    (case c0 => k_is)
    (case k0 => k_is)
    (case a1 => k_is)
    (case l1 => k_is)
    (case c1 => k_is)
    (case k1 => k_is)
    (case a2 => k_is)
    (case l2 => k_is)
    (case c2 => k_is)
    (case k2 => k_is)
    (case a3 => k_is)
    (case l3 => k_is)
    (case c3 => k_is)
    (case k3 => k_is)
    (case a4 => k_is)
    (case l4 => k_is)
    (case c4 => k_is)
    (case k4 => k_is)
    (case a5 => k_is)
    (case l5 => k_is)
    (case c5 => k_is)
    (case k5 => k_is)
    (case a6 => k_is)
    (case l6 => k_is)
    (case c6 => k_is)
    (case k6 => k_is)
    (case a7 => k_is)
    (case l7 => k_is)
    (case c7 => k_is)
    (case k7 => k_is)
    (case a8 => k_is)
    (case l8 => k_is)
    (case c8 => k_is)
    (case k8 => k_is)
    (case a9 => k_is)
    (case l9 => k_is)
    (case c9 => k_is)
    (case k9 => k_is)
    (case a10 => k_is)
    (case l10 => k_is)
    (case c10 => k_is)
    (case k10 => k_is)
    (case z_abs => k_is)
    (case z_len => k_is)
    (case z_max => k_is)
    (case z_min => k_is)
    (case z_list => k_is)
    (case z_range => k_is)
    (case z_isinstance => k_is)
    (case z_tuple => k_is)
    (case z_int => k_is)
    (case z_bool => k_is)
    (case z_str => k_is)
    (case z_dict => k_is)
    (case z_sorted => k_is)
    (case z_set => k_is)
    (case z_enumerate => k_is)
    (case z_reversed => k_is)
    (case z_sum => k_is)
    (case z_all => k_is)
    (case z_any => k_is)
#print axioms PySem.Challenge.cw_lapfold_k18_folds_reckoned_holds
