import PyProof.Rows.All
import Wide.All
import OpenK.AllK
import Wide.FinOn
import HandS.ForMost
import HandS.ForExc
import HandS.Flow
import HandS.Style
import HandS.Wide
import HandS.IsInst
import HandS.TupAny
import HandS.TupMul
import HandS.NoneIn
import HandS.SetFor
import HandS.Strs
import PyProof.Rows.SortShellAny
import KE.KDictKeyed
import KE.KDictItemsList
import KE.GoesMore
import HandS.More
import KE.KEqNest
import HandS.DictComp
import HandS.ExcIs
import PySem.Challenge.RW_lapfold_k07_runs
set_option Elab.async false
set_option maxRecDepth 100000
set_option maxHeartbeats 4000000
/-! Lf.base: own words over the hand layer: operators of any kind, calls by standing defs, frames, deep data. -/
namespace Lf
open PySem PySem.Spec PyProof.Rows L2
/-! ### operators, by whatever kind the values are -/
section
variable {X : Cx}
theorem opr_or {f : Value → Value → Sem Value} {r1 r2 : R2} (h1 : OpR X f r1) (h2 : OpR X f r2) : OpR X f (fun x y H Q => r1 x y H Q ∨ r2 x y H Q) := by
  intro pins s σ H x y v u Q I rx ry h
  rcases h with h | h
  · exact h1 pins s σ H x y v u Q I rx ry h
  · exact h2 pins s σ H x y v u Q I rx ry h
def rAddI : R2 := rI0 fun i j => .int (i + j)
def rAddS : R2 := fun x y H Q => ∃ i j, x = .str i ∧ y = .str j ∧ i.length + j.length ≤ sizeLine ∧ Q (.str (i ++ j)) H
def rPlus (K : PySem.W.Frag) : R2 := fun x y H Q => rAddI x y H Q ∨ rAddS x y H Q ∨ rCat x y H Q ∨ rCatA K x y H Q
theorem op_plus : OpR X (binaryOp .Add) (rPlus X.K) := opr_or op_add (opr_or op_add_str (opr_or op_cat op_catA))
def rMulS : R2 := rI CMul fun i j => .int (i * j)
def rMulW : R2 := rI CMulW fun i j => .int (i * j)
theorem op_mulS : OpR X (binaryOp .Mult) rMulS := op_mul
def rTimes (K : PySem.W.Frag) : R2 := fun x y H Q => rMulS x y H Q ∨ rMulW x y H Q ∨ rRep x y H Q ∨ rRepT K x y H Q
theorem op_timesA : OpR X (binaryOp .Mult) (rTimes X.K) := opr_or op_mul (opr_or op_mulW (opr_or op_rep op_repT))
def rEqA (K : PySem.W.Frag) : R2 := fun x y H Q => rEq x y H Q ∨ rEqD K x y H Q
def rNeA (K : PySem.W.Frag) : R2 := fun x y H Q => rNe x y H Q ∨ rNeD K x y H Q
theorem op_eqA (hu : X.A.units + 64 < cLine) : OpR X (compareOp .Eq) (rEqA X.K) := opr_or op_eq (op_eqD hu)
theorem op_neA (hu : X.A.units + 64 < cLine) : OpR X (compareOp .NotEq) (rNeA X.K) := opr_or op_ne (op_neD hu)
def rLenA (K : PySem.W.Frag) : List V → Hp → VK → Prop := fun xs H Q => ∃ x n, xs = [x] ∧ LenV K x H n ∧ Q (.int n) H
theorem call_lenA : CallR X (.builtin "len") (rLenA X.K) := call_len
def rAbs : List V → Hp → VK → Prop := fun xs H Q => ∃ i, xs = [.int i] ∧ Q (.int (if i < 0 then -i else i)) H
theorem call_absA : CallR X (.builtin "abs") rAbs := call_abs
def rMax2 : List V → Hp → VK → Prop := fun xs H Q => ∃ i j, xs = [.int i, .int j] ∧ Q (.int (if j > i then j else i)) H
theorem call_max2A (hc : X.calm = true) : CallR X (.builtin "max") rMax2 := call_max2 hc
theorem call_isiA : CallR X (.builtin "isinstance") (rIsi X.K) := call_isi
def rTupleOf (K : PySem.W.Frag) : List V → Hp → VK → Prop := fun xs H Q => ∃ p ys, xs = [.ref p] ∧ ((SqL K H p ys ∧ ∀ l, H l = none → Q (.ref l) (upd H l (.tup ys))) ∨ (SqT K H p ys ∧ Q (.ref p) H))
theorem call_tupleA : CallR X (.type "tuple") (rTupleOf X.K) := call_tuple_of
def rIntC : List V → Hp → VK → Prop := fun xs H Q => (∃ i, xs = [.int i] ∧ Q (.int i) H) ∨ ∃ k, xs = [.bl k] ∧ Q (.int (if k then 1 else 0)) H
theorem call_intA : CallR X (.type "int") rIntC := call_int1
def rListOf (K : PySem.W.Frag) : List V → Hp → VK → Prop := fun xs H Q => ∃ p ys, xs = [.ref p] ∧ (SqL K H p ys ∨ SqT K H p ys) ∧ ∀ l, H l = none → Q (.ref l) (upd H l (.lst ys))
theorem call_listA : CallR X (.type "list") (rListOf X.K) := call_list_of
end
section
variable {X : Cx}
theorem pe_tyN {x : Str} {p : Pos} {n : String} (hg : Gl X x) (hm : X.mg x = none) (hv : bootBuiltins x = some (.type n)) (hn : x ≠ "__name__" := by decide) (hdb : (x == ("__debug__" : Str)) = false := by decide) : PE X (.Name x p) (tC (.ty n)) :=
  pe_bltn (v := .ty n) hg hm hv rfl hn hdb
end
/-! ### frames: all that stood stands, but for what lies at M -/
def Fr (M : List Addr) (H H' : Hp) : Prop := ∀ b o, H b = some o → b ∉ M → H' b = some o
section
variable {M N : List Addr} {H H1 H2 : Hp} {a b p q : Addr} {o u : HO} {K : PySem.W.Frag} {xs : List V}
theorem Fr.refl (M : List Addr) (H : Hp) : Fr M H H := fun _ _ h _ => h
theorem Fr.trans (h1 : Fr M H H1) (h2 : Fr M H1 H2) : Fr M H H2 := fun b o h n => h2 b o (h1 b o h n) n
theorem Fr.wk (h : Fr N H H1) (s : ∀ a, a ∈ N → a ∈ M) : Fr M H H1 := fun b o e n => h b o e fun z => n (s b z)
theorem Fr.nil (h : Fr [] H H1) : Fr M H H1 := h.wk fun _ z => absurd z (by simp)
theorem Fr.of_same (h : Same H H1) : Fr M H H1 := fun b o e _ => h b o e
theorem Fr.same (h : Fr [] H H1) : Same H H1 := fun b o e => h b o e (by simp)
theorem Fr.new (h : Fr M H H1) (e : H1 p = none) : Fr M H (upd H1 p o) := fun b u q n => by
  have z := h b u q n
  rw [upd_ne (ne_of_none z e)]; exact z
theorem Fr.put (h : Fr M H H1) (e : p ∈ M) : Fr M H (upd H1 p o) := fun b u q n => by
  have z := h b u q n
  have c : b ≠ p := by intro c; subst c; exact n e
  rw [upd_ne c]; exact z
/-- a place that was free at H may change -/
theorem Fr.mut (h : Fr M H H1) (e : H p = none) : Fr M H (upd H1 p o) := fun b u q n => by
  rw [upd_ne (ne_of_none q e)]; exact h b u q n
/-- places that were free at H are forgotten -/
theorem Fr.drop (h : Fr (p :: M) H H1) (e : H p = none) : Fr M H H1 := fun b u q n => h b u q (by
  intro z
  rcases List.mem_cons.mp z with z | z
  · exact ne_of_none q e z
  · exact n z)
theorem Fr.free (h : Fr [] H H1) (e : H1 p = none) : H p = none := h.same.free e
theorem Fr.freeM (h : Fr M H H1) (e : H1 p = none) (hp : p ∉ M) : H p = none := by
  cases q : H p with
  | none => rfl
  | some o => rw [h p o q hp] at e; cases e
/-- then places that were free at H change -/
theorem Fr.then (h : Fr M H H1) (g : Fr N H1 H2) (e : ∀ a ∈ N, H a = none) : Fr M H H2 := fun b o q n => g b o (h b o q n) fun z => ne_of_none q (e b z) rfl
theorem Fr.then1 (h : Fr M H H1) (g : Fr [p] H1 H2) (e : H p = none) : Fr M H H2 := h.then g (by simpa using e)
theorem Fr.at (h : Fr M H H1) (e : H p = some o) (hp : p ∉ M := by simp) : H1 p = some o := h p o e hp
theorem Fr.at2 {h c : Addr} (f : Fr [h, c] H H1) (e : H p = some o) (n1 : p ≠ h) (n2 : p ≠ c) : H1 p = some o := f.at e (by simp [n1, n2])
theorem Fr.at1 {h : Addr} (f : Fr [h] H H1) (e : H p = some o) (n1 : p ≠ h) : H1 p = some o := f.at e (by simp [n1])
/-- the changed places are lists, not tuples: tuples stay -/
def Lists (M : List Addr) (H : Hp) : Prop := ∀ a ∈ M, ∃ xs, H a = some (.lst xs)
theorem Fr.tup (h : Fr M H H1) (l : ∀ a ∈ M, ∀ xs o, H a ≠ some (.tup xs) ∧ H a ≠ some (.frz o (.tup xs))) (s : SqT K H a xs) : SqT K H1 a xs := by
  rcases s with (s | ⟨o, s⟩) | s
  · exact .inl (.inl (h _ _ s fun z => (l a z xs (⟨.none, none, .seq #[] 0, #[]⟩)).1 s))
  · exact .inl (.inr ⟨o, h _ _ s fun z => (l a z xs o).2 s⟩)
  · exact .inr s
theorem Fr.tup0 (h : Fr [] H H1) (s : SqT K H a xs) : SqT K H1 a xs := h.tup (fun _ z => absurd z (by simp)) s
theorem Fr.seq0 (h : Fr [] H H1) (s : SqL K H a xs) : SqL K H1 a xs := h.same.seq s
end
/-! ### the built-ins' names are the built-ins' -/
structure Blt (mg : Str → Option Value) : Prop where
  n_abs : mg "abs" = none
  n_len : mg "len" = none
  n_max : mg "max" = none
  n_min : mg "min" = none
  n_list : mg "list" = none
  n_range : mg "range" = none
  n_isinstance : mg "isinstance" = none
  n_tuple : mg "tuple" = none
  n_int : mg "int" = none
  n_bool : mg "bool" = none
  n_str : mg "str" = none
  n_dict : mg "dict" = none
  n_sorted : mg "sorted" = none
  n_set : mg "set" = none
  n_enumerate : mg "enumerate" = none
  n_reversed : mg "reversed" = none
  n_sum : mg "sum" = none
  n_all : mg "all" = none
  n_any : mg "any" = none
/-! ### defs that stand, by their promise -/
structure DefOk (P : Program) (w : World) (K : PySem.W.Frag) (mg : Str → Option Value) (base : Heap) (CX : CXT) (x : Str) (ps : List Str) (k : Nat) (sp : Sp) : Prop where
  ex : ∃ (f : Addr) (fd : FuncData), FnOk P w K mg base CX k f fd ps sp ∧ PySem.W.keepIn K (.ref f) = true ∧ Binds K fd ps [] ∧ mg x = some (.ref f)
section
variable {X : Cx} {CX : CXT} {k : Nat} {ps : List Str} {sp : Sp} {E : XK} {x : Str} {p pos : Pos} {e : Expr} {es : List Expr} {t : TA}
theorem pe_callD (F : DefOk X.prog X.w X.K X.mg X.base CX x ps k sp) (hr : Room k X.A) (hx : Passes CX X E) (ha : PA X (e :: es) t) (hg : Gl X x := by rfl) (hdb : (x == ("__debug__" : Str)) = false := by decide)
    (he : starEach (e :: es) X.env = (false, eval e X.env) :: starEach es X.env := by rfl) (hpl : (backTo pos (starEach es X.env)).any (·.1) = false := by rfl) : PE X (.Call (.Name x p) (e :: es) [] pos) (tCall sp [] E t) := by
  obtain ⟨f, fd, F, hk, hb, hm⟩ := F.ex
  exact pe_call F hr hg hm hk hb .nil hx ha hdb he hpl
theorem pe_callD0 (F : DefOk X.prog X.w X.K X.mg X.base CX x ps k sp) (hr : Room k X.A) (hx : Passes CX X E) (hg : Gl X x := by rfl) (hdb : (x == ("__debug__" : Str)) = false := by decide) : PE X (.Call (.Name x p) [] [] pos) (tCall sp [] E tNil) := by
  obtain ⟨f, fd, F, hk, hb, hm⟩ := F.ex
  exact pe_call0 F hr hg hm hk hb .nil hx hdb
end
/-- the def st stands at the name x -/
structure Here (K : PySem.W.Frag) (mg : Str → Option Value) (x : Str) (st : Stmt) (ps : List Str) : Prop where
  ex : ∃ (f : Addr) (fd : FuncData), Fun K x x st f fd ∧ mg x = some (.ref f) ∧ Binds K fd ps []
section
variable {P : Program} {w : World} {K : PySem.W.Frag} {mg : Str → Option Value} {base : Heap}
theorem Here.ok {x : Str} {st : Stmt} {N ps : List Str} {k : Nat} {sp : Sp} (F : Here K mg x st ps) (S : FnScope N ps (defScope st)) (len : ∀ vs H Q E, sp vs H Q E → vs.length = ps.length)
    (hbody : ∀ (f : Addr) (cdv : Value) (A : Around) (outer : List Env) (s : Shared) (H : Hp) (vs : List V) (Q : VK) (E : XK), Room k (A.deeper (envOfC x (defScope st) s.heap.objs.size f cdv)) → sp vs H Q E →
      ∃ t, PSs (cxOf CX0 P w K mg base N x (defScope st) f cdv A outer s H E).nox (defBody st) t ∧ t { nx := fun _ H' => Q .non H', rt := Q } (start N vs) H) : DefOk P w K mg base CX0 x ps (k + 1) sp := by
  obtain ⟨f, fd, F, hm, hb⟩ := F.ex
  exact ⟨f, fd, F.ok S len (hbody f), F.kp, hb, hm⟩
theorem DefOk.mono {CX : CXT} {x : Str} {ps : List Str} {j k : Nat} {sp : Sp} (F : DefOk P w K mg base CX x ps j sp) (h : j ≤ k) : DefOk P w K mg base CX x ps k sp := by
  obtain ⟨f, fd, F, r⟩ := F.ex
  exact ⟨f, fd, F.mono h, r⟩
theorem DefOk.imp {CX : CXT} {x : Str} {ps : List Str} {k : Nat} {sp sp' : Sp} (F : DefOk P w K mg base CX x ps k sp) (h : ∀ vs H Q E, sp' vs H Q E → sp vs H Q E) : DefOk P w K mg base CX x ps k sp' := by
  obtain ⟨f, fd, F, r⟩ := F.ex
  exact ⟨f, fd, F.imp h, r⟩
theorem here_mk {h : Heap} {x : Str} {st : Stmt} {ps : List Str} {f : Addr} {oc : Value} {od an : Option Addr} {osl : Array (Option Value)} {kV doc pm cdv ct : Value} (X : K.In h) (G : h.Ns mainGlobals mg)
    (a : PySem.W.nsIn K mainGlobals x = some (some (.ref f)))
    (l : K.lookup f = some ⟨oc, od, .func (PySem.W.fnOf x x (defArgs st) (defBody st) (defScope st) .none kV doc pm an cdv ct), osl⟩)
    (c : PySem.W.codeIn K cdv x = true) (k : PySem.W.keepIn K (.ref f) = true)
    (hb : ∀ (us : List Value), us.length = ps.length → bindArgs (PySem.W.fnOf x x (defArgs st) (defBody st) (defScope st) .none kV doc pm an cdv ct) ⟨us, []⟩ = pure (ps.zip us)) : Here K mg x st ps :=
  ⟨f, _, fun_mk (st := st) l c k, PySem.W.mg_of X G a, Binds.all hb⟩
end
/-! ### deep data that never changes -/
inductive D where
  | non | bl (b : Bool) | int (i : Int) | str (x : Str) | tup (ds : List D)
mutual
def Rp (K : PySem.W.Frag) (H : Hp) : D → V → Prop
  | .non, v => v = .non
  | .bl b, v => v = .bl b
  | .int i, v => v = .int i
  | .str x, v => v = .str x
  | .tup ds, v => ∃ a vs, v = .ref a ∧ SqT K H a vs ∧ RpL K H ds vs
def RpL (K : PySem.W.Frag) (H : Hp) : List D → List V → Prop
  | [], vs => vs = []
  | d :: ds, vs => ∃ v r, vs = v :: r ∧ Rp K H d v ∧ RpL K H ds r
end
/-- tuples stay -/
def Kp (H H' : Hp) : Prop := ∀ a xs, Rd H a (.tup xs) → Rd H' a (.tup xs)
section
variable {M : List Addr} {H H1 H2 : Hp} {a p q : Addr} {K : PySem.W.Frag} {xs : List V} {o : HO}
theorem Kp.refl (H : Hp) : Kp H H := fun _ _ h => h
theorem Kp.trans (h : Kp H H1) (g : Kp H1 H2) : Kp H H2 := fun a xs s => g a xs (h a xs s)
theorem Kp.sq (h : Kp H H1) (s : SqT K H a xs) : SqT K H1 a xs := by
  rcases s with s | s
  · exact .inl (h _ _ s)
  · exact .inr s
theorem Fr.kp0 (h : Fr [] H H1) : Kp H H1 := fun _ _ s => by
  rcases s with s | ⟨o, s⟩
  · exact .inl (h.at s)
  · exact .inr ⟨o, h.at s⟩
theorem Fr.kpL (h : Fr [p] H H1) (e : H p = some (.lst xs)) : Kp H H1 := fun a ys s => by
  rcases s with s | ⟨o, s⟩
  · exact .inl (h.at s (by simp; rintro rfl; rw [e] at s; cases s))
  · exact .inr ⟨o, h.at s (by simp; rintro rfl; rw [e] at s; cases s)⟩
theorem Fr.kpL2 {ys : List V} (h : Fr [p, q] H H1) (e : H p = some (.lst xs)) (e2 : H q = some (.lst ys)) : Kp H H1 := fun a ys s => by
  rcases s with s | ⟨o, s⟩
  · exact .inl (h.at s (by simp; constructor <;> (rintro rfl; simp_all)))
  · exact .inr ⟨o, h.at s (by simp; constructor <;> (rintro rfl; simp_all))⟩
theorem Same.kp (h : Same H H1) : Kp H H1 := (Fr.of_same (M := []) h).kp0
mutual
theorem Rp.mono (k : Kp H H1) : ∀ {d : D} {v : V}, Rp K H d v → Rp K H1 d v
  | .non, _, h => h
  | .bl _, _, h => h
  | .int _, _, h => h
  | .str _, _, h => h
  | .tup _, _, ⟨a, vs, e, s, r⟩ => ⟨a, vs, e, k.sq s, RpL.mono k r⟩
theorem RpL.mono (k : Kp H H1) : ∀ {ds : List D} {vs : List V}, RpL K H ds vs → RpL K H1 ds vs
  | [], _, h => h
  | _ :: _, _, ⟨v, r, e, h, t⟩ => ⟨v, r, e, Rp.mono k h, RpL.mono k t⟩
end
theorem RpL.length : ∀ {ds : List D} {vs : List V}, RpL K H ds vs → vs.length = ds.length
  | [], _, h => by cases h; rfl
  | _ :: _, _, ⟨_, r, e, _, t⟩ => by cases e; simp [RpL.length t]
end
end Lf
namespace Lf
open PySem PySem.Spec PyProof.Rows L2
/-! ### readings, step by step: each rule keeps what follows as one function -/
section
variable {K : PySem.W.Frag} {σ : L2.St} {H H1 : Hp} {Q : VK} {R : Bool → Hp → Prop} {S : L2.St → Hp → Prop} {L : List V → Hp → Prop} {ta tb tc te : TE} {tt tu : TT} {v x y : V} {a b p : Addr} {D : Ends} {xs ys : List V} {t u : TS} {i j : Int} {tr : TA}
def IsB (x : V) (H : Hp) (R : Bool → Hp → Prop) : Prop := ∃ k, x = .bl k ∧ R k H
def AndB (x : V) (te : TE) (σ : L2.St) (H : Hp) (Q : VK) : Prop := ∃ c, x = .bl c ∧ if c = true then te σ H Q else Q (.bl false) H
def OrB (x : V) (te : TE) (σ : L2.St) (H : Hp) (Q : VK) : Prop := ∃ c, x = .bl c ∧ if c = true then Q (.bl true) H else te σ H Q
def NotB (x : V) (H : Hp) (Q : VK) : Prop := ∃ c, x = .bl c ∧ Q (.bl (!c)) H
def NewT (xs : List V) (H : Hp) (Q : VK) : Prop := xs.length ≤ sizeLine ∧ ∀ p, H p = none → Q (.ref p) (upd H p (.tup xs))
def NewL (xs : List V) (H : Hp) (Q : VK) : Prop := xs.length ≤ sizeLine ∧ ∀ p, H p = none → Q (.ref p) (upd H p (.lst xs))
def Two (k l : Nat) (vs : List V) (σ : L2.St) (H : Hp) (S : L2.St → Hp → Prop) : Prop := ∃ v w, vs = [v, w] ∧ S ((σ.set k (some v)).set l (some w)) H
theorem rd_var {k : Nat} (h : σ[k]? = some (some v)) (q : Q v H) : tVar k σ H Q := ⟨v, h, q⟩
theorem rd_c (q : Q v H) : tC v σ H Q := q
theorem rd_op {r : R2} (q : ta σ H fun x H1 => tb σ H1 fun y H2 => r x y H2 Q) : tOp r ta tb σ H Q := q
theorem rd_un {r : V → Hp → VK → Prop} (q : ta σ H fun x H1 => r x H1 Q) : tUn r ta σ H Q := q
theorem rd_test (q : te σ H fun x H' => IsB x H' R) : tTest te σ H R := q
theorem rd_b (q : te σ H fun x H' => IsB x H' R) : tB te σ H R := q
theorem rd_isb {c : Bool} (q : R c H) : IsB (.bl c) H R := ⟨c, rfl, q⟩
theorem rd_and (q : tt σ H fun c H1 => if c = true then tu σ H1 R else R false H1) : tAnd tt tu σ H R := q
theorem rd_or (q : tt σ H fun c H1 => if c = true then R true H1 else tu σ H1 R) : tOr tt tu σ H R := q
theorem rd_not (q : tt σ H fun c H1 => R (!c) H1) : tNot tt σ H R := q
theorem rd_andV (q : ta σ H fun x H1 => AndB x tb σ H1 Q) : tAndV ta tb σ H Q := q
theorem rd_orV (q : ta σ H fun x H1 => OrB x tb σ H1 Q) : tOrV ta tb σ H Q := q
theorem rd_andb {c : Bool} (q : if c = true then te σ H Q else Q (.bl false) H) : AndB (.bl c) te σ H Q := ⟨c, rfl, q⟩
theorem rd_orb {c : Bool} (q : if c = true then Q (.bl true) H else te σ H Q) : OrB (.bl c) te σ H Q := ⟨c, rfl, q⟩
theorem rd_notV (q : ta σ H fun x H1 => NotB x H1 Q) : tNotV ta σ H Q := q
theorem rd_notb {c : Bool} (q : Q (.bl (!c)) H) : NotB (.bl c) H Q := ⟨c, rfl, q⟩
theorem rd_ife (q : tt σ H fun c H1 => if c = true then ta σ H1 Q else tb σ H1 Q) : tIf tt ta tb σ H Q := q
theorem rd_seq (q : t { D with nx := u D } σ H) : tSeq t u D σ H := q
theorem rd_seqc (h : ∀ N : L2.St → Hp → Prop, (∀ σ H, u D σ H → N σ H) → t { D with nx := N } σ H) : tSeq t u D σ H := h (u D) fun _ _ x => x
theorem rd_drop (q : te σ H fun _ H1 => D.nx σ H1) : tDrop te D σ H := q
theorem rd_ret (q : te σ H D.rt) : tRet te D σ H := q
theorem rd_retN (q : D.rt .non H) : tRetN D σ H := q
theorem rd_next (q : D.nx σ H) : tNext D σ H := q
theorem rd_break (q : D.bk σ H) : tBreak D σ H := q
theorem rd_cont (q : D.ct σ H) : tCont D σ H := q
theorem rd_if (q : tt σ H fun b H1 => if b = true then t D σ H1 else u D σ H1) : tIfS tt t u D σ H := q
theorem rd_asg {g : TG} (q : te σ H fun x H1 => g x σ H1 D.nx) : tAsg te g D σ H := q
theorem rd_gname {k : Nat} (q : S (σ.set k (some v)) H) : gName k v σ H S := q
theorem rd_gtup {n : Nat} {g : TGs} (h : SqT K H a xs) (hl : xs.length = n) (q : g xs σ H S) : gTup K n g (.ref a) σ H S := ⟨a, xs, rfl, h, hl, q⟩
theorem rd_gnil (q : S σ H) : gNil [] σ H S := ⟨rfl, q⟩
theorem rd_gcons {g : TG} {gs : TGs} (q : g v σ H fun σ' H' => gs xs σ' H' S) : gCons g gs (v :: xs) σ H S := ⟨v, xs, rfl, q⟩
theorem rd_gsub {to ti : TE} {ts : TSet} (q : to σ H fun o H1 => ti σ H1 fun i H2 => ts o i v H2 fun H3 => S σ H3) : gSub to ti ts v σ H S := q
theorem rd_par {k l : Nat} (q : tr σ H fun vs H1 => Two k l vs σ H1 D.nx) : tPar k l tr D σ H := q
theorem rd_two {k l : Nat} (q : S ((σ.set k (some x)).set l (some y)) H) : Two k l [x, y] σ H S := ⟨x, y, rfl, q⟩
theorem rd_nil (q : L [] H) : tNil σ H L := q
theorem rd_cons (q : ta σ H fun x H1 => tr σ H1 fun xs H2 => L (x :: xs) H2) : tCons ta tr σ H L := q
theorem rd_cb {r : List V → Hp → VK → Prop} (q : tr σ H fun vs H1 => r vs H1 Q) : tCB r tr σ H Q := q
theorem rd_call {sp : Sp} {E : XK} (q : tr σ H fun vs H1 => sp (vs ++ []) H1 Q E) : tCall sp [] E tr σ H Q := q
theorem rd_tup (q : tr σ H fun xs H1 => NewT xs H1 Q) : tTup tr σ H Q := q
theorem rd_lst (q : tr σ H fun xs H1 => NewL xs H1 Q) : tLst tr σ H Q := q
theorem rd_newT (hl : xs.length ≤ 1000) (q : ∀ p H2, H p = none → Fr [] H H2 → H2 p = some (.tup xs) → Q (.ref p) H2) : NewT xs H Q :=
  ⟨Nat.le_of_lt (small1000 hl), fun p hp => q p _ hp ((Fr.refl [] H).new hp) upd_same⟩
theorem rd_newL (hl : xs.length ≤ 1000) (q : ∀ p H2, H p = none → Fr [] H H2 → H2 p = some (.lst xs) → Q (.ref p) H2) : NewL xs H Q :=
  ⟨Nat.le_of_lt (small1000 hl), fun p hp => q p _ hp ((Fr.refl [] H).new hp) upd_same⟩
/-! operators by values -/
theorem rd_I0 {g : Int → Int → V} (q : Q (g i j) H) : rI0 g (.int i) (.int j) H Q := ⟨i, j, rfl, rfl, q⟩
theorem rd_I {C : Int → Int → Prop} {g : Int → Int → V} (c : C i j) (q : Q (g i j) H) : rI C g (.int i) (.int j) H Q := ⟨i, j, rfl, rfl, c, q⟩
theorem rd_plusI (q : Q (.int (i + j)) H) : rPlus K (.int i) (.int j) H Q := .inl ⟨i, j, rfl, rfl, q⟩
theorem rd_plusS {s z : Str} (h : s.length + z.length ≤ sizeLine) (q : Q (.str (s ++ z)) H) : rPlus K (.str s) (.str z) H Q := .inr (.inl ⟨s, z, rfl, rfl, h, q⟩)
theorem rd_plusL (ha : H a = some (.lst xs)) (hb : H b = some (.lst ys)) (h : xs.length + ys.length ≤ sizeLine) (q : ∀ p H2, H p = none → Fr [] H H2 → H2 p = some (.lst (xs ++ ys)) → Q (.ref p) H2) : rPlus K (.ref a) (.ref b) H Q :=
  .inr (.inr (.inl ⟨a, b, xs, ys, rfl, rfl, ha, hb, h, fun p hp => q p _ hp ((Fr.refl [] H).new hp) upd_same⟩))
theorem rd_plusT (ha : SqT K H a xs) (hb : SqT K H b ys) (h : xs.length + ys.length ≤ sizeLine) (q : ∀ p H2, Fr [] H H2 → SqT K H2 p (xs ++ ys) → Q (.ref p) H2) : rPlus K (.ref a) (.ref b) H Q :=
  .inr (.inr (.inr ⟨a, b, xs, ys, rfl, rfl, ha, hb, h, fun e => q b H (Fr.refl _ _) (by subst e; exact hb), fun _ e => q a H (Fr.refl _ _) (by subst e; rw [List.append_nil]; exact ha), fun _ _ p hp => q p _ ((Fr.refl [] H).new hp) (SqT.of upd_same)⟩))
theorem rd_mulL (h : -(2 ^ 64) < i ∧ i < 2 ^ 64) (q : Q (.int (i * j)) H) : rTimes K (.int i) (.int j) H Q := .inl ⟨i, j, rfl, rfl, .inl h, q⟩
theorem rd_mulR (h : -(2 ^ 64) < j ∧ j < 2 ^ 64) (q : Q (.int (i * j)) H) : rTimes K (.int i) (.int j) H Q := .inl ⟨i, j, rfl, rfl, .inr h, q⟩
theorem rd_mulW (m n : Nat) (hi : i.natAbs < 2 ^ m) (hj : j.natAbs < 2 ^ n) (h : m + n ≤ 900000) (q : Q (.int (i * j)) H) : rTimes K (.int i) (.int j) H Q :=
  .inr (.inl ⟨i, j, rfl, rfl, wide_mul (a := m + 1) (b := n + 1) (Nat.lt_of_lt_of_le hi (Nat.pow_le_pow_right (by decide) (Nat.le_succ _))) (Nat.lt_of_lt_of_le hj (Nat.pow_le_pow_right (by decide) (Nat.le_succ _))) (Nat.succ_pos _) (Nat.succ_pos _) (by omega), q⟩)
theorem rd_eqS (h : scal x y = true) (q : Q (.bl (decide (x = y))) H) : rEqA K x y H Q := .inl ⟨h, q⟩
theorem rd_neS (h : scal x y = true) (q : Q (.bl (!decide (x = y))) H) : rNeA K x y H Q := .inl ⟨h, q⟩
theorem rd_eqD {d e : PyData} (h1 : Dp K H x d) (h2 : Dp K H y e) (s1 : SeqAt.shaped d = true) (s2 : SeqAt.shaped e = true) (q : Q (.bl (PyData.eqv d e)) H) : rEqA K x y H Q := .inr ⟨d, e, h1, h2, s1, s2, q⟩
theorem rd_neD {d e : PyData} (h1 : Dp K H x d) (h2 : Dp K H y e) (s1 : SeqAt.shaped d = true) (s2 : SeqAt.shaped e = true) (q : Q (.bl (!PyData.eqv d e)) H) : rNeA K x y H Q := .inr ⟨d, e, h1, h2, s1, s2, q⟩
theorem rd_ixT (h : SqT K H p xs) (ha : atI xs i = some v) (q : Q v H) : rIx K (.ref p) (.int i) H Q := .inr (.inl ⟨p, xs, i, v, rfl, rfl, h, ha, q⟩)
theorem rd_ixK {H0 : Hp} (h : SqT K H0 p xs) (k : Kp H0 H) (ha : atI xs i = some v) (q : Q v H) : rIx K (.ref p) (.int i) H Q := rd_ixT (k.sq h) ha q
theorem rd_lenK {H0 : Hp} (h : SqT K H0 p xs) (k : Kp H0 H) (q : Q (.int xs.length) H) : rLenA K [.ref p] H Q := ⟨_, _, rfl, .inr ⟨xs, k.sq h, rfl⟩, q⟩
theorem rd_gtupK {H0 : Hp} {n : Nat} {g : TGs} (h : SqT K H0 a xs) (k : Kp H0 H) (hl : xs.length = n) (q : g xs σ H S) : gTup K n g (.ref a) σ H S := rd_gtup (k.sq h) hl q
theorem rd_ixL (h : SqL K H p xs) (ha : atI xs i = some v) (q : Q v H) : rIx K (.ref p) (.int i) H Q := .inl ⟨p, xs, i, v, rfl, rfl, h, ha, q⟩
theorem rd_ixH (h : H p = some (.lst xs)) (ha : atI xs i = some v) (q : Q v H) : rIx K (.ref p) (.int i) H Q := .inl ⟨p, xs, i, v, rfl, rfl, SqL.of h, ha, q⟩
theorem rd_ixS {z : Str} {c : Nat} (h : z.length ≤ 1000) (ha : atI z.cps.toList i = some c) (q : Q (.str ⟨#[c]⟩) H) : rIx K (.str z) (.int i) H Q := .inr (.inr ⟨z, i, c, rfl, rfl, Nat.le_of_lt (small1000 h), ha, q⟩)
theorem rd_lenL (h : SqL K H p xs) (q : Q (.int xs.length) H) : rLenA K [.ref p] H Q := ⟨_, _, rfl, .inl ⟨xs, h, rfl⟩, q⟩
theorem rd_lenH (h : H p = some (.lst xs)) (q : Q (.int xs.length) H) : rLenA K [.ref p] H Q := ⟨_, _, rfl, .inl ⟨xs, SqL.of h, rfl⟩, q⟩
theorem rd_lenT (h : SqT K H p xs) (q : Q (.int xs.length) H) : rLenA K [.ref p] H Q := ⟨_, _, rfl, .inr ⟨xs, h, rfl⟩, q⟩
theorem rd_lenS {z : Str} (h : z.length ≤ sizeLine) (q : Q (.int z.length) H) : rLenA K [.str z] H Q := ⟨_, _, rfl, ⟨h, rfl⟩, q⟩
theorem rd_setL {k : Int} {n : Nat} {T : Hp → Prop} (h : H p = some (.lst xs)) (hn : ixN xs.length k = some n) (q : ∀ H2, Fr [p] H H2 → Kp H H2 → H2 p = some (.lst (xs.set n v)) → T H2) : rSetL (.ref p) (.int k) v H T :=
  ⟨p, xs, k, n, rfl, rfl, h, hn, q _ ((Fr.refl [p] H).put (by simp)) (((Fr.refl [p] H).put (by simp)).kpL h) upd_same⟩
theorem rd_list (h : SqL K H p xs) (q : ∀ l H2, H l = none → Fr [] H H2 → H2 l = some (.lst xs) → Q (.ref l) H2) : rListOf K [.ref p] H Q := ⟨p, xs, rfl, .inl h, fun l hl => q l _ hl ((Fr.refl [] H).new hl) upd_same⟩
theorem rd_listT (h : SqT K H p xs) (q : ∀ l H2, H l = none → Fr [] H H2 → H2 l = some (.lst xs) → Q (.ref l) H2) : rListOf K [.ref p] H Q := ⟨p, xs, rfl, .inr h, fun l hl => q l _ hl ((Fr.refl [] H).new hl) upd_same⟩
theorem rd_bm {T : String} {r : V → List V → Hp → VK → Prop} {to : TE} (q : to σ H fun x H1 => tyV K T x H1 ∧ tr σ H1 fun xs H2 => r x xs H2 Q) : tBM K T r to tr σ H Q := q
theorem rd_tyL {G : Prop} (h : H a = some (.lst xs)) (q : G) : tyV K "list" (.ref a) H ∧ G := ⟨Or.inl ⟨rfl, _, SqL.of h⟩, q⟩
theorem rd_app (h : H a = some (.lst xs)) (hl : xs.length ≤ 1000) (q : ∀ H2, Fr [a] H H2 → Kp H H2 → H2 a = some (.lst (xs ++ [v])) → Q .non H2) : rAppend (.ref a) [v] H Q :=
  ⟨a, xs, v, rfl, rfl, h, small1000 hl, q _ ((Fr.refl [a] H).put (by simp)) (((Fr.refl [a] H).put (by simp)).kpL h) upd_same⟩
theorem rd_abs (q : Q (.int (if i < 0 then -i else i)) H) : rAbs [.int i] H Q := ⟨i, rfl, q⟩
theorem rd_neg {g : Int → V} (q : Q (g i) H) : rU g (.int i) H Q := ⟨i, rfl, q⟩
theorem rd_max2 (q : Q (.int (if j > i then j else i)) H) : rMax2 [.int i, .int j] H Q := ⟨i, j, rfl, q⟩
theorem rd_tupL (h : SqL K H p xs) (q : ∀ l H2, H l = none → Fr [] H H2 → H2 l = some (.tup xs) → Q (.ref l) H2) : rTupleOf K [.ref p] H Q := ⟨p, xs, rfl, .inl ⟨h, fun l hl => q l _ hl ((Fr.refl [] H).new hl) upd_same⟩⟩
theorem rd_tupT (h : SqT K H p xs) (q : Q (.ref p) H) : rTupleOf K [.ref p] H Q := ⟨p, xs, rfl, .inr ⟨h, q⟩⟩
theorem rd_inT (h : SqT K H p xs) (hx : flatV x = true) (ha : xs.all flatV = true) (q : Q (.bl (inV x xs)) H) : rIn K false x (.ref p) H Q := ⟨p, xs, rfl, .inr h, hx, ha, q⟩
theorem rd_inL (h : SqL K H p xs) (hx : flatV x = true) (ha : xs.all flatV = true) (q : Q (.bl (inV x xs)) H) : rIn K false x (.ref p) H Q := ⟨p, xs, rfl, .inl h, hx, ha, q⟩
theorem rd_isi {n m : String} {k : Bool} (h : TyX K H x (.type n)) (hk : kitB n m = some k) (q : Q (.bl k) H) : rIsi K [x, .ty m] H Q := ⟨x, .ty m, _, _, k, rfl, .ty m, h, kit_ty hk, q⟩
theorem ty_list (h : SqL K H a xs) : TyX K H (.ref a) (.type "list") := by
  rcases h with (h | ⟨o, h⟩) | ⟨o, its, n, h, hc, _⟩
  · exact .base (.lst h)
  · exact .base (.frz h)
  · exact .kList h hc
theorem ty_tup (h : SqT K H a xs) : TyX K H (.ref a) (.type "tuple") := by
  rcases h with (h | ⟨o, h⟩) | ⟨o, its, n, h, hc, _⟩
  · exact .base (.tup h)
  · exact .fTuple h
  · exact .kTuple h hc
theorem ifT {b : Bool} {A B : Prop} (h : b = true) (q : A) : if b = true then A else B := by rw [if_pos h]; exact q
theorem ifF {b : Bool} {A B : Prop} (h : b = false) (q : B) : if b = true then A else B := by rw [if_neg (by rw [h]; decide)]; exact q
theorem rd_for {wi : TI} {g : TG} {tb : TS} (q : wi σ H fun J H1 => ∃ W : Nat → Nat → L2.St → Hp → Prop, (∃ m, W 0 m σ H1) ∧ ∀ i m σ H, W i m σ H →
    (J.stop i H ∧ D.nx σ H) ∨ (J.go i H ∧ ∃ N : L2.St → Hp → Prop, (∀ σ' H', N σ' H' → ∃ m', m' < m ∧ W (i + 1) m' σ' H') ∧ ∀ x H', J.yld i H x H' → g x σ H' fun σ2 H2 => tb { D with nx := N, ct := N, bk := D.nx } σ2 H2)) : tFor wi g tb D σ H := q
theorem rd_intI (q : Q (.int i) H) : rIntC [.int i] H Q := .inl ⟨i, rfl, q⟩
theorem rd_intB {k : Bool} (q : Q (.int (if k then 1 else 0)) H) : rIntC [.bl k] H Q := .inr ⟨k, rfl, q⟩
theorem rd_gunl {n : Nat} {g : TGs} (h : SqL K H a xs) (hl : xs.length = n) (q : g xs σ H S) : gUnl K n g (.ref a) σ H S := ⟨a, xs, rfl, h, hl, q⟩
/-! what a for walks, what a comprehension walks -/
def Rng1 (vs : List V) (H : Hp) (W : It → Hp → Prop) : Prop := ∃ j : Int, vs = [.int j] ∧ -(2 ^ 62) ≤ j ∧ j < 2 ^ 62 ∧ W (Itr 0 j.toNat) H
def Rng2 (vs : List V) (H : Hp) (W : It → Hp → Prop) : Prop := ∃ i j : Int, vs = [.int i, .int j] ∧ (-(2 ^ 62) ≤ i ∧ i < 2 ^ 62 ∧ -(2 ^ 62) ≤ j ∧ j < 2 ^ 62) ∧ W (Itr i (j - i).toNat) H
def IsLi (K : PySem.W.Frag) (x : V) (H : Hp) (W : It → Hp → Prop) : Prop := ∃ a, x = .ref a ∧ (∃ xs, SqL K H a xs) ∧ W (Itl K a) H
def IsTu (K : PySem.W.Frag) (x : V) (H : Hp) (W : It → Hp → Prop) : Prop := ∃ a, x = .ref a ∧ (∃ xs, SqT K H a xs) ∧ W (Itt K a) H
theorem rd_irng1 {W : It → Hp → Prop} (q : tr σ H fun vs H1 => Rng1 vs H1 W) : iRng1 tr σ H W := q
theorem rd_irng2 {W : It → Hp → Prop} (q : tr σ H fun vs H1 => Rng2 vs H1 W) : iRng2 tr σ H W := q
theorem rd_rng1 {W : It → Hp → Prop} (h : -(2 ^ 62) ≤ j ∧ j < 2 ^ 62) (q : W (Itr 0 j.toNat) H) : Rng1 [.int j] H W := ⟨j, rfl, h.1, h.2, q⟩
theorem rd_rng2 {W : It → Hp → Prop} (h : -(2 ^ 62) ≤ i ∧ i < 2 ^ 62 ∧ -(2 ^ 62) ≤ j ∧ j < 2 ^ 62) (q : W (Itr i (j - i).toNat) H) : Rng2 [.int i, .int j] H W := ⟨i, j, rfl, h, q⟩
theorem rd_ilist {W : It → Hp → Prop} (q : te σ H fun x H1 => IsLi K x H1 W) : iList K te σ H W := q
theorem rd_ituple {W : It → Hp → Prop} (q : te σ H fun x H1 => IsTu K x H1 W) : iTup K te σ H W := q
theorem rd_isli {W : It → Hp → Prop} (h : SqL K H a xs) (q : W (Itl K a) H) : IsLi K (.ref a) H W := ⟨a, rfl, ⟨xs, h⟩, q⟩
theorem rd_istu {W : It → Hp → Prop} (h : SqT K H a xs) (q : W (Itt K a) H) : IsTu K (.ref a) H W := ⟨a, rfl, ⟨xs, h⟩, q⟩
theorem rd_istuK {H0 : Hp} {W : It → Hp → Prop} (h : SqT K H0 a xs) (k : Kp H0 H) (q : W (Itt K a) H) : IsTu K (.ref a) H W := rd_istu (k.sq h) q
/-- the loop over J, W being still to be found -/
def ForT (J : It) (g : TG) (tb : TS) (D : Ends) (σ : L2.St) (H : Hp) : Prop := ∃ W : Nat → Nat → L2.St → Hp → Prop, (∃ m, W 0 m σ H) ∧ ∀ i m σ H, W i m σ H →
    (J.stop i H ∧ D.nx σ H) ∨ (J.go i H ∧ ∃ N : L2.St → Hp → Prop, (∀ σ' H', N σ' H' → ∃ m', m' < m ∧ W (i + 1) m' σ' H') ∧ ∀ x H', J.yld i H x H' → g x σ H' fun σ2 H2 => tb { D with nx := N, ct := N, bk := D.nx } σ2 H2)
theorem rd_fort {wi : TI} {g : TG} {tb : TS} (q : wi σ H fun J H1 => ForT J g tb D σ H1) : tFor wi g tb D σ H := q
theorem rd_forR {n : Nat} {g : TG} {tb : TS} (Pv : Nat → L2.St → Hp → Prop) (h0 : Pv 0 σ H)
    (hs : ∀ k σ H, k < n → Pv k σ H → g (.int (i + k)) σ H fun σ2 H2 => tb { D with nx := Pv (k + 1), ct := Pv (k + 1), bk := D.nx } σ2 H2) (hd : ∀ σ H, Pv n σ H → D.nx σ H) : ForT (Itr i n) g tb D σ H := for_range Pv h0 hs hd
theorem rd_forL {g : TG} {tb : TS} (xs : List V) (Pv : Nat → L2.St → Hp → Prop) (h0 : Pv 0 σ H) (hl : ∀ k σ H, k ≤ xs.length → Pv k σ H → SqL K H a xs)
    (hs : ∀ k x σ H, xs[k]? = some x → Pv k σ H → g x σ H fun σ2 H2 => tb { D with nx := Pv (k + 1), ct := Pv (k + 1), bk := D.nx } σ2 H2) (hd : ∀ σ H, Pv xs.length σ H → D.nx σ H) : ForT (Itl K a) g tb D σ H := for_list Pv h0 hl hs hd
theorem rd_forT {g : TG} {tb : TS} (xs : List V) (Pv : Nat → L2.St → Hp → Prop) (h0 : Pv 0 σ H) (hl : ∀ k σ H, k ≤ xs.length → Pv k σ H → SqT K H a xs)
    (hs : ∀ k x σ H, xs[k]? = some x → Pv k σ H → g x σ H fun σ2 H2 => tb { D with nx := Pv (k + 1), ct := Pv (k + 1), bk := D.nx } σ2 H2) (hd : ∀ σ H, Pv xs.length σ H → D.nx σ H) : ForT (Itt K a) g tb D σ H := for_tup Pv h0 hl hs hd
def LcEnd (D : Addr) (P : Hp → Prop) (y : V) (H4 : Hp) : Prop := ∃ acc, H4 D = some (.lst acc) ∧ acc.length < sizeLine ∧ P (upd H4 D (.lst (acc ++ [y])))
def LcIn (tt : TT) (te : TE) (vs : List Nat) (σ : L2.St) (D : Addr) (P : Hp → Prop) (σ2 : L2.St) (H2 : Hp) : Prop := wipe σ2 vs = wipe σ vs ∧ tt σ2 H2 fun b H3 => if b = true then te σ2 H3 fun y H4 => LcEnd D P y H4 else P H3
def LcT (J : It) (g : TG) (tt : TT) (te : TE) (vs : List Nat) (σ : L2.St) (H1 : Hp) (Q : VK) : Prop := ∀ D, H1 D = none → ∃ W : Nat → Nat → Hp → Prop, (∃ m, W 0 m (upd H1 D (.lst []))) ∧ ∀ i m H, W i m H →
  (J.stop i H ∧ Q (.ref D) H) ∨ (J.go i H ∧ ∃ Nx : Hp → Prop, (∀ H', Nx H' → ∃ m', m' < m ∧ W (i + 1) m' H') ∧ ∀ x H', J.yld i H x H' → g x (wipe σ vs) H' fun σ2 H2 => LcIn tt te vs σ D Nx σ2 H2)
theorem rd_lc {wi : TI} {g : TG} {vs : List Nat} (q : wi σ H fun J H1 => LcT J g tt te vs σ H1 Q) : tLc wi g tt te vs σ H Q := q
/-- a word over what is made so far -/
abbrev LcP (D : Addr) (Pv : Nat → List V → Hp → Prop) (i : Nat) : Hp → Prop := fun H => ∃ acc, H D = some (.lst acc) ∧ Pv i acc H
theorem rd_lcR {n : Nat} {g : TG} {vs : List Nat} (q : ∀ D H1, H D = none → Fr [] H H1 → H1 D = some (.lst []) → ∃ Pv : Nat → List V → Hp → Prop, Pv 0 [] H1 ∧
    (∀ k acc H', k < n → H' D = some (.lst acc) → Pv k acc H' → g (.int (i + k)) (wipe σ vs) H' fun σ2 H2 => LcIn tt te vs σ D (LcP D Pv (k + 1)) σ2 H2) ∧ ∀ acc H', H' D = some (.lst acc) → Pv n acc H' → Q (.ref D) H') : LcT (Itr i n) g tt te vs σ H Q := fun D hD => by
  obtain ⟨Pv, h0, hs, hd⟩ := q D (upd H D (.lst [])) hD ((Fr.refl [] H).new hD) upd_same
  exact lc_range (LcP D Pv) ⟨[], upd_same, h0⟩ (fun k H' hk ⟨acc, e, p⟩ => hs k acc H' hk e p) fun H' ⟨acc, e, p⟩ => hd acc H' e p
theorem rd_lcL {g : TG} {vs : List Nat} (xs : List V) (q : ∀ D H1, H D = none → Fr [] H H1 → H1 D = some (.lst []) → ∃ Pv : Nat → List V → Hp → Prop, Pv 0 [] H1 ∧ (∀ k acc H', k ≤ xs.length → Pv k acc H' → SqL K H' a xs) ∧
    (∀ k x acc H', xs[k]? = some x → H' D = some (.lst acc) → Pv k acc H' → g x (wipe σ vs) H' fun σ2 H2 => LcIn tt te vs σ D (LcP D Pv (k + 1)) σ2 H2) ∧ ∀ acc H', H' D = some (.lst acc) → Pv xs.length acc H' → Q (.ref D) H') : LcT (Itl K a) g tt te vs σ H Q := fun D hD => by
  obtain ⟨Pv, h0, hl, hs, hd⟩ := q D (upd H D (.lst [])) hD ((Fr.refl [] H).new hD) upd_same
  exact lc_list (K := K) (a := a) (xs := xs) (LcP D Pv) ⟨[], upd_same, h0⟩ (fun k H' hk ⟨acc, e, p⟩ => hl k acc H' hk p) (fun k x H' hx ⟨acc, e, p⟩ => hs k x acc H' hx e p) fun H' ⟨acc, e, p⟩ => hd acc H' e p
theorem rd_lcT {g : TG} {vs : List Nat} (xs : List V) (q : ∀ D H1, H D = none → Fr [] H H1 → H1 D = some (.lst []) → ∃ Pv : Nat → List V → Hp → Prop, Pv 0 [] H1 ∧ (∀ k acc H', k ≤ xs.length → Pv k acc H' → SqT K H' a xs) ∧
    (∀ k x acc H', xs[k]? = some x → H' D = some (.lst acc) → Pv k acc H' → g x (wipe σ vs) H' fun σ2 H2 => LcIn tt te vs σ D (LcP D Pv (k + 1)) σ2 H2) ∧ ∀ acc H', H' D = some (.lst acc) → Pv xs.length acc H' → Q (.ref D) H') : LcT (Itt K a) g tt te vs σ H Q := fun D hD => by
  obtain ⟨Pv, h0, hl, hs, hd⟩ := q D (upd H D (.lst [])) hD ((Fr.refl [] H).new hD) upd_same
  exact lc_tup (K := K) (a := a) (xs := xs) (LcP D Pv) ⟨[], upd_same, h0⟩ (fun k H' hk ⟨acc, e, p⟩ => hl k acc H' hk p) (fun k x H' hx ⟨acc, e, p⟩ => hs k x acc H' hx e p) fun H' ⟨acc, e, p⟩ => hd acc H' e p
theorem rd_lcin {vs : List Nat} {σ2 : L2.St} {Dd : Addr} {P : Hp → Prop} (h : wipe σ2 vs = wipe σ vs) (q : tt σ2 H fun b H3 => if b = true then te σ2 H3 fun y H4 => LcEnd Dd P y H4 else P H3) : LcIn tt te vs σ Dd P σ2 H := ⟨h, q⟩
theorem rd_yes (q : R true H) : tYes σ H R := q
theorem rd_lcend {Dd : Addr} {Pv : Nat → List V → Hp → Prop} {k : Nat} {acc : List V} (h : H Dd = some (.lst acc)) (hl : acc.length ≤ 1000) (q : ∀ H5, Fr [Dd] H H5 → Kp H H5 → H5 Dd = some (.lst (acc ++ [v])) → Pv k (acc ++ [v]) H5) : LcEnd Dd (LcP Dd Pv k) v H :=
  ⟨acc, h, small1000 hl, acc ++ [v], upd_same, q _ ((Fr.refl [Dd] H).put (by simp)) (((Fr.refl [Dd] H).put (by simp)).kpL h) upd_same⟩
theorem rd_while {c : TT} {tb : TS} (Pv : L2.St → Hp → Prop) (μ : L2.St → Hp → Nat) (h0 : Pv σ H)
    (hs : ∀ σ H, Pv σ H → c σ H fun b H1 => if b = true then ∃ N : L2.St → Hp → Prop, (∀ σ' H', N σ' H' → ∃ m', m' < μ σ H ∧ (m' = μ σ' H' ∧ Pv σ' H')) ∧ tb { D with nx := N, ct := N, bk := D.nx } σ H1 else D.nx σ H1) : tWhile c tb D σ H :=
  ⟨fun m σ H => m = μ σ H ∧ Pv σ H, ⟨_, rfl, h0⟩, fun m σ H p => by obtain ⟨rfl, p⟩ := p; exact hs σ H p⟩
theorem rd_turn {Pv : L2.St → Hp → Prop} {μ : L2.St → Hp → Nat} {n : Nat} {tb : TS} (q : tb { D with nx := fun σ' H' => Pv σ' H' ∧ μ σ' H' < n, ct := fun σ' H' => Pv σ' H' ∧ μ σ' H' < n, bk := D.nx } σ H1) :
    ∃ N : L2.St → Hp → Prop, (∀ σ' H', N σ' H' → ∃ m', m' < n ∧ (m' = μ σ' H' ∧ Pv σ' H')) ∧ tb { D with nx := N, ct := N, bk := D.nx } σ H1 := ⟨_, fun _ _ ⟨p', l⟩ => ⟨_, l, rfl, p'⟩, q⟩
end
end Lf
namespace Lf
open PySem L2
def top (i : Nat) : Stmt := PySem.Challenge.pw_lapfold_k07_runs.main.body.getD i (.Pass ⟨0, 0, 0, 0⟩)
end Lf
local macro_rules | `(tactic| walk_at "rd1") => `(tactic| first
  | with_reducible refine Lf.rd_var rfl ?_ | with_reducible refine Lf.rd_c ?_ | with_reducible refine Lf.rd_op ?_
  | with_reducible refine Lf.rd_test ?_ | with_reducible refine Lf.rd_isb ?_ | with_reducible refine Lf.rd_nil ?_ | with_reducible refine Lf.rd_cons ?_
  | with_reducible refine Lf.rd_plusI ?_ | with_reducible refine Lf.rd_I0 ?_ | with_reducible refine Lf.rd_cb ?_ | with_reducible refine Lf.rd_call ?_
  | with_reducible refine Lf.rd_tup ?_ | with_reducible refine Lf.rd_lst ?_ | with_reducible refine Lf.rd_ret ?_ | with_reducible refine Lf.rd_asg ?_ | with_reducible refine Lf.rd_gname ?_
  | with_reducible refine Lf.rd_if ?_ | with_reducible refine Lf.rd_drop ?_ | with_reducible refine Lf.rd_next ?_ | with_reducible refine Lf.rd_par ?_ | with_reducible refine Lf.rd_two ?_
  | with_reducible refine Lf.rd_abs ?_ | with_reducible refine Lf.rd_max2 ?_ | with_reducible refine Lf.rd_neg ?_ | with_reducible refine Lf.rd_un ?_ | with_reducible refine Lf.rd_b ?_ | with_reducible refine Lf.rd_and ?_ | with_reducible refine Lf.rd_or ?_ | with_reducible refine Lf.rd_not ?_
  | with_reducible refine Lf.rd_andV ?_ | with_reducible refine Lf.rd_orV ?_ | with_reducible refine Lf.rd_andb ?_ | with_reducible refine Lf.rd_orb ?_ | with_reducible refine Lf.rd_notV ?_ | with_reducible refine Lf.rd_notb ?_
  | with_reducible refine Lf.rd_ife ?_ | with_reducible refine Lf.rd_retN ?_ | with_reducible refine Lf.rd_break ?_ | with_reducible refine Lf.rd_cont ?_
  | with_reducible refine Lf.rd_gsub ?_ | with_reducible refine Lf.rd_gnil ?_ | with_reducible refine Lf.rd_gcons ?_
  | with_reducible refine Lf.rd_bm ?_ | with_reducible refine Lf.rd_intI ?_ | with_reducible refine Lf.rd_intB ?_ | with_reducible refine Lf.rd_irng1 ?_ | with_reducible refine Lf.rd_irng2 ?_ | with_reducible refine Lf.rd_ilist ?_ | with_reducible refine Lf.rd_ituple ?_
  | with_reducible refine Lf.rd_fort ?_ | with_reducible refine Lf.rd_lc ?_ | with_reducible refine Lf.rd_lcin rfl ?_ | with_reducible refine Lf.rd_yes ?_
  | with_reducible refine Lf.rd_rng1 (by decide) ?_ | with_reducible refine Lf.rd_rng2 (by decide) ?_
  | with_reducible refine Lf.rd_eqS rfl ?_ | with_reducible refine Lf.rd_neS rfl ?_)
local macro_rules | `(tactic| walk_at "rd") => `(tactic| (repeat (first | (walk_at "rd1") | (with_reducible refine Lf.rd_seq ?_))))
local macro_rules | `(tactic| walk_at "rh1") => `(tactic| first
  | (walk_at "rd1")
  | ((with_reducible refine' Lf.rd_ixK ?hS ?hK ?hA ?_); (case hS => (walk_at "ht")); (case hK => (walk_at "kp")); (case hA => rfl))
  | ((with_reducible refine' Lf.rd_ixH ?hS ?hA ?_); (case hS => (walk_at "hp")); (case hA => rfl))
  | ((with_reducible refine' Lf.rd_lenH ?hS ?_); (case hS => (walk_at "hp")))
  | ((with_reducible refine' Lf.rd_lenK ?hS ?hK ?_); (case hS => (walk_at "ht")); (case hK => (walk_at "kp")))
  | ((with_reducible refine' Lf.rd_gtupK ?hS ?hK ?hA ?_); (case hS => (walk_at "ht")); (case hK => (walk_at "kp")); (case hA => rfl))
  | ((with_reducible refine' Lf.rd_gunl ?hS ?hA ?_); (case hS => (walk_at "hp")); (case hA => rfl))
  | ((with_reducible refine' Lf.rd_istuK ?hS ?hK ?_); (case hS => (walk_at "ht")); (case hK => (walk_at "kp")))
  | ((with_reducible refine' Lf.rd_isli ?hS ?_); (case hS => (walk_at "hp")))
  | ((with_reducible refine' Lf.rd_tyL ?hS ?_); (case hS => (walk_at "hp"))))
local macro_rules | `(tactic| walk_at "rh") => `(tactic| (repeat (first | (walk_at "rh1") | (with_reducible refine Lf.rd_seq ?_))))
local macro_rules | `(tactic| walk_at "rs") => `(tactic| (repeat (walk_at "rh1")))
-- a tracked list, as it was told last
local macro_rules | `(tactic| walk_at "hp") => `(tactic| first
  | assumption
  | ((refine' L2.SqL.of ?k1); (case k1 => (walk_at "hp")))
  | ((refine' Lf.Fr.at (M := []) ?k1 ?k3 ?k2); (case k1 => assumption); (case k2 => simp); (case k3 => (walk_at "hp")))
  | ((refine' Lf.Fr.at2 ?k1 ?k3 ?k4 ?k5); (case k1 => assumption); (case k4 => assumption); (case k5 => assumption); (case k3 => (walk_at "hp")))
  | ((refine' Lf.Fr.at1 ?k1 ?k3 ?k4); (case k1 => assumption); (case k4 => assumption); (case k3 => (walk_at "hp")))
  | ((refine' Lf.Fr.seq0 ?k1 ?k3); (case k1 => assumption); (case k3 => (walk_at "hp"))))
-- a tuple, at whatever heap
local macro_rules | `(tactic| walk_at "ht") => `(tactic| first
  | assumption
  | ((refine' L2.SqT.of ?k1); (case k1 => assumption)))
-- tuples stay from one heap to another
local macro_rules | `(tactic| walk_at "kp") => `(tactic| first
  | assumption
  | exact Lf.Kp.refl _
  | ((refine' Lf.Kp.trans ?k3 (Lf.Fr.kp0 ?k1)); (case k1 => assumption); (case k3 => (walk_at "kp")))
  | ((refine' Lf.Kp.trans ?k3 ?k1); (case k1 => assumption); (case k3 => (walk_at "kp"))))
-- xs.append(v) of a tracked list
local macro_rules | `(tactic| walk_at "ap") => `(tactic| ((refine' Lf.rd_app ?k1 ?k2 ?k3); (case k1 => (walk_at "hp")); (case k2 => simp)))
-- a test of written words
local macro_rules | `(tactic| walk_at "wd") => `(tactic| first
  | ((with_reducible refine' Lf.ifF ?k1 ?k2); (case k1 => decide +kernel))
  | ((with_reducible refine' Lf.ifT ?k1 ?k2); (case k1 => decide +kernel)))
local macro_rules | `(tactic| walk_at "rx") => `(tactic| (repeat (first | (walk_at "rh1") | (with_reducible refine Lf.rd_seq ?_) | (walk_at "wd"))))
/-! ### sets of texts: made of a list, told rising -/
namespace Lf
open PySem PySem.Spec PyProof.Rows L2
def tx (e : Int × Value) : Str := match e.2 with | .str x _ => x | _ => ⟨#[]⟩
structure Tsd (wd : World) (ee : Array (Int × Value)) (tb : SetTable) (ms : List Str) : Prop where
  good : ∀ y ∈ ee.toList, ∃ k u, y = (hashStr wd k, Value.str k u)
  nod : (ee.toList.map tx).Nodup
  mem : ∀ k, k ∈ ms ↔ k ∈ ee.toList.map tx
  few : ee.size ≤ ms.length
  fit : tb.fits ee.size = true
  ris : Ris tb.place.toList
  led : wd.params.followText "set-order" = true ∨ tb.led = true
def Ts (wd : World) (hp : Heap) (ad : Addr) (ms : List Str) : Prop :=
  ∃ ob ee n tb, hp.get? ad = some ob ∧ ob.ExactSet ∧ ob.data = .set ee n tb ∧ Tsd wd ee tb ms
theorem Ts.at {wd : World} {h1 h2 : Heap} {ad : Addr} {ms : List Str} (T : Ts wd h1 ad ms) (kp : ∀ x, h1.get? ad = some x → h2.get? ad = some x) : Ts wd h2 ad ms := by
  rcases T with ⟨ob, ee, n, tb, g0, g1⟩
  exact ⟨ob, ee, n, tb, kp _ g0, g1⟩
theorem Ts.cong {wd : World} {h1 : Heap} {ad : Addr} {ms ns : List Str} (T : Ts wd h1 ad ms) (hm : ∀ k, k ∈ ns ↔ k ∈ ms) (hl : ms.length ≤ ns.length) : Ts wd h1 ad ns := by
  rcases T with ⟨ob, ee, n, tb, g0, g1, g2, D⟩
  exact ⟨ob, ee, n, tb, g0, g1, g2, D.good, D.nod, fun k => (hm k).trans (D.mem k), Nat.le_trans D.few hl, D.fit, D.ris, D.led⟩
theorem good_el {pg : Program} {wd : World} {l : List (Int × Value)} (hg : ∀ y ∈ l, ∃ k u, y = (hashStr wd k, Value.str k u)) : ElemsOf (PySem.strKind pg wd) l := by
  intro y hy
  rcases hg y hy with ⟨k, u, rfl⟩
  exact ⟨⟨k, strKind_is pg wd k u, rfl⟩, rfl⟩
theorem good_tx {pg : Program} {wd : World} {l : List (Int × Value)} (hg : ∀ y ∈ l, ∃ k u, y = (hashStr wd k, Value.str k u)) (k : Str) :
    k ∈ l.map tx ↔ ∃ y ∈ l, (PySem.strKind pg wd).is k y.2 = true := by
  rw [List.mem_map]
  constructor
  · rintro ⟨y, hy, e⟩
    rcases hg y hy with ⟨k0, u, rfl⟩
    exact ⟨_, hy, by rw [← e]; exact strKind_is pg wd k0 u⟩
  · rintro ⟨y, hy, e⟩
    rcases hg y hy with ⟨k0, u, rfl⟩
    refine ⟨_, hy, ?_⟩
    have z := KeyKind.is_eq_decide (knd := PySem.strKind pg wd) (strKind_is pg wd k0 u) k
    rw [z] at e
    exact (of_decide_eq_true e).symm
section
variable {pg : Program} {wd : World} {ar : Around} {er : Value → Shared → Prop} {st : Shared} {ad : Addr} {ms : List Str}
theorem ts_tail {g : Bool → Sem Unit} (hg : ∀ (b : Bool) (s₁ : Shared) (Q' : Unit → Shared → Prop), Q' () s₁ → wpAny (model pg wd) ar (g b) Q' er s₁)
    {ob : Obj} {e0 ee : Array (Int × Value)} {n : Nat} {t0 tb : SetTable} (go : st.heap.get? ad = some ob) (gx : ob.ExactSet) (gd : ob.data = .set e0 n t0)
    (D : Tsd wd ee tb ms) (room : ms.length < scanBound) {dm : Bool} {R : Option Bool → Shared → Prop}
    (hR : ∀ h2, Heap.SameBut ad st.heap h2 → Ts wd h2 ad ms → R (some true) { st with heap := h2 }) :
    wpAny (model pg wd) ar (do
      storeSet ad ee tb
      if (!dm && tb.tooFull) = true then do
        g (relayAll tb ee (SetTable.grown ee.size)).2.2
        storeSet ad (relayAll tb ee (SetTable.grown ee.size)).1 (relayAll tb ee (SetTable.grown ee.size)).2.1
        pure (some true)
      else pure (some true)) R er st := by
  have b1 : ee.size < scanBound := Nat.lt_of_le_of_lt D.few room
  refine wpAny_bind (wpAny_storeSet_of go gd ?_ (fits_of_scanBound b1))
  have go1 := store_at (es' := ee) (t' := tb) go gd
  have sb := Heap.SameBut.update st.heap ad (Obj.putSet ee tb)
  split
  · have p1 := relayAll_perm tb ee (SetTable.grown ee.size)
    have p2 := relayAll_fits tb ee (SetTable.grown ee.size)
    have p3 := relayAll_ris tb ee (SetTable.grown ee.size)
    have p4 := relayAll_led tb ee (SetTable.grown ee.size)
    generalize relayAll tb ee (SetTable.grown ee.size) = Z at p1 p2 p3 p4 ⊢
    obtain ⟨e2, t2, gv⟩ := Z
    dsimp only at p1 p2 p3 p4 ⊢
    have z : e2.size = ee.size := by rw [← Array.length_toList, p1.length_eq, Array.length_toList]
    refine wpAny_bind (hg _ _ _ ?_)
    refine wpAny_bind (wpAny_storeSet_of go1 rfl ?_ (fits_of_scanBound (by rw [z]; exact b1)))
    have go2 := store_at (es' := e2) (t' := t2) go1 rfl
    refine wpAny_pure (hR _ (sb.trans (Heap.SameBut.update _ ad _)) ⟨_, e2, _, t2, go2, gx, rfl, fun y hy => D.good y (p1.mem_iff.mp hy), (p1.map tx).nodup_iff.mpr D.nod, fun k => (D.mem k).trans (p1.map tx).mem_iff.symm, by rw [z]; exact D.few, p2, p3, ?_⟩)
    rw [p4]
    exact D.led
  · exact wpAny_pure (hR _ sb ⟨_, ee, _, tb, go1, gx, rfl, D⟩)

theorem ts_add {k : Str} {u : Tok} {Q : Bool → Shared → Prop} (T : Ts wd st.heap ad ms) (room : ms.length + 1 < scanBound)
    (hQ : ∀ b h2, Heap.SameBut ad st.heap h2 → Ts wd h2 ad (ms ++ [k]) → Q b { st with heap := h2 }) :
    wpAny (model pg wd) ar (setAddHashed ad (.str k u) (hashStr wd k)) Q er st := by
  rcases T with ⟨ob, ee, n, tb, go, gx, gd, D⟩
  have b0 : ee.size < scanBound := Nat.lt_of_le_of_lt D.few (by omega)
  have ki : (PySem.strKind pg wd).is k (.str k u) = true := strKind_is pg wd k u
  have el : ElemsOf (PySem.strKind pg wd) ee.toList := good_el D.good
  show wpAny _ _ (setAddHashed ad (.str k u) ((PySem.strKind pg wd).hash k)) _ _ _
  unfold setAddHashed setAddHashedIn
  refine wpAny_holding (wpAny_bind (wpAny_setState_of go gd D.fit ?_))
  dsimp only
  rw [byScan_of (knd := PySem.strKind pg wd) (show (Value.str k u).scannable = true from rfl) b0 el]
  simp only [↓reduceIte]
  unfold setAddByScan
  refine wpAny_bind (wpAny_bind (wpAny_rule (wpAny_bind (wpAny_setScan_of (knd := PySem.strKind pg wd) ki go gd D.fit el ?_))))
  cases hf : List.findIdx? (fun e => (PySem.strKind pg wd).is k e.2) ee.toList with
  | some j =>
    dsimp only
    rcases List.findIdx?_eq_some_iff_getElem.mp hf with ⟨hj, pj, _⟩
    have hk : k ∈ ms := (D.mem k).2 ((good_tx (pg := pg) D.good k).2 ⟨ee.toList[j], List.getElem_mem hj, pj⟩)
    refine wpAny_pure (wpAny_pure (hQ _ st.heap (Heap.SameBut.refl ad st.heap) ?_))
    refine Ts.cong ⟨ob, ee, n, tb, go, gx, gd, D⟩ (fun i => ?_) (by simp)
    rw [List.mem_append, List.mem_singleton]
    exact ⟨fun z => z.elim id fun e => e ▸ hk, .inl⟩
  | none =>
    dsimp only
    have nk : k ∉ ee.toList.map tx := fun z => by
      rcases (good_tx (pg := pg) D.good k).1 z with ⟨y, hy, q⟩
      have c := List.findIdx?_eq_none_iff.mp hf y hy
      rw [q] at c
      cases c
    have gw : ∀ (b : Bool) {s₁ : Shared} {Q' : Unit → Shared → Prop}, Q' () s₁ → wpAny (model pg wd) ar (match b with | true => rule "set.scan.the-table-gave-way" | false => pure ()) Q' er s₁ := by
      intro b s₁ Q' q
      cases b
      · exact wpAny_pure q
      · exact wpAny_rule q
    have p1 := layNew_perm tb ee ((PySem.strKind pg wd).hash k) (.str k u)
    have p2 := layNew_fits tb ee ((PySem.strKind pg wd).hash k) (.str k u)
    have p3 := layNew_ris tb ee ((PySem.strKind pg wd).hash k) (.str k u) D.ris
    have p4 := layNew_led tb ee ((PySem.strKind pg wd).hash k) (.str k u)
    generalize layNew tb ee ((PySem.strKind pg wd).hash k) (.str k u) = Z at p1 p2 p3 p4 ⊢
    obtain ⟨e1, t1, dm, gv⟩ := Z
    dsimp only at p1 p2 p3 p4 ⊢
    rw [Array.toList_push] at p1
    have pc : e1.toList.Perm ((hashStr wd k, Value.str k u) :: ee.toList) := p1.trans (List.perm_append_singleton _ _)
    have pk : (e1.toList.map tx).Perm (k :: ee.toList.map tx) := pc.map tx
    have sz : e1.size = ee.size + 1 := by rw [← Array.length_toList, pc.length_eq, List.length_cons, Array.length_toList]
    have D1 : Tsd wd e1 t1 (ms ++ [k]) := by
      refine ⟨fun y hy => ?_, pk.nodup_iff.mpr (List.nodup_cons.mpr ⟨nk, D.nod⟩), fun i => ?_, ?_, p2, p3, ?_⟩
      · rcases List.mem_cons.mp (pc.mem_iff.mp hy) with z | z
        · exact ⟨k, u, z⟩
        · exact D.good y z
      · rw [pk.mem_iff, List.mem_cons, List.mem_append, List.mem_singleton, D.mem i]
        exact Or.comm
      · have := D.few
        rw [sz, List.length_append]
        simp only [List.length_cons, List.length_nil]
        omega
      · rw [p4]; exact D.led
    have rm : (ms ++ [k]).length < scanBound := by simpa using room
    have D2 : Tsd wd e1 { t1 with plain := false } (ms ++ [k]) := ⟨D1.good, D1.nod, D1.mem, D1.few, SetTable.fits_plain_off D1.fit, D1.ris, D1.led⟩
    refine wpAny_bind (gw _ ?_)
    split
    · refine wpAny_bind ?_
      rw [hashByValue_scannable 8 (show (Value.str k u).scannable = true from rfl)]
      refine wpAny_pure ?_
      refine ts_tail ?_ go gx gd (ms := ms ++ [k]) ?_ rm fun h2 sb T => ?_
      · intro b s₁ Q' q
        cases b
        · exact wpAny_pure q
        · exact wpAny_rule q
      · first | exact D2 | exact D1 | (split <;> first | exact D1 | exact D2)
      · dsimp only
        exact wpAny_pure (hQ _ h2 sb T)
    · refine wpAny_bind (wpAny_pure ?_)
      simp only [↓reduceIte]
      refine ts_tail ?_ go gx gd D1 rm fun h2 sb T => ?_
      · intro b s₁ Q' q
        cases b
        · exact wpAny_pure q
        · exact wpAny_rule q
      · dsimp only
        exact wpAny_pure (hQ _ h2 sb T)
end
section
variable {pg : Program} {wd : World} {ar : Around} {er : Value → Shared → Prop} {st : Shared}
theorem ts_loop {I : Addr} {fp wr : List Addr} {G : Array GenState → Array GenState → Prop} {n : Nat} {Pv : Nat → Value → Prop} {St : Nat → Shared → Prop} {R : Result → Shared → Prop}
    (W : WalksS pg wd ar.in1 I fp wr G n Pv St) (ad : Addr) (hfp : ad ∉ fp) (xs : List Str) (hn : n = xs.length) (room : xs.length + 1 < scanBound) (hv : ∀ i v, Pv i v → ∃ k u, xs[i]? = some k ∧ v = .str k u) :
    ∀ (m i : Nat) (st : Shared), n - i = m → i ≤ n → St i st → Ts wd st.heap ad (xs.take i) →
      (∀ s2, Moved (ad :: wr) G st s2 → Ts wd s2.heap ad xs → R (.ok (.ret .none)) s2) →
      codeAny (model pg wd) ar (.builtin "set.update.loop" ⟨[.ref ad, .ref I], []⟩) R st := by
  have hw : ad ∉ wr := fun z => hfp (W.sub _ z)
  have hs : ∀ b ∈ wr, b ∈ ad :: wr := fun b z => List.mem_cons_of_mem _ z
  intro m
  induction m with
  | zero =>
    intro i st hm hi h0 T hR
    have e : i = n := by omega
    subst e
    refine codeAny_builtin F.entry_set_update_loop ?_
    rw [Around.under_plainId F.plain_set_update_loop _]
    show wpAny _ ar.in1 (pyNext (.ref I) >>= _) _ _ st
    refine wpAny_bind (W.done st _ _ h0 fun s2 mv => ?_)
    show wpAny _ ar.in1 (ret Value.none) _ _ s2
    rw [List.take_of_length_le (by omega)] at T
    exact wpAny_pure (hR s2 (mv.mono hs) (T.at fun o z => mv.heap ad o hw z))
  | succ m ih =>
    intro i st hm hi h0 T hR
    have lt : i < n := by omega
    refine codeAny_builtin F.entry_set_update_loop ?_
    rw [Around.under_plainId F.plain_set_update_loop _]
    show wpAny _ ar.in1 (pyNext (.ref I) >>= _) _ _ st
    refine wpAny_bind (W.item i st _ _ lt h0 fun v s2 pv h1 mv => ?_)
    rcases hv i v pv with ⟨k, u, hk, rfl⟩
    have T2 : Ts wd s2.heap ad (xs.take i) := T.at fun o z => mv.heap ad o hw z
    show wpAny _ ar.in1 (holding [Value.str k u] (setAdd ad (.str k u)) >>= _) _ _ s2
    refine wpAny_bind (wpAny_holding ?_)
    unfold setAdd
    refine wpAny_holding (wpAny_bind ((PySem.strKind pg wd).pyHash (k := k) (strKind_is _ _ _ _) ?_))
    refine ts_add (st := { s2 with toks := s2.toks + 1 }) T2 (by rw [List.length_take]; omega) fun b h3 sb T3 => ?_
    have e : xs.take i ++ [k] = xs.take (i + 1) := by rw [List.take_add_one, hk] <;> rfl
    rw [e] at T3
    refine wpAny_pure ⟨plainId_quiet F.plain_set_update_loop _, ih (i + 1) _ (by omega) lt (W.frame _ s2 _ _ h1 (Nat.le_succ _) fun b hb o z => ?_) T3 fun s4 mv4 T4 => ?_⟩
    · rw [sb.2 b fun q : b = ad => hfp (by rw [← q]; exact hb)]; exact z
    · refine hR s4 (Moved.trans W.gtrans ((mv.mono hs).then_heap (Nat.le_succ _) fun b o hb z => ?_) mv4) T4
      rw [sb.2 b fun q : b = ad => hb (by rw [q]; exact List.mem_cons_self)]; exact z
theorem ts_none (hp : Heap) (ad : Addr) (go : hp.get? ad = some { cls := .type "set", dict := none, data := .set #[] 0 (.fresh 0 0 (!wd.params.followText "set-order")) }) : Ts wd hp ad [] := by
  refine ⟨_, #[], 0, _, go, ⟨rfl, rfl, rfl⟩, rfl, by simp, by simp, by simp, by simp, rfl, List.Pairwise.nil, ?_⟩
  show _ ∨ (!wd.params.followText "set-order") = true
  cases wd.params.followText "set-order"
  · exact .inr rfl
  · exact .inl rfl
end
end Lf
/-! ### set(list of texts), sorted of it -/
namespace Lf
open PySem PySem.Spec PyProof.Rows L2
section
variable {pg : Program} {wd : World} {ar : Around} {er : Value → Shared → Prop} {st : Shared}
/-- the fresh set -/
abbrev nSet (wd : World) : Obj := { cls := .type "set", dict := none, data := .set #[] 0 (.fresh 0 0 (!wd.params.followText "set-order")) }
theorem ts_init {l : Addr} {its : Array Value} (xs : List Str) (hh : ar.handled = none) (hl : st.heap.IsList l its) (hi : StrsAre its.toList xs) (room : xs.length + 1 < scanBound) :
    wpAny (model pg wd) ar (Builtin.«set.__init__» ⟨[.ref st.heap.objs.size, .ref l], []⟩) (fun f s2 => f = .done (.ret .none) ∧ ∃ h2 tk, s2 = { st with heap := h2, toks := tk } ∧ Ts wd h2 st.heap.objs.size xs ∧
      ∀ b o, st.heap.get? b = some o → h2.get? b = some o) er { st with heap := st.heap.push (nSet wd) } := by
  have sz : its.size = xs.length := by rw [← StrsAre.len_eq hi, Array.length_toList]
  have g0 : (st.heap.push (nSet wd)).get? st.heap.objs.size = some (nSet wd) := Heap.get?_push_size _ rfl
  have hT : Shared.TypeIs { st with heap := st.heap.push (nSet wd) } (.ref st.heap.objs.size) "set" := ⟨_, g0, rfl⟩
  rcases hl with ⟨⟨oc, od, odt, os⟩, hol, hcl, nl, hdl⟩
  simp only at hcl hdl
  subst hcl hdl
  have g1 : (st.heap.push (nSet wd)).get? l = some { cls := .type "list", dict := od, data := .seq its nl, slots := os } := Heap.get?_push_of_some _ hol
  have hsls := F.sub_list_set
  have hslf := F.sub_list_frozenset
  have hne : (Value.type "list" == Value.type "dict") = false := by decide
  have l1 : (st.heap.push (nSet wd)).IsList l its := ⟨_, g1, rfl, nl, rfl⟩
  have hsub := sub_set_self
  unfold Builtin.«set.__init__» noKeywords Builtin.Frozenset.updateFrom
  generalize hPI : pyIter = PI
  wp_walk
  subst hPI
  refine wpAny_pyIter_list l1 ?_
  refine wpAny_bind (wpAny_runValue ?_)
  have lS : l < st.heap.objs.size := Heap.lt_size hol
  have z1 : (st.heap.push (nSet wd)).objs.size = st.heap.objs.size + 1 := Heap.size_push ..
  have lI : l ≠ (st.heap.push (nSet wd)).objs.size := by rw [z1]; exact Nat.ne_of_lt (Nat.lt_succ_of_lt lS)
  have sF : st.heap.objs.size ∉ [(st.heap.push (nSet wd)).objs.size, l] := by
    rw [z1]
    simp only [List.mem_cons, List.not_mem_nil, or_false, not_or]
    exact ⟨by omega, Nat.ne_of_gt lS⟩
  have vals : ∀ (i : Nat) (v : Value), its[i]? = some v → ∃ k u, xs[i]? = some k ∧ v = .str k u := fun i v hv => by
    have ix : i < xs.length := by rw [← sz]; exact (Array.getElem?_eq_some_iff.mp hv).1
    obtain ⟨u, e⟩ := SS.strs_at hi i v (by rw [Array.getElem?_toList]; exact hv)
    refine ⟨xs[i], u, List.getElem?_eq_getElem ix, ?_⟩
    rw [e, List.getD_eq_getElem?_getD, List.getElem?_eq_getElem ix] <;> rfl
  refine ts_loop ((Walks.list (by simp [hh]) _ l lI its).toS) st.heap.objs.size sF xs sz room vals (its.size - 0) 0 _ rfl (Nat.zero_le _) ⟨⟨_, Heap.get?_push_size _ rfl, rfl, rfl⟩, l1.push _⟩ ?h0 ?hR
  case h0 => exact ts_none _ _ (Heap.get?_push_of_some _ g0)
  case hR =>
    intro s2 mv T
    rcases s2 with ⟨h2, g2, d2, t2, o2⟩
    have eg : g2 = st.gens := mv.gens
    have ed : d2 = st.drawn := mv.drawn
    have eo : o2 = st.os := mv.os
    subst eg ed eo
    show wpAny _ _ _ _ _ _
    refine wpAny_pure ?_
    show wpAny _ _ (ret Value.none) _ _ _
    refine wpAny_pure ⟨rfl, h2, t2, rfl, T, fun b o e => ?_⟩
    have bl : b < st.heap.objs.size := Heap.lt_size e
    refine mv.heap b o ?_ (Heap.get?_push_of_some _ (Heap.get?_push_of_some _ e))
    rw [z1]
    simp only [List.mem_cons, List.not_mem_nil, or_false, not_or]
    exact ⟨Nat.ne_of_lt bl, Nat.ne_of_lt (Nat.lt_succ_of_lt bl)⟩
set_option maxHeartbeats 4000000 in
theorem ts_call {l : Addr} {its : Array Value} (xs : List Str) {Q : Value → Shared → Prop} (hh : ar.handled = none) (hl : st.heap.IsList l its) (hi : StrsAre its.toList xs) (room : xs.length + 1 < scanBound)
    (hQ : ∀ h2 tk, Ts wd h2 st.heap.objs.size xs → (∀ b o, st.heap.get? b = some o → h2.get? b = some o) → Q (.ref st.heap.objs.size) { st with heap := h2, toks := tk }) :
    wpAny (model pg wd) ar (call (.type "set") [.ref l]) Q er st := by
  obtain ⟨mc, mt, hmro⟩ := F.called_set.mro
  have c1 := F.called_set.made
  have c2 := F.called_set.sub
  refine wpAny_call (codeAny_of_tree ?_)
  show wpAny _ _ (callAny (.type "set") _) _ _ _
  refine wpAny_pure ⟨Code.quiet_builtin _ (by decide +kernel), codeAny_builtin F.entry_type_call ?_⟩
  rw [Around.under_plain (weight_type_call_type "set" [.ref l] []) rfl]
  have c3 := F.called_set.notType
  have c4 := F.called_set.canCreate
  have c5 := F.typeCall_set_1 (.ref l)
  repeat (any_goals (first | assumption | wp_step))
  refine codeAny_mono (code_set_led1 (.ref l) (E := er) (Q₁ := fun ob s2 => ob = .ref st.heap.objs.size ∧ s2 = { st with heap := st.heap.push (nSet wd) }) ⟨rfl, rfl⟩) fun r s1 hr => ?_
  cases r with
  | error e => exact hr
  | ok fl =>
    cases fl with
    | ret ob =>
      obtain ⟨rfl, rfl⟩ := hr
      have hS : (st.heap.push (nSet wd)).get? st.heap.objs.size = some (nSet wd) := Heap.get?_push_size _ rfl
      have hT : Shared.TypeIs { st with heap := st.heap.push (nSet wd) } (.ref st.heap.objs.size) "set" := ⟨_, hS, rfl⟩
      have c6 := F.called_set.init.lookup
      have c7 := F.called_set.init.bind (.ref st.heap.objs.size)
      repeat (any_goals (first | assumption | wp_step))
      refine codeAny_mono (codeAny_call_builtin (R := wants (fun r s2 => r = .none ∧ ∃ h2 tk, s2 = { st with heap := h2, toks := tk } ∧ Ts wd h2 st.heap.objs.size xs ∧
          ∀ b o, st.heap.get? b = some o → h2.get? b = some o) er) F.called_set.init.plain F.entry_set_init (check_set_init_1 hT ?_)) fun r2 s2 hr2 => ?_
      · refine thn (ts_init xs (by simp [hh]) hl hi room) fun f s2 hf => ?_
        obtain ⟨rfl, h2, tk, rfl, T, kk⟩ := hf
        exact ⟨rfl, h2, tk, rfl, T, kk⟩
      · cases r2 with
        | error e => exact hr2
        | ok f2 =>
          cases f2 with
          | ret r =>
            obtain ⟨rfl, h2, tk, rfl, T, kk⟩ := hr2
            repeat (any_goals (first | assumption | wp_step))
            exact hQ _ _ T kk
          | _ => exact hr2.elim
    | _ => exact hr.elim
end
end Lf
/-! ### told rising: what sorted(set(..)) is -/
namespace Lf
open PySem PySem.Spec PyProof.Rows L2
def Lts (a b : Str) : Prop := a.cps.toList < b.cps.toList
instance (a b : Str) : Decidable (Lts a b) := inferInstanceAs (Decidable (a.cps.toList < b.cps.toList))
theorem lts_irr (a : Str) : ¬ Lts a a := List.lt_irrefl _
theorem lts_tr {a b c : Str} (h : Lts a b) (g : Lts b c) : Lts a c := List.lt_trans h g
theorem str_ext {a b : Str} (h : a.cps.toList = b.cps.toList) : a = b := by
  cases a; cases b
  simpa using h
theorem lts_or {a b : Str} (h : ¬ Lts a b) (n : a ≠ b) : Lts b a := by
  rcases List.le_iff_lt_or_eq.mp (List.not_lt.mp h) with z | z
  · exact z
  · exact absurd (str_ext z).symm n
def insS (k : Str) : List Str → List Str
  | [] => [k]
  | x :: r => if k = x then x :: r else if Lts k x then k :: x :: r else x :: insS k r
/-- the texts of a list, each once, rising -/
def srt (ms : List Str) : List Str := ms.foldr insS []
theorem mem_ins (k y : Str) : ∀ l : List Str, y ∈ insS k l ↔ y = k ∨ y ∈ l
  | [] => by simp [insS]
  | x :: r => by
    unfold insS
    split
    · rename_i h; subst h; simp
    · split
      · simp
      · rw [List.mem_cons, mem_ins k y r, List.mem_cons]
        grind
theorem pw_ins (k : Str) : ∀ l : List Str, l.Pairwise Lts → (insS k l).Pairwise Lts
  | [], _ => by simp [insS]
  | x :: r, h => by
    have h2 := List.pairwise_cons.mp h
    unfold insS
    split
    · exact h
    · rename_i n
      split
      · rename_i c
        refine List.pairwise_cons.mpr ⟨fun y hy => ?_, h⟩
        rcases List.mem_cons.mp hy with z | z
        · rw [z]; exact c
        · exact lts_tr c (h2.1 y z)
      · rename_i c
        refine List.pairwise_cons.mpr ⟨fun y hy => ?_, pw_ins k r h2.2⟩
        rcases (mem_ins k y r).1 hy with z | z
        · rw [z]; exact lts_or c n
        · exact h2.1 y z
theorem mem_srt {y : Str} : ∀ {ms : List Str}, y ∈ srt ms ↔ y ∈ ms
  | [] => by simp [srt]
  | x :: r => by
    show y ∈ insS x (srt r) ↔ _
    rw [mem_ins, mem_srt, List.mem_cons]
theorem pw_srt : ∀ (ms : List Str), (srt ms).Pairwise Lts
  | [] => List.Pairwise.nil
  | x :: r => pw_ins x _ (pw_srt r)
theorem pw_one : ∀ {l m : List Str}, l.Pairwise Lts → m.Pairwise Lts → (∀ k, k ∈ l ↔ k ∈ m) → l = m
  | [], [], _, _, _ => rfl
  | [], y :: r, _, _, h => absurd ((h y).2 List.mem_cons_self) (by simp)
  | x :: r, [], _, _, h => absurd ((h x).1 List.mem_cons_self) (by simp)
  | x :: r, y :: q, hl, hm, h => by
    have a := List.pairwise_cons.mp hl
    have b := List.pairwise_cons.mp hm
    have e : x = y := by
      rcases List.mem_cons.mp ((h x).1 List.mem_cons_self) with z | z
      · exact z
      · rcases List.mem_cons.mp ((h y).2 List.mem_cons_self) with c | c
        · exact c.symm
        · exact absurd (lts_tr (a.1 y c) (b.1 x z)) (lts_irr x)
    subst e
    rw [pw_one a.2 b.2 fun k => ?_]
    constructor
    · intro z
      rcases List.mem_cons.mp ((h k).1 (List.mem_cons_of_mem _ z)) with c | c
      · subst c; exact absurd (a.1 _ z) (lts_irr _)
      · exact c
    · intro z
      rcases List.mem_cons.mp ((h k).2 (List.mem_cons_of_mem _ z)) with c | c
      · subst c; exact absurd (b.1 _ z) (lts_irr _)
      · exact c
theorem pw_len {ms ys : List Str} (nd : ys.Nodup) (h : ∀ k ∈ ys, k ∈ ms) : ys.length ≤ ms.length := by
  induction ys generalizing ms with
  | nil => simp
  | cons x r ih =>
    have a := List.nodup_cons.mp nd
    have e := ih (ms := ms.erase x) a.2 fun k hk => (List.mem_erase_of_ne (by rintro rfl; exact a.1 hk)).2 (h k (List.mem_cons_of_mem _ hk))
    have m := h x List.mem_cons_self
    rw [List.length_erase_of_mem m] at e
    have := List.length_pos_of_mem m
    simp only [List.length_cons]
    omega
/-- what is sorted by the kit, and holds each once, is srt -/
theorem rising_le : ∀ (p : Str) (l : List Str), risingS p l = true → (p :: l).Pairwise fun a b => ¬ Lts b a
  | p, [], _ => by simp
  | p, x :: r, h => by
    have h' : (!ltCps x.cps.toList p.cps.toList && risingS x r) = true := h
    rw [Bool.and_eq_true, Bool.not_eq_true', ltCps_eq] at h'
    have ih := rising_le x r h'.2
    have a : ¬ Lts x p := of_decide_eq_false h'.1
    refine List.pairwise_cons.mpr ⟨fun y hy => ?_, ih⟩
    rcases List.mem_cons.mp hy with z | z
    · rw [z]; exact a
    · have b := (List.pairwise_cons.mp ih).1 y z
      intro c
      exact a (List.lt_of_le_of_lt (List.not_lt.mp b) c)
theorem sorted_srt {ys ms : List Str} (h : sortedS ys = true) (nd : ys.Nodup) (hm : ∀ k, k ∈ ys ↔ k ∈ ms) : ys = srt ms := by
  refine pw_one ?_ (pw_srt ms) fun k => (hm k).trans mem_srt.symm
  cases ys with
  | nil => exact List.Pairwise.nil
  | cons p l =>
    have a := rising_le p l h
    refine (a.and nd).imp fun {x y} ⟨c, n⟩ => ?_
    exact Decidable.byContradiction fun z => c (lts_or z n)
end Lf
/-! ### sorted(set of texts), as calls -/
namespace Lf
open PySem PySem.Spec PyProof.Rows L2
section
variable {pg : Program} {wd : World} {ar : Around} {er : Value → Shared → Prop} {st : Shared} {ad : Addr} {ms : List Str}
theorem ts_sorted {Q : Value → Shared → Prop} (T : Ts wd st.heap ad ms) (hh : ar.handled = none) (room : ms.length < scanBound)
    (hQ : ∀ s2 p (out : Array Value) (c : Nat), (∀ b o, st.heap.get? b = some o → s2.heap.get? b = some o) → s2.gens = st.gens → s2.os = st.os → st.heap.objs.size ≤ p →
      s2.heap.get? p = some (seqObj "list" out c) → StrsAre out.toList (srt ms) → Q (.ref p) s2) :
    wpAny (model pg wd) ar (call (.builtin "sorted") [.ref ad]) Q er st := by
  rcases T with ⟨ob, ee, n, tb, go, gx, gd, D⟩
  have b0 : ee.size < scanBound := Nat.lt_of_le_of_lt D.few room
  refine Calls.call_function_entry kind_sorted plain_sorted entry_sorted (args_sorted1 _) ?_
  unfold Builtin.«sorted»
  refine wpAny_bind (m := checkCount "sorted" 1 1 _) (wpAny_pure ?_)
  refine wpAny_bind (collect_set (A := ar.in1) hh ⟨ob, go, gx.1, gd⟩ D.fit b0 D.ris D.led fun s1 vs k1 z1 g1 o1 pm => ?_)
  have vl : vs.length = ee.size := by rw [pm.length_eq, List.length_map, Array.length_toList]
  have vL : vs.length ≤ sizeLine := by rw [vl]; exact fits_of_scanBound b0
  have hS : StrsAre vs (vs.map strOf) := strsAre_map vs fun v hv => by
    rcases List.mem_map.mp (pm.mem_iff.mp hv) with ⟨y, hy, q⟩
    rcases D.good y hy with ⟨k, u, rfl⟩
    exact ⟨k, u, q.symm⟩
  have ek : ee.toList.map (fun y => strOf y.2) = ee.toList.map tx := List.map_congr_left fun y hy => by
    rcases D.good y hy with ⟨k, u, rfl⟩
    rfl
  have pk : (vs.map strOf).Perm (ee.toList.map tx) := by
    have q := pm.map strOf
    rw [List.map_map] at q
    rw [← ek]
    exact q
  refine wpAny_bind (wpAny_newList ?_ vL)
  have gL : (s1.heap.push (seqObj "list" vs.toArray 0)).get? s1.heap.objs.size = some (seqObj "list" vs.toArray 0) := Heap.get?_push_size _ rfl
  refine wpAny_bind (wpAny_holding (wpAny_call_entry slot_list_sort ⟨_, gL, rfl⟩ entry_list_sort
    (list_sort_treeKAny strKind_oneLt gL hS.keysOf (fun v₁ v₂ rest e => keyKind_strs (by rw [← e]; exact hS)) vL fun s3 hp hs => ⟨_, rfl, ?_⟩) (args_list_sort _)))
  rcases sorted_out_str hS hp hs with ⟨ys, a1, a2, a3⟩
  have pn : ys.Perm (ee.toList.map tx) := a2.trans pk
  have es := sorted_srt (ms := ms) a3 (pn.nodup_iff.mpr D.nod) fun k => pn.mem_iff.trans (D.mem k).symm
  rw [es] at a1
  rcases sortedHeap_at (vs := vs) (out := (arrOf s3).map (·.2)) gL with ⟨c, hc⟩
  refine wpAny_pure ⟨_, rfl, hQ _ s1.heap.objs.size _ c (fun b u e => ?_) g1 o1 z1 hc a1⟩
  have q := k1 b u e
  have lt := Heap.lt_size q
  show (sortedHeap (s1.heap.push (seqObj "list" vs.toArray 0)) s1.heap.objs.size vs _).get? b = some u
  rw [sortedHeap_old (Nat.ne_of_lt lt) (by rw [size_push']; exact Nat.lt_succ_of_lt lt)]
  exact Heap.get?_push_of_some _ q
end
/-- the set of texts at ad -/
def TsO (wd : World) (ad : Addr) (ms : List Str) : HO := .ext fun h => Ts wd h ad ms
def rSetT (K : PySem.W.Frag) (wd : World) : List V → Hp → VK → Prop := fun vs H Q => ∃ (p : Addr) (xs : List Str), vs = [V.ref p] ∧ SqL K H p (xs.map V.str) ∧ xs.length + 1 < scanBound ∧ ∀ q, H q = none → Q (.ref q) (upd H q (TsO wd q xs))
def rSortT (wd : World) : List V → Hp → VK → Prop := fun vs H Q => ∃ (a : Addr) (ms : List Str), vs = [V.ref a] ∧ H a = some (TsO wd a ms) ∧ ms.length < scanBound ∧ ∀ q, H q = none → Q (.ref q) (upd H q (.lst ((srt ms).map V.str)))
theorem srt_len (ms : List Str) : (srt ms).length ≤ ms.length := pw_len ((pw_srt ms).imp fun {a b} (h : Lts a b) (e : a = b) => lts_irr a (by rw [← e] at h; exact h)) fun k hk => mem_srt.1 hk
section
variable {X : Cx}
theorem cr_setT (hc : X.calm = true) : CallR X (.type "set") (rSetT X.K X.w) := by
  intro pins s σ H vs us Q I r h
  obtain ⟨p, xs, rfl, hs, room, q⟩ := h
  obtain ⟨its, rv, hl, _⟩ := I.list hs
  rw [Vals.ref1 r]
  refine ts_call xs (I.ok.hd hc) hl.isList (by simpa using rv.strs) room fun h2 tk T kk => ?_
  have nw : ObjOk X.prog X.w H h2 s.heap.objs.size (TsO X.w s.heap.objs.size xs) := by
    have ⟨o, _, _, _, g0, _⟩ := T
    exact ⟨T, ⟨o, g0⟩, fun h1 h3 p k => Ts.at p k⟩
  exact ⟨.ref _, upd H s.heap.objs.size (TsO X.w s.heap.objs.size xs), I.laid (t' := tk) kk (Nat.le_refl _) nw, rfl, q _ (I.hok.fresh (Nat.le_refl _))⟩
theorem cr_sortT (hc : X.calm = true) : CallR X (.builtin "sorted") (rSortT X.w) := by
  intro pins s σ H vs us Q I r h
  obtain ⟨a, ms, rfl, ha, room, q⟩ := h
  have T : Ts X.w s.heap a ms := (I.hok a _ ha).1
  rw [Vals.ref1 r]
  refine ts_sorted T (I.ok.hd hc) room fun s2 p out c kk g o hp hg hi => ?_
  have ln : ((srt ms).map V.str).length ≤ sizeLine := by
    rw [List.length_map]
    exact Nat.le_trans (srt_len ms) (fits_of_scanBound room)
  have hn : H p = none := I.hok.fresh hp
  have J : Inv X pins σ (upd H p (.lst ((srt ms).map V.str))) { s with heap := s2.heap, gens := s2.gens, drawn := s2.drawn, toks := s2.toks } :=
    I.call (ch := []) (Un.laid kk hp hn) (I.hok.laid kk hp ⟨ln, out.toList, c, vals_of_strs hi, hg⟩) (by rw [g]; exact I.bare) (fun _ z => nomatch z)
  have e : s2 = { s with heap := s2.heap, gens := s2.gens, drawn := s2.drawn, toks := s2.toks } := by
    cases s2
    cases s
    cases o
    rfl
  rw [e]
  exact ⟨.ref p, _, J, rfl, q p hn⟩
end
end Lf
namespace Lf
open PySem PySem.Spec PyProof.Rows L2
/-! ### expressions and statements, as the program holds them -/
inductive Ex where
  | num (n : Int) | name (x : Str) | add (a b : Ex) | mul (a b : Ex)
def encE : Ex → D
  | .num n => .tup [.str "num", .int n]
  | .name x => .tup [.str "name", .str x]
  | .add a b => .tup [.str "add", encE a, encE b]
  | .mul a b => .tup [.str "times", encE a, encE b]
inductive Sm where
  | say (e : Ex) | set (x : Str) (e : Ex) | lap (g : Str) (m : Ex) (r : List Sm)
mutual
def encS : Sm → D
  | .say e => .tup [.str "say", encE e]
  | .set x e => .tup [.str "set", .str x, encE e]
  | .lap g m r => .tup [.str "lap", .str g, encE m, .tup [.str "row", .tup (encL r)]]
def encL : List Sm → List D
  | [] => []
  | s :: r => encS s :: encL r
end
def encR (r : List Sm) : D := .tup [.str "row", .tup (encL r)]
def depE : Ex → Nat
  | .num _ => 0
  | .name _ => 0
  | .add a b => max (depE a) (depE b) + 1
  | .mul a b => max (depE a) (depE b) + 1
mutual
def depS : Sm → Nat
  | .say _ => 0
  | .set _ _ => 0
  | .lap _ _ r => depL r + 1
def depL : List Sm → Nat
  | [] => 0
  | s :: r => max (depS s) (depL r)
end
/-- the names of an expression, as they come -/
def toldE : Ex → List Str
  | .num _ => []
  | .name x => [x]
  | .add a b => toldE a ++ toldE b
  | .mul a b => toldE a ++ toldE b
/-- how many marks an expression has at most -/
def sizE : Ex → Nat
  | .num _ => 1
  | .name _ => 1
  | .add a b => sizE a + sizE b
  | .mul a b => sizE a + sizE b
theorem told_siz : ∀ e : Ex, (toldE e).length ≤ sizE e
  | .num _ => Nat.zero_le _
  | .name _ => Nat.le_refl _
  | .add a b => by
    have h1 := told_siz a
    have h2 := told_siz b
    simp only [toldE, sizE, List.length_append]; omega
  | .mul a b => by
    have h1 := told_siz a
    have h2 := told_siz b
    simp only [toldE, sizE, List.length_append]; omega
theorem toldE_le : ∀ e : Ex, sizE e ≤ 2 ^ depE e
  | .num _ => Nat.le_refl _
  | .name _ => Nat.le_refl _
  | .add a b => by
    have h1 := toldE_le a
    have h2 := toldE_le b
    have p1 : 2 ^ depE a ≤ 2 ^ max (depE a) (depE b) := Nat.pow_le_pow_right (by decide) (Nat.le_max_left _ _)
    have p2 : 2 ^ depE b ≤ 2 ^ max (depE a) (depE b) := Nat.pow_le_pow_right (by decide) (Nat.le_max_right _ _)
    simp only [sizE, depE, Nat.pow_succ]; omega
  | .mul a b => by
    have h1 := toldE_le a
    have h2 := toldE_le b
    have p1 : 2 ^ depE a ≤ 2 ^ max (depE a) (depE b) := Nat.pow_le_pow_right (by decide) (Nat.le_max_left _ _)
    have p2 : 2 ^ depE b ≤ 2 ^ max (depE a) (depE b) := Nat.pow_le_pow_right (by decide) (Nat.le_max_right _ _)
    simp only [sizE, depE, Nat.pow_succ]; omega
/-- of one expression: no deeper than told -/
def spTold (K : PySem.W.Frag) (n : Nat) : Sp := fun vs H Q _ => ∃ v e, vs = [v] ∧ depE e < n ∧ n ≤ 12 ∧ Rp K H (encE e) v ∧ ∀ p H2, H p = none → Fr [] H H2 → H2 p = some (.lst ((toldE e).map V.str)) → Q (.ref p) H2
section
variable {P : Program} {w : World} {K : PySem.W.Frag} {mg : Str → Option Value} {base : Heap}
abbrev s_names_told : Stmt := top 7
abbrev N_names_told : List Str := ["part"]
theorem sc_names_told : FnScope N_names_told ["part"] (defScope s_names_told) := ⟨rfl, rfl, rfl, by decide +kernel, rfl, by decide +kernel, by decide +kernel⟩
theorem ok_told1 (T : Blt mg) (n k : Nat) (F : Here K mg "names_told" s_names_told ["part"]) (D_names_told : DefOk P w K mg base CX0 "names_told" ["part"] k (spTold K n)) : DefOk P w K mg base CX0 "names_told" ["part"] (k + 1) (spTold K (n + 1)) := by
  refine F.ok sc_names_told (fun vs H Q E h => ?_) (fun f cdv A outer s H vs Q E hr h => ?_)
  · obtain ⟨_, _, rfl, _⟩ := h; rfl
  obtain ⟨v, e, rfl, hd, hn, hv, q⟩ := h
  have hu64 := hr.units
  have hr_names_told := hr.mono (j := k) (by omega)
  refine ⟨_, (pss_cons (ps_if (pt_cmpR (op_eqA hu64) (pe_ix ix_seq (pv 0) pe_int (fun _ _ => rfl)) pe_str (nomark _))
    (pss_one (ps_ret (pe_lst pa_nil)))
    pss_nil)
    (pss_cons (ps_if (pt_cmpR (op_eqA hu64) (pe_ix ix_seq (pv 0) pe_int (fun _ _ => rfl)) pe_str (nomark _))
    (pss_one (ps_ret (pe_lst (pa_cons (pe_ix ix_seq (pv 0) pe_int (fun _ _ => rfl)) pa_nil))))
    pss_nil)
    (pss_one (ps_ret (pe_op op_plus (pe_callD D_names_told hr_names_told pass0 (pa_cons (pe_ix ix_seq (pv 0) pe_int (fun _ _ => rfl)) pa_nil)) (pe_callD D_names_told hr_names_told pass0 (pa_cons (pe_ix ix_seq (pv 0) pe_int (fun _ _ => rfl)) pa_nil))))))), ?_⟩
  cases e with
  | num i =>
    obtain ⟨a, _, rfl, hT, _, _, rfl, rfl, _, _, rfl, rfl, rfl⟩ := hv
    walk_at "rx"
    refine rd_newL (by simp) fun p H2 f1 f2 e => ?_
    walk_at "rx"
    exact q _ _ f1 f2 e
  | name x =>
    obtain ⟨a, _, rfl, hT, _, _, rfl, rfl, _, _, rfl, rfl, rfl⟩ := hv
    walk_at "rx"
    refine rd_newL (by simp) fun p H2 f1 f2 e => ?_
    walk_at "rx"
    exact q _ _ f1 f2 e
  | add b c =>
    have b1 := told_siz b; have b2 := toldE_le b
    have c1 := told_siz c; have c2 := toldE_le c
    simp only [depE] at hd
    have p1 : 2 ^ depE b ≤ 2 ^ 12 := Nat.pow_le_pow_right (by decide) (by omega)
    have p2 : 2 ^ depE c ≤ 2 ^ 12 := Nat.pow_le_pow_right (by decide) (by omega)
    obtain ⟨a, _, rfl, hT, _, _, rfl, rfl, vb, _, rfl, hb, vc, _, rfl, hc, rfl⟩ := hv
    walk_at "rx"
    refine ⟨_, b, rfl, by omega, by omega, hb, fun p H2 f1 f2 e => ?_⟩
    walk_at "rx"
    refine ⟨_, c, rfl, by omega, by omega, hc.mono f2.kp0, fun p2 H3 g1 g2 g3 => ?_⟩
    refine rd_plusL (g2.at e) g3 (by rw [sizeLine_eq]; simp only [List.length_map]; omega) fun p3 H4 k1 k2 k3 => ?_
    walk_at "rx"
    exact q _ _ (f2.free (g2.free k1)) ((f2.trans g2).trans k2) (by rw [k3]; simp [toldE])
  | mul b c =>
    have b1 := told_siz b; have b2 := toldE_le b
    have c1 := told_siz c; have c2 := toldE_le c
    simp only [depE] at hd
    have p1 : 2 ^ depE b ≤ 2 ^ 12 := Nat.pow_le_pow_right (by decide) (by omega)
    have p2 : 2 ^ depE c ≤ 2 ^ 12 := Nat.pow_le_pow_right (by decide) (by omega)
    obtain ⟨a, _, rfl, hT, _, _, rfl, rfl, vb, _, rfl, hb, vc, _, rfl, hc, rfl⟩ := hv
    walk_at "rx"
    refine ⟨_, b, rfl, by omega, by omega, hb, fun p H2 f1 f2 e => ?_⟩
    walk_at "rx"
    refine ⟨_, c, rfl, by omega, by omega, hc.mono f2.kp0, fun p2 H3 g1 g2 g3 => ?_⟩
    refine rd_plusL (g2.at e) g3 (by rw [sizeLine_eq]; simp only [List.length_map]; omega) fun p3 H4 k1 k2 k3 => ?_
    walk_at "rx"
    exact q _ _ (f2.free (g2.free k1)) ((f2.trans g2).trans k2) (by rw [k3]; simp [toldE])
theorem none_sp {x : Str} {st : Stmt} {ps : List Str} {sp : Sp} (F : Here K mg x st ps) (no : ∀ vs H Q E, ¬ sp vs H Q E) : DefOk P w K mg base CX0 x ps 0 sp := by
  obtain ⟨f, fd, F, hm, hb⟩ := F.ex
  exact ⟨f, fd, ⟨fun vs H Q E h => absurd h (no vs H Q E), fun A outer s H args us vs Q E _ _ _ _ h => absurd h (no vs H Q E)⟩, F.kp, hb, hm⟩
theorem ok_told (T : Blt mg) (F : Here K mg "names_told" s_names_told ["part"]) : ∀ n, DefOk P w K mg base CX0 "names_told" ["part"] n (spTold K n)
  | 0 => none_sp F fun vs H Q E h => by obtain ⟨_, _, _, h, _⟩ := h; omega
  | n + 1 => ok_told1 T n n F (ok_told T F n)
/-! names_of -/
mutual
def foundS : Sm → List Str
  | .say e => toldE e
  | .set x e => x :: toldE e
  | .lap g m r => g :: toldE m ++ srt (foundL r)
def foundL : List Sm → List Str
  | [] => []
  | s :: r => foundS s ++ foundL r
end
/-! bounds: expressions to depth 4, laps to depth 4, so many marks in all -/
mutual
def okS : Sm → Prop
  | .say e => depE e < 5
  | .set _ e => depE e < 5
  | .lap _ m r => depE m < 5 ∧ okL r
def okL : List Sm → Prop
  | [] => True
  | s :: r => okS s ∧ okL r
end
mutual
def cntS : Sm → Nat
  | .say _ => 1
  | .set _ _ => 1
  | .lap _ _ r => cntL r + 1
def cntL : List Sm → Nat
  | [] => 0
  | s :: r => cntS s + cntL r
end
theorem told_lt {e : Ex} (h : depE e < 5) : (toldE e).length ≤ 16 := by
  have h1 := told_siz e
  have h2 := toldE_le e
  have p : 2 ^ depE e ≤ 2 ^ 4 := Nat.pow_le_pow_right (by decide) (by omega)
  omega
mutual
theorem foundS_len : ∀ {s : Sm}, okS s → (foundS s).length ≤ 17 * cntS s
  | .say e, h => by
    have := told_lt (e := e) h
    simp only [foundS, cntS]; omega
  | .set x e, h => by
    have := told_lt (e := e) h
    simp only [foundS, cntS, List.length_cons]; omega
  | .lap g m r, h => by
    have a := told_lt (e := m) h.1
    have b := foundL_len (r := r) h.2
    have c := srt_len (foundL r)
    simp only [foundS, cntS, List.length_append, List.length_cons]; omega
theorem foundL_len : ∀ {r : List Sm}, okL r → (foundL r).length ≤ 17 * cntL r
  | [], _ => Nat.le_refl _
  | s :: r, h => by
    have a := foundS_len (s := s) h.1
    have b := foundL_len (r := r) h.2
    simp only [foundL, cntL, List.length_append]; omega
end
theorem foundL_app (a b : List Sm) : foundL (a ++ b) = foundL a ++ foundL b := by
  induction a with
  | nil => rfl
  | cons s r ih => simp [foundL, ih]
theorem okL_at : ∀ {r : List Sm} {i : Nat} {s : Sm}, okL r → r[i]? = some s → okS s
  | [], _, _, _, h => by simp at h
  | x :: r, 0, s, h, e => by
    simp at e; subst e; exact h.1
  | x :: r, i + 1, s, h, e => okL_at (r := r) h.2 (by simpa using e)
theorem cnt_at : ∀ {r : List Sm} {i : Nat} {s : Sm}, r[i]? = some s → cntS s ≤ cntL r
  | [], _, _, h => by simp at h
  | x :: r, 0, s, e => by
    simp at e; subst e
    simp only [cntL]; omega
  | x :: r, i + 1, s, e => by
    have := cnt_at (r := r) (i := i) (s := s) (by simpa using e)
    simp only [cntL]; omega
theorem dep_at : ∀ {r : List Sm} {i : Nat} {s : Sm}, r[i]? = some s → depS s ≤ depL r
  | [], _, _, h => by simp at h
  | x :: r, 0, s, e => by
    simp at e; subst e
    simp only [depL]; omega
  | x :: r, i + 1, s, e => by
    have := dep_at (r := r) (i := i) (s := s) (by simpa using e)
    simp only [depL]; omega
theorem encL_at {K : PySem.W.Frag} {H : Hp} : ∀ {r : List Sm} {vs : List V} {i : Nat} {v : V}, RpL K H (encL r) vs → vs[i]? = some v → ∃ s, r[i]? = some s ∧ Rp K H (encS s) v
  | [], vs, i, v, h, e => by
    cases (show vs = [] from h)
    simp at e
  | s :: r, vs, i, v, h, e => by
    obtain ⟨u, q, rfl, h1, h2⟩ := h
    cases i with
    | zero =>
      simp at e; subst e
      exact ⟨s, rfl, h1⟩
    | succ i => exact encL_at (r := r) h2 (by simpa using e)
theorem encL_len : ∀ (r : List Sm), (encL r).length = r.length
  | [] => rfl
  | s :: r => by simp [encL, encL_len r]
theorem found_take {r : List Sm} {i : Nat} {s : Sm} (h : r[i]? = some s) : foundL (r.take (i + 1)) = foundL (r.take i) ++ foundS s := by
  rw [List.take_add_one, h, foundL_app]
  simp [foundL]
theorem found_le (r : List Sm) (i : Nat) : (foundL (r.take i)).length ≤ (foundL r).length := by
  have e : foundL r = foundL (r.take i) ++ foundL (r.drop i) := by rw [← foundL_app, List.take_append_drop]
  rw [e, List.length_append]
  omega
def spNames (K : PySem.W.Frag) (n : Nat) : Sp := fun vs H Q _ => ∃ v r, vs = [v] ∧ depL r < n ∧ okL r ∧ cntL r ≤ 200 ∧ Rp K H (encR r) v ∧ ∀ p H2, H p = none → Kp H H2 → Fr [] H H2 → H2 p = some (.lst ((srt (foundL r)).map V.str)) → Q (.ref p) H2
abbrev s_names_of : Stmt := top 8
abbrev N_names_of : List Str := ["row", "found", "one"]
theorem sc_names_of : FnScope N_names_of ["row"] (defScope s_names_of) := ⟨rfl, rfl, rfl, by decide +kernel, rfl, by decide +kernel, by decide +kernel⟩
theorem ok_names1 (T : Blt mg) (n k : Nat) (hk : 5 ≤ k) (F : Here K mg "names_of" s_names_of ["row"]) (D_names_told : DefOk P w K mg base CX0 "names_told" ["part"] 5 (spTold K 5)) (D_names_of : DefOk P w K mg base CX0 "names_of" ["row"] k (spNames K n)) :
    DefOk P w K mg base CX0 "names_of" ["row"] (k + 1) (spNames K (n + 1)) := by
  refine F.ok sc_names_of (fun vs H Q E h => ?_) (fun f cdv A outer s H vs Q E hr h => ?_)
  · obtain ⟨_, _, rfl, _⟩ := h; rfl
  obtain ⟨v, r, rfl, hd, ho, hc, hv, q⟩ := h
  have hu64 := hr.units
  have hr_names_told := hr.mono (j := 5) (by omega)
  have hr_names_of := hr.mono (j := k) (by omega)
  refine ⟨_, (pss_cons (ps_set (i := 1) sc_names_of.nd rfl (Or.inl rfl) (pe_lst pa_nil))
    (pss_cons (ps_for PassesOwn.never rfl (pi_tup (pe_ix ix_seq (pv 0) pe_int (fun _ _ => rfl))) (pg_name (i := 2) sc_names_of.nd rfl (Or.inl rfl))
    (pss_cons (ps_if (pt_cmpR (op_eqA hu64) (pe_ix ix_seq (pv 2) pe_int (fun _ _ => rfl)) pe_str (nomark _))
    (pss_one (ps_set (i := 1) sc_names_of.nd rfl (Or.inl rfl) (pe_op op_plus (pv 1) (pe_callD D_names_told hr_names_told pass0 (pa_cons (pe_ix ix_seq (pv 2) pe_int (fun _ _ => rfl)) pa_nil)))))
    (pss_one (ps_set (i := 1) sc_names_of.nd rfl (Or.inl rfl) (pe_op op_plus (pe_op op_plus (pv 1) (pe_lst (pa_cons (pe_ix ix_seq (pv 2) pe_int (fun _ _ => rfl)) pa_nil))) (pe_callD D_names_told hr_names_told pass0 (pa_cons (pe_ix ix_seq (pv 2) pe_int (fun _ _ => rfl)) pa_nil))))))
    (pss_one (ps_if (pt_cmpR (op_eqA hu64) (pe_ix ix_seq (pv 2) pe_int (fun _ _ => rfl)) pe_str (nomark _))
    (pss_one (ps_set (i := 1) sc_names_of.nd rfl (Or.inl rfl) (pe_op op_plus (pv 1) (pe_callD D_names_of hr_names_of pass0 (pa_cons (pe_ix ix_seq (pv 2) pe_int (fun _ _ => rfl)) pa_nil)))))
    pss_nil))))
    (pss_one (ps_ret (pe_callB (cr_sortT rfl) (by rfl) T.n_sorted (by decide +kernel) (pa_cons (pe_callTy (cr_setT rfl) (by rfl) T.n_set (by decide +kernel) (pa_cons (pv 1) pa_nil)) pa_nil)))))), ?_⟩
  obtain ⟨a, _, rfl, hT, _, _, rfl, rfl, _, _, rfl, ⟨t, us, rfl, hU, hL⟩, rfl⟩ := hv
  with_reducible refine rd_seq ?_
  walk_at "rs"
  refine rd_newL (by simp) fun p0 H0 n0 f0 e0 => ?_
  walk_at "rs"
  with_reducible refine rd_seqc fun N hN => ?_
  walk_at "rs"
  have fl := foundL_len ho
  refine rd_forT us (fun k σ H' => ∃ p u2, σ = [some (.ref a), some (.ref p), u2] ∧ Fr [] H H' ∧ H p = none ∧ H' p = some (.lst ((foundL (r.take k)).map V.str))) ⟨p0, none, rfl, f0, n0, e0⟩
    (fun k σ H' _ ⟨p, u2, _, f, _, _⟩ => f.tup0 hU) (fun k x σ H' hx ⟨p, u2, hσ, f, np, ep⟩ => ?_) (fun σ H' ⟨p, u2, hσ, f, np, ep⟩ => hN _ _ ?_)
  · subst hσ
    obtain ⟨s, hs, hv⟩ := encL_at hL hx
    have hv := hv.mono f.kp0
    have kp := f.kp0
    have fs := found_take hs
    have b0 := found_le r k
    have b1 := found_le r (k + 1)
    rw [fs, List.length_append] at b1
    have os := okL_at ho hs
    have cs := cnt_at hs
    have ds := dep_at hs
    cases s with
    | say e =>
      obtain ⟨a1, _, rfl, hT1, _, _, rfl, rfl, v1, _, rfl, h1, rfl⟩ := hv
      walk_at "rx"
      refine ⟨_, e, rfl, os, by decide, h1, fun p2 H2 g1 g2 g3 => ?_⟩
      have tl := told_lt (e := e) os
      refine rd_plusL (g2.at ep) g3 (by rw [sizeLine_eq]; simp only [List.length_map]; omega) fun p3 H3 k1 k2 k3 => ?_
      walk_at "rx"
      refine ⟨p3, _, rfl, (f.trans g2).trans k2, f.free (g2.free k1), ?_⟩
      rw [k3, fs]; simp [foundS]
    | set y e =>
      obtain ⟨a1, _, rfl, hT1, _, _, rfl, rfl, _, _, rfl, rfl, v1, _, rfl, h1, rfl⟩ := hv
      walk_at "rx"
      refine rd_newL (by simp) fun p1 H1 m1 m2 m3 => ?_
      refine rd_plusL (m2.at ep) m3 (by rw [sizeLine_eq]; simp only [List.length_map, List.length_cons, List.length_nil]; omega) fun p4 H4 l1 l2 l3 => ?_
      walk_at "rx"
      refine ⟨_, e, rfl, os, by decide, (h1.mono m2.kp0).mono l2.kp0, fun p2 H2 g1 g2 g3 => ?_⟩
      have tl := told_lt (e := e) os
      refine rd_plusL (g2.at l3) g3 (by rw [sizeLine_eq]; simp only [List.length_map, List.length_append, List.length_cons, List.length_nil]; omega) fun p3 H3 k1 k2 k3 => ?_
      walk_at "rx"
      refine ⟨p3, _, rfl, (((f.trans m2).trans l2).trans g2).trans k2, f.free (m2.free (l2.free (g2.free k1))), ?_⟩
      rw [k3, fs]; simp [foundS]
    | lap g m z =>
      obtain ⟨a1, _, rfl, hT1, _, _, rfl, rfl, _, _, rfl, rfl, v1, _, rfl, h1, v2, _, rfl, h2, rfl⟩ := hv
      simp only [foundS, List.length_append, List.length_cons] at b1
      walk_at "rx"
      refine rd_newL (by simp) fun p1 H1 m1 m2 m3 => ?_
      refine rd_plusL (m2.at ep) m3 (by rw [sizeLine_eq]; simp only [List.length_map, List.length_cons, List.length_nil]; omega) fun p4 H4 l1 l2 l3 => ?_
      walk_at "rx"
      refine ⟨_, m, rfl, os.1, by decide, (h1.mono m2.kp0).mono l2.kp0, fun p2 H2 g1 g2 g3 => ?_⟩
      have tl := told_lt (e := m) os.1
      refine rd_plusL (g2.at l3) g3 (by rw [sizeLine_eq]; simp only [List.length_map, List.length_append, List.length_cons, List.length_nil]; omega) fun p3 H3 k1 k2 k3 => ?_
      walk_at "rx"
      simp only [depS, cntS] at ds cs
      refine ⟨_, z, rfl, by omega, os.2, by omega, (((h2.mono m2.kp0).mono l2.kp0).mono g2.kp0).mono k2.kp0, fun p5 H5 c1 ck c2 c3 => ?_⟩
      refine rd_plusL (c2.at k3) c3 (by rw [sizeLine_eq]; simp only [List.length_map, List.length_append, List.length_cons, List.length_nil]; omega) fun p6 H6 d1 d2 d3 => ?_
      walk_at "rx"
      refine ⟨p6, _, rfl, (((((f.trans m2).trans l2).trans g2).trans k2).trans c2).trans d2, f.free (m2.free (l2.free (g2.free (k2.free (c2.free d1))))), ?_⟩
      rw [d3, fs]; simp [foundS]
  · subst hσ
    have ul : us.length = r.length := by have := RpL.length hL; rw [this, encL_len]
    rw [ul, List.take_length] at ep
    walk_at "rs"
    refine ⟨p, foundL r, rfl, SqL.of ep, by unfold scanBound; omega, fun t1 h1 => ?_⟩
    refine ⟨t1, foundL r, rfl, upd_same, by unfold scanBound; omega, fun t2 h2 => ?_⟩
    walk_at "rs"
    have g1 : Fr [] H' (upd H' t1 (TsO w t1 (foundL r))) := (Fr.refl [] H').mut h1
    have g2 : Fr [] (upd H' t1 (TsO w t1 (foundL r))) (upd (upd H' t1 (TsO w t1 (foundL r))) t2 (.lst ((srt (foundL r)).map V.str))) := (Fr.refl [] _).mut h2
    exact q _ _ (f.free (g1.free h2)) ((f.trans g1).trans g2).kp0 ((f.trans g1).trans g2) upd_same
theorem ok_names (T : Blt mg) (F : Here K mg "names_of" s_names_of ["row"]) (D_names_told : DefOk P w K mg base CX0 "names_told" ["part"] 5 (spTold K 5)) : ∀ n, DefOk P w K mg base CX0 "names_of" ["row"] (n + 5) (spNames K n)
  | 0 => (none_sp F fun vs H Q E h => by obtain ⟨_, _, _, h, _⟩ := h; omega).mono (by omega)
  | n + 1 => ok_names1 T n (n + 5) (by omega) F D_names_told (ok_names T F D_names_told n)
end
end Lf
namespace Lf
open PySem PySem.Spec PyProof.Rows L2
/-! ### what an expression tells -/
def evE (ρ : Str → Int) : Ex → Int
  | .num n => n
  | .name x => ρ x
  | .add a b => evE ρ a + evE ρ b
  | .mul a b => evE ρ a * evE ρ b
/-- written numbers stay below 2^10 -/
def smE : Ex → Prop
  | .num n => n.natAbs < 2 ^ 10
  | .name _ => True
  | .add a b => smE a ∧ smE b
  | .mul a b => smE a ∧ smE b
theorem ev_le {ρ : Str → Int} {b : Nat} (hb : 10 ≤ b) (h : ∀ x, (ρ x).natAbs < 2 ^ b) : ∀ {e : Ex}, smE e → (evE ρ e).natAbs < 2 ^ ((b + 1) * 2 ^ depE e)
  | .num n, s => Nat.lt_of_lt_of_le s (Nat.pow_le_pow_right (by decide) (by simp only [depE]; omega))
  | .name x, _ => Nat.lt_of_lt_of_le (h x) (Nat.pow_le_pow_right (by decide) (by simp only [depE]; omega))
  | .add c d, s => by
    have h1 := ev_le hb h (e := c) s.1
    have h2 := ev_le hb h (e := d) s.2
    have m1 : 2 ^ ((b + 1) * 2 ^ depE c) ≤ 2 ^ ((b + 1) * 2 ^ max (depE c) (depE d)) := Nat.pow_le_pow_right (by decide) (Nat.mul_le_mul_left _ (Nat.pow_le_pow_right (by decide) (Nat.le_max_left _ _)))
    have m2 : 2 ^ ((b + 1) * 2 ^ depE d) ≤ 2 ^ ((b + 1) * 2 ^ max (depE c) (depE d)) := Nat.pow_le_pow_right (by decide) (Nat.mul_le_mul_left _ (Nat.pow_le_pow_right (by decide) (Nat.le_max_right _ _)))
    have e1 : (b + 1) * 2 ^ depE (.add c d) = (b + 1) * 2 ^ max (depE c) (depE d) + (b + 1) * 2 ^ max (depE c) (depE d) := by simp only [depE, Nat.pow_succ]; rw [← Nat.mul_assoc, Nat.mul_two]
    rw [e1, Nat.pow_add]
    have p : 2 ≤ 2 ^ ((b + 1) * 2 ^ max (depE c) (depE d)) := by
      have q : 1 ≤ (b + 1) * 2 ^ max (depE c) (depE d) := Nat.mul_pos (by omega) (Nat.two_pow_pos _)
      exact Nat.le_trans (by decide : 2 ≤ 2 ^ 1) (Nat.pow_le_pow_right (by decide) q)
    have t : (evE ρ c + evE ρ d).natAbs ≤ (evE ρ c).natAbs + (evE ρ d).natAbs := Int.natAbs_add_le _ _
    generalize 2 ^ ((b + 1) * 2 ^ max (depE c) (depE d)) = B at m1 m2 p ⊢
    have r : 2 * B ≤ B * B := Nat.mul_le_mul_right _ p
    show (evE ρ c + evE ρ d).natAbs < _
    omega
  | .mul c d, s => by
    have h1 := ev_le hb h (e := c) s.1
    have h2 := ev_le hb h (e := d) s.2
    have m1 : 2 ^ ((b + 1) * 2 ^ depE c) ≤ 2 ^ ((b + 1) * 2 ^ max (depE c) (depE d)) := Nat.pow_le_pow_right (by decide) (Nat.mul_le_mul_left _ (Nat.pow_le_pow_right (by decide) (Nat.le_max_left _ _)))
    have m2 : 2 ^ ((b + 1) * 2 ^ depE d) ≤ 2 ^ ((b + 1) * 2 ^ max (depE c) (depE d)) := Nat.pow_le_pow_right (by decide) (Nat.mul_le_mul_left _ (Nat.pow_le_pow_right (by decide) (Nat.le_max_right _ _)))
    have e1 : (b + 1) * 2 ^ depE (.mul c d) = (b + 1) * 2 ^ max (depE c) (depE d) + (b + 1) * 2 ^ max (depE c) (depE d) := by simp only [depE, Nat.pow_succ]; rw [← Nat.mul_assoc, Nat.mul_two]
    rw [e1, Nat.pow_add]
    show (evE ρ c * evE ρ d).natAbs < _
    rw [Int.natAbs_mul]
    exact Nat.mul_lt_mul'' (Nat.lt_of_lt_of_le h1 m1) (Nat.lt_of_lt_of_le h2 m2)
/-! names and their numbers, as a dict -/
def nmOf (kvs : List (L2.Key × V)) (x : Str) : Int := match valV kvs (.inr x) with
  | some (.int i) => i
  | _ => 0
def NmD (kvs : List (L2.Key × V)) : Prop := ∀ x v, valV kvs (.inr x) = some v → ∃ i, v = .int i
theorem nm_get {kvs : List (L2.Key × V)} (h : NmD kvs) (x : Str) : (valV kvs (.inr x)).getD (.int 0) = .int (nmOf kvs x) := by
  unfold nmOf
  cases e : valV kvs (.inr x) with
  | none => rfl
  | some v =>
    obtain ⟨i, rfl⟩ := h x v e
    rfl
def GDe (a : Addr) (y z : V) (H : Hp) (Q : VK) : Prop := ∃ o, DGet H a y o ∧ Q (o.getD z) H
def GD (x : V) (ty tx : TE) (σ : L2.St) (H : Hp) (Q : VK) : Prop := ∃ a, x = .ref a ∧ IsD H a ∧ ty σ H fun y H2 => tx σ H2 fun z H3 => GDe a y z H3 Q
section
variable {td ty tx : TE} {σ : L2.St} {H : Hp} {Q : VK} {a : Addr} {kvs : List (L2.Key × V)}
theorem rd_dget2 (q : td σ H fun x H1 => GD x ty tx σ H1 Q) : tDGet2 td ty tx σ H Q := q
theorem rd_gd (h : H a = some (.dK kvs)) (q : ty σ H fun y H2 => tx σ H2 fun z H3 => GDe a y z H3 Q) : GD (.ref a) ty tx σ H Q := ⟨a, rfl, .inl ⟨kvs, .inl h⟩, q⟩
theorem rd_gde {x : Str} (h : H a = some (.dK kvs)) (n : NmD kvs) (q : Q (.int (nmOf kvs x)) H) : GDe a (.str x) (.int 0) H Q := ⟨_, DGet.k (k := .inr x) h, by rw [nm_get n]; exact q⟩
end
def spReck (K : PySem.W.Frag) (n : Nat) : Sp := fun vs H Q _ => ∃ v d e kvs b, vs = [v, .ref d] ∧ depE e < n ∧ n ≤ 4 ∧ smE e ∧ Rp K H (encE e) v ∧ H d = some (.dK kvs) ∧ NmD kvs ∧ 10 ≤ b ∧ b ≤ 100000 ∧ (∀ x, (nmOf kvs x).natAbs < 2 ^ b) ∧
  ∀ H2, Fr [] H H2 → Q (.int (evE (nmOf kvs) e)) H2
section
variable {P : Program} {w : World} {K : PySem.W.Frag} {mg : Str → Option Value} {base : Heap}
abbrev s_reckoned : Stmt := top 10
abbrev N_reckoned : List Str := ["part", "names", "one", "other"]
theorem sc_reckoned : FnScope N_reckoned ["part", "names"] (defScope s_reckoned) := ⟨rfl, rfl, rfl, by decide +kernel, rfl, by decide +kernel, by decide +kernel⟩
theorem ok_reck1 (T : Blt mg) (n k : Nat) (F : Here K mg "reckoned" s_reckoned ["part", "names"]) (D_reckoned : DefOk P w K mg base CX0 "reckoned" ["part", "names"] k (spReck K n)) : DefOk P w K mg base CX0 "reckoned" ["part", "names"] (k + 1) (spReck K (n + 1)) := by
  refine F.ok sc_reckoned (fun vs H Q E h => ?_) (fun f cdv A outer s H vs Q E hr h => ?_)
  · obtain ⟨_, _, _, _, _, rfl, _⟩ := h; rfl
  obtain ⟨v, d, e, kvs, b, rfl, hd, hn, hs, hv, hD, nd, b10, b20, hb, q⟩ := h
  have hu64 := hr.units
  have hu : (cxOf CX0 P w K mg base N_reckoned "reckoned" (defScope s_reckoned) f cdv A outer s H E).nox.A.units + 1 < cLine := by
    have := hr.units
    show (A.deeper _).units + 1 < cLine
    omega
  have hr_reckoned := hr.mono (j := k) (by omega)
  refine ⟨_, (pss_cons (ps_if (pt_cmpR (op_eqA hu64) (pe_ix ix_seq (pv 0) pe_int (fun _ _ => rfl)) pe_str (nomark _))
    (pss_one (ps_ret (pe_ix ix_seq (pv 0) pe_int (fun _ _ => rfl))))
    pss_nil)
    (pss_cons (ps_if (pt_cmpR (op_eqA hu64) (pe_ix ix_seq (pv 0) pe_int (fun _ _ => rfl)) pe_str (nomark _))
    (pss_one (ps_ret (pe_dget2 hu (pv 1) (pe_ix ix_seq (pv 0) pe_int (fun _ _ => rfl)) pe_int ⟨rfl, rfl, rfl, rfl⟩)))
    pss_nil)
    (pss_cons (ps_set (i := 2) sc_reckoned.nd rfl (Or.inl rfl) (pe_callD D_reckoned hr_reckoned pass0 (pa_cons (pe_ix ix_seq (pv 0) pe_int (fun _ _ => rfl)) (pa_cons (pv 1) pa_nil))))
    (pss_cons (ps_set (i := 3) sc_reckoned.nd rfl (Or.inl rfl) (pe_callD D_reckoned hr_reckoned pass0 (pa_cons (pe_ix ix_seq (pv 0) pe_int (fun _ _ => rfl)) (pa_cons (pv 1) pa_nil))))
    (pss_one (ps_ret (pe_ifExp (pt_cmpR (op_eqA hu64) (pe_ix ix_seq (pv 0) pe_int (fun _ _ => rfl)) pe_str (nomark _)) (pe_op op_plus (pv 2) (pv 3)) (pe_op op_timesA (pv 2) (pv 3))))))))), ?_⟩
  have step : ∀ c : Ex, depE c < 3 → smE c → (evE (nmOf kvs) c).natAbs < 2 ^ 400004 := fun c hc sc => by
    refine Nat.lt_of_lt_of_le (ev_le b10 hb sc) (Nat.pow_le_pow_right (by decide) ?_)
    have p : 2 ^ depE c ≤ 2 ^ 2 := Nat.pow_le_pow_right (by decide) (by omega)
    have := Nat.mul_le_mul (show b + 1 ≤ 100001 by omega) p
    omega
  cases e with
  | num i =>
    obtain ⟨a, _, rfl, hT, _, _, rfl, rfl, _, _, rfl, rfl, rfl⟩ := hv
    walk_at "rx"
    exact q _ (Fr.refl _ _)
  | name x =>
    obtain ⟨a, _, rfl, hT, _, _, rfl, rfl, _, _, rfl, rfl, rfl⟩ := hv
    walk_at "rx"
    refine rd_dget2 ?_
    walk_at "rx"
    refine rd_gd hD ?_
    walk_at "rx"
    refine rd_gde hD nd ?_
    walk_at "rx"
    exact q _ (Fr.refl _ _)
  | add c e =>
    simp only [depE] at hd
    obtain ⟨a, _, rfl, hT, _, _, rfl, rfl, vb, _, rfl, h1, vc, _, rfl, h2, rfl⟩ := hv
    walk_at "rx"
    refine ⟨_, d, c, kvs, b, rfl, by omega, by omega, hs.1, h1, hD, nd, b10, b20, hb, fun H2 f2 => ?_⟩
    walk_at "rx"
    refine ⟨_, d, e, kvs, b, rfl, by omega, by omega, hs.2, h2.mono f2.kp0, f2.at hD, nd, b10, b20, hb, fun H3 f3 => ?_⟩
    walk_at "rx"
    exact q _ (f2.trans f3)
  | mul c e =>
    simp only [depE] at hd
    obtain ⟨a, _, rfl, hT, _, _, rfl, rfl, vb, _, rfl, h1, vc, _, rfl, h2, rfl⟩ := hv
    walk_at "rx"
    refine ⟨_, d, c, kvs, b, rfl, by omega, by omega, hs.1, h1, hD, nd, b10, b20, hb, fun H2 f2 => ?_⟩
    walk_at "rx"
    refine ⟨_, d, e, kvs, b, rfl, by omega, by omega, hs.2, h2.mono f2.kp0, f2.at hD, nd, b10, b20, hb, fun H3 f3 => ?_⟩
    walk_at "rx"
    refine rd_mulW 400004 400004 (step c (by omega) hs.1) (step e (by omega) hs.2) (by decide) ?_
    walk_at "rx"
    exact q _ (f2.trans f3)
theorem ok_reck (T : Blt mg) (F : Here K mg "reckoned" s_reckoned ["part", "names"]) : ∀ n, DefOk P w K mg base CX0 "reckoned" ["part", "names"] n (spReck K n)
  | 0 => none_sp F fun vs H Q E h => by obtain ⟨_, _, _, _, _, _, h, _⟩ := h; omega
  | n + 1 => ok_reck1 T n n F (ok_reck T F n)
end
end Lf
namespace Lf
open PySem PySem.Spec PyProof.Rows L2
/-! ### runs, turn by turn, in plain words -/
structure Sta where
  ρ : Str → Int
  told : List Int
  turns : Nat
  ents : List (List Int × Int × Int)
def setN (ρ : Str → Int) (x : Str) (v : Int) : Str → Int := fun y => if y = x then v else ρ y
/-- the turns of a lap: none where they run dry -/
def goLap (most : Nat) (g : Str) (body : Sta → Option Sta) : Nat → Nat → Sta → Option (Sta × Nat)
  | 0, _, _ => none
  | f + 1, many, s => if 0 < s.ρ g then (if s.turns = most then none else
      (body { s with turns := s.turns + 1, ρ := setN s.ρ g (s.ρ g - 1) }).bind fun s2 => goLap most g body f (many + 1) s2)
    else some (s, many)
mutual
def runS (most : Nat) : Sm → List Int → Sta → Option Sta
  | .say e, _, s => some { s with told := s.told ++ [evE s.ρ e] }
  | .set x e, _, s => some { s with ρ := setN s.ρ x (evE s.ρ e) }
  | .lap g m r, pl, s => (goLap most g (fun s => runL most r pl 0 s) (most + 1 - s.turns) 0 s).map fun p => { p.1 with ents := p.1.ents ++ [(pl, evE s.ρ m, (p.2 : Int))] }
def runL (most : Nat) : List Sm → List Int → Nat → Sta → Option Sta
  | [], _, _, s => some s
  | x :: r, pl, k, s => (runS most x (pl ++ [(k : Int)]) s).bind fun s2 => runL most r pl (k + 1) s2
end
theorem runL_app (most : Nat) (pl : List Int) : ∀ (a b : List Sm) (k : Nat) (s : Sta), runL most (a ++ b) pl k s = (runL most a pl k s).bind fun s2 => runL most b pl (k + a.length) s2
  | [], b, k, s => by simp [runL]
  | x :: a, b, k, s => by
    simp only [List.cons_append, runL, List.length_cons]
    cases runS most x (pl ++ [(k : Int)]) s with
    | none => rfl
    | some s2 =>
      simp only [Option.bind_some]
      rw [runL_app most pl a b (k + 1) s2]
      congr 1
      funext s3
      congr 1
      omega
/-! turns only grow, never past most -/
theorem goLap_turns {most : Nat} {g : Str} {body : Sta → Option Sta} (hb : ∀ s s2, s.turns ≤ most → body s = some s2 → s.turns ≤ s2.turns ∧ s2.turns ≤ most) : ∀ (f many : Nat) (s : Sta) (p : Sta × Nat), s.turns ≤ most → goLap most g body f many s = some p →
    s.turns ≤ p.1.turns ∧ p.1.turns ≤ most
  | 0, _, _, _, _, h => by simp [goLap] at h
  | f + 1, many, s, p, hs, h => by
    unfold goLap at h
    split at h
    · split at h
      · cases h
      · rename_i c
        cases e : body { s with turns := s.turns + 1, ρ := setN s.ρ g (s.ρ g - 1) } with
        | none => rw [e] at h; cases h
        | some s2 =>
          rw [e] at h
          have a := hb _ s2 (by show s.turns + 1 ≤ most; omega) e
          have b := goLap_turns hb f (many + 1) s2 p a.2 h
          have : s.turns + 1 ≤ s2.turns := a.1
          exact ⟨by omega, b.2⟩
    · cases h
      exact ⟨Nat.le_refl _, hs⟩
mutual
theorem runS_turns {most : Nat} : ∀ (x : Sm) (pl : List Int) (s s2 : Sta), s.turns ≤ most → runS most x pl s = some s2 → s.turns ≤ s2.turns ∧ s2.turns ≤ most
  | .say e, pl, s, s2, hs, h => by simp only [runS] at h; cases h; exact ⟨Nat.le_refl _, hs⟩
  | .set x e, pl, s, s2, hs, h => by simp only [runS] at h; cases h; exact ⟨Nat.le_refl _, hs⟩
  | .lap g m r, pl, s, s2, hs, h => by
    simp only [runS] at h
    obtain ⟨p, hp, rfl⟩ := Option.map_eq_some_iff.mp h
    exact goLap_turns (fun s s2 a b => runL_turns r pl 0 s s2 a b) _ _ _ _ hs hp
theorem runL_turns {most : Nat} : ∀ (r : List Sm) (pl : List Int) (k : Nat) (s s2 : Sta), s.turns ≤ most → runL most r pl k s = some s2 → s.turns ≤ s2.turns ∧ s2.turns ≤ most
  | [], pl, k, s, s2, hs, h => by simp only [runL] at h; cases h; exact ⟨Nat.le_refl _, hs⟩
  | x :: r, pl, k, s, s2, hs, h => by
    simp only [runL] at h
    obtain ⟨s1, h1, h2⟩ := Option.bind_eq_some_iff.mp h
    have a := runS_turns x _ s s1 hs h1
    have b := runL_turns r pl (k + 1) s1 s2 a.2 h2
    exact ⟨by omega, b.2⟩
end
end Lf
namespace Lf
open PySem PySem.Spec PyProof.Rows L2
/-! ### the same run from further on: turns ahead, words ahead, places moved -/
def lift (d : Nat) (w0 : List Int) (e0 : List (List Int × Int × Int)) (sh : List Int → List Int) (s : Sta) : Sta :=
  { ρ := s.ρ, told := w0 ++ s.told, turns := d + s.turns, ents := e0 ++ s.ents.map fun e => (sh e.1, e.2) }
section
variable {M N d : Nat} {w0 : List Int} {e0 : List (List Int × Int × Int)} {sh : List Int → List Int}
theorem goLap_lift {g : Str} {b1 b2 : Sta → Option Sta} (ht : ∀ s s2, s.turns ≤ M → b1 s = some s2 → s.turns ≤ s2.turns ∧ s2.turns ≤ M)
    (hb : ∀ s s2, s.turns ≤ M → b1 s = some s2 → d + s2.turns ≤ N → b2 (lift d w0 e0 sh s) = some (lift d w0 e0 sh s2)) :
    ∀ (f many : Nat) (s : Sta) (p : Sta × Nat), s.turns ≤ M → goLap M g b1 f many s = some p → d + p.1.turns ≤ N → ∀ f2, N + 1 ≤ f2 + (d + s.turns) → goLap N g b2 f2 many (lift d w0 e0 sh s) = some (lift d w0 e0 sh p.1, p.2)
  | 0, _, _, _, _, h, _, _, _ => by simp [goLap] at h
  | f + 1, many, s, p, hs, h, hN, f2, hf => by
    have tt := goLap_turns ht (f + 1) many s p hs h
    cases f2 with
    | zero => omega
    | succ f2 =>
      unfold goLap at h ⊢
      by_cases c : 0 < s.ρ g
      · have c2 : 0 < (lift d w0 e0 sh s).ρ g := c
        rw [if_pos c] at h
        rw [if_pos c2]
        by_cases c3 : s.turns = M
        · rw [if_pos c3] at h; cases h
        · rw [if_neg c3] at h
          obtain ⟨s2, h1, h2⟩ := Option.bind_eq_some_iff.mp h
          have a1 := ht _ s2 (by show s.turns + 1 ≤ M; omega) h1
          have a2 : s.turns + 1 ≤ s2.turns := a1.1
          have a3 := goLap_turns ht f (many + 1) s2 p a1.2 h2
          have c4 : ¬ (lift d w0 e0 sh s).turns = N := by
            show ¬ d + s.turns = N
            omega
          rw [if_neg c4]
          have e := hb _ s2 (by show s.turns + 1 ≤ M; omega) h1 (by omega)
          have e2 : (b2 { lift d w0 e0 sh s with turns := (lift d w0 e0 sh s).turns + 1, ρ := setN (lift d w0 e0 sh s).ρ g ((lift d w0 e0 sh s).ρ g - 1) }) = some (lift d w0 e0 sh s2) := e
          rw [e2, Option.bind_some]
          exact goLap_lift ht hb f (many + 1) s2 p a1.2 h2 hN f2 (by omega)
      · have c2 : ¬ 0 < (lift d w0 e0 sh s).ρ g := c
        rw [if_neg c] at h
        rw [if_neg c2]
        cases h
        rfl
mutual
theorem runS_lift : ∀ (x : Sm) (pl pl2 : List Int) (s s2 : Sta), (∀ q, sh (pl ++ q) = pl2 ++ q) → s.turns ≤ M → runS M x pl s = some s2 → d + s2.turns ≤ N → runS N x pl2 (lift d w0 e0 sh s) = some (lift d w0 e0 sh s2)
  | .say e, pl, pl2, s, s2, hp, hs, h, hN => by
    simp only [runS] at h ⊢
    cases h
    simp [lift]
  | .set x e, pl, pl2, s, s2, hp, hs, h, hN => by
    simp only [runS] at h ⊢
    cases h
    simp [lift]
  | .lap g m r, pl, pl2, s, s2, hp, hs, h, hN => by
    simp only [runS] at h ⊢
    obtain ⟨p, h1, rfl⟩ := Option.map_eq_some_iff.mp h
    have e := goLap_lift (N := N) (d := d) (w0 := w0) (e0 := e0) (sh := sh) (fun s s2 a b => runL_turns r pl 0 s s2 a b)
      (fun s s2 a b c => runL_lift r pl pl2 0 0 s s2 (fun i q => by rw [List.append_assoc, hp]; simp) a b c) _ 0 s p hs h1 hN (N + 1 - (d + s.turns)) (by omega)
    have e2 : goLap N g (fun s => runL N r pl2 0 s) (N + 1 - (lift d w0 e0 sh s).turns) 0 (lift d w0 e0 sh s) = some (lift d w0 e0 sh p.1, p.2) := e
    rw [e2, Option.map_some]
    have hq := hp []
    rw [List.append_nil, List.append_nil] at hq
    simp [lift, hq]
theorem runL_lift : ∀ (r : List Sm) (pl pl2 : List Int) (k k2 : Nat) (s s2 : Sta), (∀ (i : Nat) q, sh (pl ++ [((k + i : Nat) : Int)] ++ q) = pl2 ++ [((k2 + i : Nat) : Int)] ++ q) → s.turns ≤ M → runL M r pl k s = some s2 → d + s2.turns ≤ N →
    runL N r pl2 k2 (lift d w0 e0 sh s) = some (lift d w0 e0 sh s2)
  | [], pl, pl2, k, k2, s, s2, hp, hs, h, hN => by
    simp only [runL] at h ⊢
    cases h
    rfl
  | x :: r, pl, pl2, k, k2, s, s2, hp, hs, h, hN => by
    simp only [runL] at h ⊢
    obtain ⟨s1, h1, h2⟩ := Option.bind_eq_some_iff.mp h
    have a := runS_turns x _ s s1 hs h1
    have b := runL_turns r pl (k + 1) s1 s2 a.2 h2
    rw [runS_lift x (pl ++ [(k : Int)]) (pl2 ++ [(k2 : Int)]) s s1 (fun q => hp 0 q) hs h1 (by omega), Option.bind_some]
    refine runL_lift r pl pl2 (k + 1) (k2 + 1) s1 s2 (fun i q => ?_) a.2 h2 hN
    have z := hp (i + 1) q
    have e1 : k + (i + 1) = k + 1 + i := by omega
    have e2 : k2 + (i + 1) = k2 + 1 + i := by omega
    rw [e1, e2] at z
    exact z
end
end
end Lf
namespace Lf
open PySem PySem.Spec PyProof.Rows L2
/-! ### dry runs, two programs one behind another, the sum of the entries -/
theorem lift_id (s : Sta) : lift 0 [] [] id s = s := by
  cases s
  simp [lift]
theorem runL_more {M N : Nat} {r : List Sm} {pl : List Int} {k : Nat} {s s2 : Sta} (hs : s.turns ≤ M) (h : runL M r pl k s = some s2) (hN : s2.turns ≤ N) : runL N r pl k s = some s2 := by
  have z := runL_lift (M := M) (N := N) (d := 0) (w0 := []) (e0 := []) (sh := id) r pl pl k k s s2 (fun i q => rfl) hs h (by omega)
  rw [lift_id, lift_id] at z
  exact z
theorem runL_dry {M N : Nat} {r : List Sm} {pl : List Int} {k : Nat} {s s2 : Sta} (hs : s.turns ≤ M) (h : runL M r pl k s = some s2) (h1 : s.turns ≤ N) (hN : N < s2.turns) : runL N r pl k s = none := by
  cases e : runL N r pl k s with
  | none => rfl
  | some t =>
    have a := runL_turns r pl k s t h1 e
    have b := runL_turns r pl k s s2 hs h
    have z := runL_more (N := M) h1 e (by omega)
    rw [h] at z
    cases z
    omega
/-- a place, so many statements further on -/
def onP (n : Nat) : List Int → List Int
  | [] => []
  | i :: q => (i + n) :: q
def at0 (ρ : Str → Int) : Sta := ⟨ρ, [], 0, []⟩
theorem run_both {L M N : Nat} {one two : List Sm} {ρ : Str → Int} {s1 s2 : Sta} (h1 : runL L one [] 0 (at0 ρ) = some s1) (h2 : runL M two [] 0 (at0 s1.ρ) = some s2) (hN : s1.turns + s2.turns ≤ N) :
    runL N (one ++ two) [] 0 (at0 ρ) = some ⟨s2.ρ, s1.told ++ s2.told, s1.turns + s2.turns, s1.ents ++ s2.ents.map fun e => (onP one.length e.1, e.2)⟩ := by
  rw [runL_app, runL_more (N := N) (Nat.zero_le _) h1 (by omega), Option.bind_some]
  have z := runL_lift (M := M) (N := N) (d := s1.turns) (w0 := s1.told) (e0 := s1.ents) (sh := onP one.length) two [] [] 0 (0 + one.length) (at0 s1.ρ) s2 (fun i q => by simp [onP]; omega) (Nat.zero_le _) h2 hN
  have e : lift s1.turns s1.told s1.ents (onP one.length) (at0 s1.ρ) = s1 := by
    cases s1
    simp [lift, at0]
  rw [e] at z
  exact z
/-! each turn stands in one entry -/
def sumE (l : List (List Int × Int × Int)) : Int := (l.map fun e => e.2.2).sum
theorem sumE_app (a b : List (List Int × Int × Int)) : sumE (a ++ b) = sumE a + sumE b := by simp [sumE]
theorem goLap_sum {M : Nat} {g : Str} {body : Sta → Option Sta} (hb : ∀ s s2, body s = some s2 → sumE s2.ents - s2.turns = sumE s.ents - s.turns) :
    ∀ (f many : Nat) (s : Sta) (p : Sta × Nat), goLap M g body f many s = some p → sumE p.1.ents + p.2 - p.1.turns = sumE s.ents + many - s.turns
  | 0, _, _, _, h => by simp [goLap] at h
  | f + 1, many, s, p, h => by
    unfold goLap at h
    split at h
    · split at h
      · cases h
      · obtain ⟨s2, h1, h2⟩ := Option.bind_eq_some_iff.mp h
        have a := hb _ s2 h1
        have b := goLap_sum hb f (many + 1) s2 p h2
        have a2 : sumE s2.ents - s2.turns = sumE s.ents - ((s.turns + 1 : Nat) : Int) := a
        omega
    · cases h
      rfl
mutual
theorem runS_sum {M : Nat} : ∀ (x : Sm) (pl : List Int) (s s2 : Sta), runS M x pl s = some s2 → sumE s2.ents - s2.turns = sumE s.ents - s.turns
  | .say e, pl, s, s2, h => by simp only [runS] at h; cases h; rfl
  | .set x e, pl, s, s2, h => by simp only [runS] at h; cases h; rfl
  | .lap g m r, pl, s, s2, h => by
    simp only [runS] at h
    obtain ⟨p, hp, rfl⟩ := Option.map_eq_some_iff.mp h
    have a := goLap_sum (fun s s2 a => runL_sum r pl 0 s s2 a) _ _ _ _ hp
    show sumE (p.1.ents ++ [(pl, evE s.ρ m, (p.2 : Int))]) - p.1.turns = _
    rw [sumE_app]
    simp only [sumE, List.map_cons, List.map_nil, List.sum_cons, List.sum_nil] at a ⊢
    omega
theorem runL_sum {M : Nat} : ∀ (r : List Sm) (pl : List Int) (k : Nat) (s s2 : Sta), runL M r pl k s = some s2 → sumE s2.ents - s2.turns = sumE s.ents - s.turns
  | [], pl, k, s, s2, h => by simp only [runL] at h; cases h; rfl
  | x :: r, pl, k, s, s2, h => by
    simp only [runL] at h
    obtain ⟨s1, h1, h2⟩ := Option.bind_eq_some_iff.mp h
    have a := runS_sum x _ s s1 h1
    have b := runL_sum r pl (k + 1) s1 s2 h2
    omega
end
end Lf
namespace Lf
open PySem PySem.Spec PyProof.Rows L2
/-! ### how great the names grow -/
structure Bd (G : Str → Prop) (last : Str) (n : Nat) (ρ : Str → Int) : Prop where
  gu : ∀ x, G x → (ρ x).natAbs ≤ 4 * n + 4
  la : (ρ last).natAbs ≤ 4
  al : ∀ x, (ρ x).natAbs < 2 ^ (41 + 3 * n)
/-- a statement that sets a name lets all grow by one step at most -/
def GoodSet (G : Str → Prop) (last : Str) (x : Str) (e : Ex) : Prop := ∀ ρ n, n ≤ 33000 → Bd G last n ρ → Bd G last (n + 1) (setN ρ x (evE ρ e))
mutual
def gdS (G : Str → Prop) (last : Str) (W : Nat) : Sm → Prop
  | .say e => depE e < 4 ∧ smE e
  | .set x e => depE e < 4 ∧ smE e ∧ GoodSet G last x e
  | .lap _ m r => depE m < 4 ∧ smE m ∧ r.length ≤ W ∧ gdL G last W r
def gdL (G : Str → Prop) (last : Str) (W : Nat) : List Sm → Prop
  | [] => True
  | s :: r => gdS G last W s ∧ gdL G last W r
end
section
variable {G : Str → Prop} {last : Str} {W M n : Nat} {ρ : Str → Int}
theorem Bd.up (h : Bd G last n ρ) : Bd G last (n + 1) ρ :=
  ⟨fun x g => by have := h.gu x g; omega, h.la, fun x => Nat.lt_of_lt_of_le (h.al x) (Nat.pow_le_pow_right (by decide) (by omega))⟩
theorem Bd.tick (h : Bd G last n ρ) {g : Str} (p : 0 < ρ g) : Bd G last n (setN ρ g (ρ g - 1)) := by
  have key : ∀ x, (setN ρ g (ρ g - 1) x).natAbs ≤ (ρ x).natAbs := fun x => by
    unfold setN
    split
    · rename_i c
      subst c
      omega
    · exact Nat.le_refl _
  exact ⟨fun x gx => Nat.le_trans (key x) (h.gu x gx), Nat.le_trans (key last) h.la, fun x => Nat.lt_of_le_of_lt (key x) (h.al x)⟩
theorem goLap_bd {g : Str} {body : Sta → Option Sta} {β : Nat} (ht : ∀ s s2, s.turns ≤ M → body s = some s2 → s.turns ≤ s2.turns ∧ s2.turns ≤ M)
    (hb : ∀ s s2 n, s.turns ≤ M → Bd G last n s.ρ → n + W + W * (M - s.turns) ≤ β → body s = some s2 → ∃ n2, Bd G last n2 s2.ρ ∧ n2 + W * (M - s2.turns) ≤ n + W + W * (M - s.turns)) :
    ∀ (f many : Nat) (s : Sta) (p : Sta × Nat) (n : Nat), s.turns ≤ M → Bd G last n s.ρ → n + W * (M - s.turns) ≤ β → goLap M g body f many s = some p → ∃ n2, Bd G last n2 p.1.ρ ∧ n2 + W * (M - p.1.turns) ≤ n + W * (M - s.turns)
  | 0, _, _, _, _, _, _, _, h => by simp [goLap] at h
  | f + 1, many, s, p, n, hs, hB, hβ, h => by
    unfold goLap at h
    split at h
    · rename_i c
      split at h
      · cases h
      · rename_i c3
        obtain ⟨s2, h1, h2⟩ := Option.bind_eq_some_iff.mp h
        have e : W * (M - s.turns) = W * (M - (s.turns + 1)) + W := by
          have : M - s.turns = (M - (s.turns + 1)) + 1 := by omega
          rw [this, Nat.mul_succ]
        have a := ht _ s2 (by show s.turns + 1 ≤ M; omega) h1
        obtain ⟨n2, b1, b2⟩ := hb _ s2 n (by show s.turns + 1 ≤ M; omega) (hB.tick c) (by show n + W + W * (M - (s.turns + 1)) ≤ β; omega) h1
        have b2 : n2 + W * (M - s2.turns) ≤ n + W + W * (M - (s.turns + 1)) := b2
        obtain ⟨n3, c1, c2⟩ := goLap_bd ht hb f (many + 1) s2 p n2 a.2 b1 (by omega) h2
        exact ⟨n3, c1, by omega⟩
    · cases h
      exact ⟨n, hB, Nat.le_refl _⟩
mutual
theorem runS_bd : ∀ (x : Sm) (pl : List Int) (s s2 : Sta) (n : Nat), gdS G last W x → s.turns ≤ M → Bd G last n s.ρ → n + 1 + W * (M - s.turns) ≤ 33000 → runS M x pl s = some s2 →
    ∃ n2, Bd G last n2 s2.ρ ∧ n2 + W * (M - s2.turns) ≤ n + 1 + W * (M - s.turns)
  | .say e, pl, s, s2, n, hg, hs, hB, hβ, h => by
    simp only [runS] at h; cases h
    exact ⟨n + 1, hB.up, Nat.le_refl _⟩
  | .set x e, pl, s, s2, n, hg, hs, hB, hβ, h => by
    simp only [runS] at h; cases h
    exact ⟨n + 1, hg.2.2 _ _ (by omega) hB, Nat.le_refl _⟩
  | .lap g m r, pl, s, s2, n, hg, hs, hB, hβ, h => by
    simp only [runS] at h
    obtain ⟨p, hp, rfl⟩ := Option.map_eq_some_iff.mp h
    have lw := hg.2.2.1
    obtain ⟨n2, b1, b2⟩ := goLap_bd (W := W) (β := 33000) (fun s s2 a b => runL_turns r pl 0 s s2 a b)
      (fun s s2 n a b c d => by
        obtain ⟨n2, d1, d2⟩ := runL_bd r pl 0 s s2 n hg.2.2.2 a b (by omega) d
        exact ⟨n2, d1, by omega⟩) _ 0 s p n hs hB (by omega) hp
    exact ⟨n2, b1, by show n2 + W * (M - p.1.turns) ≤ _; omega⟩
theorem runL_bd : ∀ (r : List Sm) (pl : List Int) (k : Nat) (s s2 : Sta) (n : Nat), gdL G last W r → s.turns ≤ M → Bd G last n s.ρ → n + r.length + W * (M - s.turns) ≤ 33000 → runL M r pl k s = some s2 →
    ∃ n2, Bd G last n2 s2.ρ ∧ n2 + W * (M - s2.turns) ≤ n + r.length + W * (M - s.turns)
  | [], pl, k, s, s2, n, hg, hs, hB, hβ, h => by
    simp only [runL] at h; cases h
    exact ⟨n, hB, Nat.le_refl _⟩
  | x :: r, pl, k, s, s2, n, hg, hs, hB, hβ, h => by
    simp only [runL] at h
    simp only [List.length_cons] at hβ ⊢
    obtain ⟨s1, h1, h2⟩ := Option.bind_eq_some_iff.mp h
    have a := runS_turns x _ s s1 hs h1
    obtain ⟨n1, b1, b2⟩ := runS_bd x _ s s1 n hg.1 hs hB (by omega) h1
    obtain ⟨n2, c1, c2⟩ := runL_bd r pl (k + 1) s1 s2 n1 hg.2 a.2 b1 (by omega) h2
    exact ⟨n2, c1, by omega⟩
end
end
end Lf
namespace Lf
open PySem PySem.Spec PyProof.Rows L2
/-! ### the sets that are drawn grow by a step at most -/
section
variable {G : Str → Prop} {last x g : Str} {n : Nat} {ρ : Str → Int}
theorem bd_small (h : n ≤ 33000) : 4 * n + 100 < 2 ^ (41 + 3 * n) :=
  Nat.lt_of_lt_of_le (show 4 * n + 100 < 2 ^ 41 by omega) (Nat.pow_le_pow_right (by decide) (by omega))
theorem good_guard {e : Ex} (hl : x ≠ last) (h : ∀ ρ n, n ≤ 33000 → Bd G last n ρ → (evE ρ e).natAbs ≤ 4 * n + 8) : GoodSet G last x e := fun ρ n hn hB => by
  have v := h ρ n hn hB
  have u := hB.up
  have b := bd_small (n := n + 1)
  refine ⟨fun y gy => ?_, ?_, fun y => ?_⟩
  · unfold setN
    split
    · omega
    · exact u.gu y gy
  · unfold setN
    rw [if_neg (Ne.symm hl)]
    exact u.la
  · unfold setN
    split
    · refine Nat.lt_of_le_of_lt v (Nat.lt_of_lt_of_le (show 4 * n + 8 < 2 ^ 41 by omega) (Nat.pow_le_pow_right (by decide) (by omega)))
    · exact u.al y
theorem good_num {v : Int} (hl : x ≠ last) (h : v.natAbs ≤ 8) : GoodSet G last x (.num v) := good_guard hl fun ρ n _ _ => by
  show v.natAbs ≤ _
  omega
theorem good_next {v : Int} (hl : x ≠ last) (hg : G g) (h : v.natAbs ≤ 4) : GoodSet G last x (.add (.name g) (.num v)) := good_guard hl fun ρ n _ hB => by
  have a := hB.gu g hg
  show (ρ g + v).natAbs ≤ _
  omega
theorem good_odd (hl : x ≠ last) (hg : G g) : GoodSet G last x (.add (.name last) (.name g)) := good_guard hl fun ρ n _ hB => by
  have a := hB.gu g hg
  have b := hB.la
  show (ρ last + ρ g).natAbs ≤ _
  omega
theorem good_last (hl : ¬ G last) : GoodSet G last last (.num 0) := fun ρ n hn hB => by
  have u := hB.up
  refine ⟨fun y gy => ?_, ?_, fun y => ?_⟩
  · unfold setN
    rw [if_neg (by rintro rfl; exact hl gy)]
    exact u.gu y gy
  · unfold setN
    rw [if_pos rfl]
    simp [evE]
  · unfold setN
    split
    · simp only [evE, Int.natAbs_zero]; exact Nat.two_pow_pos _
    · exact u.al y
/-- another name: below eight times the greatest -/
theorem good_other {e : Ex} (hx : ¬ G x) (hl : x ≠ last) (h : ∀ ρ n, n ≤ 33000 → Bd G last n ρ → (evE ρ e).natAbs < 8 * 2 ^ (41 + 3 * n)) : GoodSet G last x e := fun ρ n hn hB => by
  have v := h ρ n hn hB
  have u := hB.up
  have e1 : 2 ^ (41 + 3 * (n + 1)) = 8 * 2 ^ (41 + 3 * n) := by
    rw [show 41 + 3 * (n + 1) = 3 + (41 + 3 * n) by omega, Nat.pow_add]
  refine ⟨fun y gy => ?_, ?_, fun y => ?_⟩
  · unfold setN
    rw [if_neg (by rintro rfl; exact hx gy)]
    exact u.gu y gy
  · unfold setN
    rw [if_neg (Ne.symm hl)]
    exact u.la
  · unfold setN
    split
    · rw [e1]; exact v
    · exact u.al y
/-- a part of what a name grows by: below the greatest; its double twice over -/
def PaB (G : Str → Prop) (last : Str) (c : Nat) (e : Ex) : Prop := ∀ ρ n, n ≤ 33000 → Bd G last n ρ → (evE ρ e).natAbs < c * 2 ^ (41 + 3 * n)
theorem pa_name : PaB G last 1 (.name x) := fun ρ n _ hB => by
  rw [Nat.one_mul]
  exact hB.al x
theorem pa_num {v : Int} (h : v.natAbs < 2 ^ 40) : PaB G last 1 (.num v) := fun ρ n _ _ => by
  rw [Nat.one_mul]
  exact Nat.lt_of_lt_of_le (Nat.lt_of_lt_of_le h (by decide : 2 ^ 40 ≤ 2 ^ 41)) (Nat.pow_le_pow_right (by decide) (by omega))
theorem pa_gg {g1 g2 : Str} (h1 : G g1) (h2 : G g2) : PaB G last 1 (.mul (.name g1) (.name g2)) := fun ρ n hn hB => by
  have a := hB.gu g1 h1
  have b := hB.gu g2 h2
  have a2 : (ρ g1).natAbs ≤ 132004 := by omega
  have b2 : (ρ g2).natAbs ≤ 132004 := by omega
  rw [Nat.one_mul]
  show (ρ g1 * ρ g2).natAbs < _
  rw [Int.natAbs_mul]
  have m := Nat.mul_le_mul a2 b2
  exact Nat.lt_of_le_of_lt m (Nat.lt_of_lt_of_le (by decide : 132004 * 132004 < 2 ^ 41) (Nat.pow_le_pow_right (by decide) (by omega)))
theorem pa_times {v : Int} (h : 0 ≤ v ∧ v ≤ 3) : PaB G last 3 (.mul (.num v) (.name x)) := fun ρ n _ hB => by
  have a := hB.al x
  show (v * ρ x).natAbs < _
  rw [Int.natAbs_mul]
  have p := Nat.two_pow_pos (41 + 3 * n)
  have m := Nat.mul_le_mul_right (ρ x).natAbs (show v.natAbs ≤ 3 by omega)
  omega
theorem pa_add {c d : Nat} {e1 e2 : Ex} (h1 : PaB G last c e1) (h2 : PaB G last d e2) : PaB G last (c + d) (.add e1 e2) := fun ρ n hn hB => by
  have a := h1 ρ n hn hB
  have b := h2 ρ n hn hB
  show (evE ρ e1 + evE ρ e2).natAbs < _
  rw [Nat.add_mul]
  omega
theorem PaB.good {c : Nat} {e : Ex} (hx : ¬ G x) (hl : x ≠ last) (h : PaB G last c e) (hc : c ≤ 8) : GoodSet G last x e := good_other hx hl fun ρ n hn hB =>
  Nat.lt_of_lt_of_le (h ρ n hn hB) (Nat.mul_le_mul_right _ hc)
end
end Lf
namespace Lf
open PySem PySem.Spec PyProof.Rows L2
/-! ### the fields of a walk -/
def wf (d t e : Addr) (m n : Int) : List (Str × V) := [("names", .ref d), ("most", .int m), ("told", .ref t), ("turns", .int n), ("entries", .ref e)]
section
variable {d t e : Addr} {m n k : Int}
theorem wf_names : (wf d t e m n).lookup ("names" : Str) = some (.ref d) := rfl
theorem wf_most : (wf d t e m n).lookup ("most" : Str) = some (.int m) := rfl
theorem wf_told : (wf d t e m n).lookup ("told" : Str) = some (.ref t) := rfl
theorem wf_turns : (wf d t e m n).lookup ("turns" : Str) = some (.int n) := rfl
theorem wf_entries : (wf d t e m n).lookup ("entries" : Str) = some (.ref e) := rfl
theorem wf_row : (wf d t e m n).lookup ("row" : Str) = none := rfl
theorem wf_lap : (wf d t e m n).lookup ("lap" : Str) = none := rfl
theorem wf_put : putF "turns" (.int k) (wf d t e m n) = wf d t e m k := rfl
theorem wf_new : putF "entries" (.ref e) (putF "turns" (.int n) (putF "told" (.ref t) (putF "most" (.int m) (putF "names" (.ref d) [])))) = wf d t e m n := rfl
end
end Lf
namespace Lf
open PySem PySem.Spec PyProof.Rows L2
open AutoSeq1 (wpAny_loadPart')
/-! ### enumerate(tuple) -/
set_option maxHeartbeats 1000000 in
theorem meets_enumerate_newT (l : Addr) (items : Array Value) :
    Meets (Builtin.«enumerate.__new__» ⟨[.type "enumerate", .ref l], []⟩) (fun _ R s => s.heap.IsTuple l items ∧
      R (.ok (.ret (.ref (s.heap.push { cls := .type "tuple_iterator", data := .fields #[.ref l, .int 0 0] }).objs.size)))
        { s with heap := (s.heap.push { cls := .type "tuple_iterator", data := .fields #[.ref l, .int 0 0] }).push { cls := .type "enumerate", data := .fields #[.none, .bool false, .ref s.heap.objs.size, rawInt 0, .none, .none] } }) :=
  .of_wp fun prog w A R s h => by
    obtain ⟨hp, g, d, tk, os⟩ := s; obtain ⟨hL, h⟩ := h
    have hsub := sub_enumerate
    wp_walk
    refine wpAny_stack_any fun st => wpAny_pure ?_
    split
    · rename_i c _ _ _ _ _
      cases (c == Value.type "enumerate")
      · wp_walk using wpAny_pyIter_tuple hL
        exact ⟨_, rfl, h⟩
      · wp_walk using wpAny_pyIter_tuple hL
        exact ⟨_, rfl, h⟩
    · wp_walk using wpAny_pyIter_tuple hL
      exact ⟨_, rfl, h⟩
theorem call_enumerate_tuple {prog : Program} {w : World} {A : Around} {E : Value → Shared → Prop} {s : Shared} {l : Addr} {items : Array Value} {Q : Value → Shared → Prop} (hL : s.heap.IsTuple l items)
    (h : ∀ h', IsEnum h' (s.heap.objs.size + 1) s.heap.objs.size 0 .none → h'.IsTupleIter s.heap.objs.size l 0 → h'.objs.size = s.heap.objs.size + 2 →
      (∀ b o, s.heap.get? b = some o → h'.get? b = some o) → Q (.ref (s.heap.objs.size + 1)) { s with heap := h' }) :
    wpAny (model prog w) A (call (.type "enumerate") [.ref l]) Q E s := by
  refine callType_new F.called_enumerate (by decide) (F.typeCall_enumerate_1 _) (F.newCall_enumerate_1 _) (fun obj => F.args_object_init_2 obj _) F.entry_enumerate_new
    (meets_enumerate_newT l items) ⟨hL, ?_⟩
  have hz : (s.heap.push { cls := .type "tuple_iterator", data := .fields #[.ref l, .int 0 0] }).objs.size = s.heap.objs.size + 1 := Heap.size_push ..
  show _ ∧ _
  rw [hz]
  have he : IsEnum ((s.heap.push { cls := .type "tuple_iterator", data := .fields #[.ref l, .int 0 0] }).push
      { cls := .type "enumerate", data := .fields #[.none, .bool false, .ref s.heap.objs.size, rawInt 0, .none, .none] }) (s.heap.objs.size + 1) s.heap.objs.size 0 .none := by
    have := Heap.get?_push_size (s.heap.push { cls := .type "tuple_iterator", data := .fields #[.ref l, .int 0 0] })
      (o := { cls := .type "enumerate", data := .fields #[.none, .bool false, .ref s.heap.objs.size, rawInt 0, .none, .none] }) rfl
    rw [hz] at this; exact this
  refine ⟨⟨_, he, rfl⟩, h _ he ⟨_, Heap.get?_push_of_some _ (Heap.get?_push_size _ rfl), rfl, rfl⟩ (by rw [Heap.size_push, hz]) fun b o x => Heap.get?_push_of_some _ (Heap.get?_push_of_some _ x)⟩
/-- the tuple at a, each item in a new pair -/
def IteT (K : PySem.W.Frag) (a : Addr) : It :=
  ⟨fun i H => ∃ (xs : List V) (x : V), SqT K H a xs ∧ xs[i]? = some x, fun i H v H' => ∃ T x, v = .ref T ∧ H T = none ∧ H' = upd H T (.tup [.int (i : Nat), x]) ∧ ∀ xs, SqT K H a xs → xs[i]? = some x, fun i H => ∃ xs : List V, SqT K H a xs ∧ xs.length ≤ i⟩
theorem turn_enumT {P : Program} {w : World} {K : PySem.W.Frag} {elts : List Expr} {kk : Nat} {tpos : Pos} (a e it : Addr) (hai : a ≠ it) (hea : e ≠ a) :
    Turn P w K (.Tuple elts kk tpos) (IteT K a) [e, it] e (fun i h => (∃ old, IsEnum h e it ((i : Nat) : Int) old) ∧ h.IsTupleIter it a i ∧ e ≠ it) where
  mem := by simp
  obj := fun i h st b hb => by
    obtain ⟨⟨old, he⟩, ⟨o, ho, hc, hd⟩, _⟩ := st
    have e' : b = e ∨ b = it := by simpa using hb
    rcases e' with z | z
    · rw [z]; exact ⟨_, he, fun v q => nomatch q⟩
    · rw [z]; exact ⟨o, ho, fun v q => by rw [hd] at q; cases q⟩
  keep := fun i h h' st k => let ⟨⟨old, he⟩, hi, hne⟩ := st; ⟨⟨old, k e (by simp) _ he⟩, hi.at fun o q => k it (by simp) o q, hne⟩
  item := by
    intro X hP hw hK hc i pins s σ H E I hf st hg
    subst hP hw hK
    obtain ⟨⟨old, he⟩, hit, hne⟩ := st
    obtain ⟨xs, x, hq, hx⟩ := hg
    obtain ⟨its, rv, p, hz⟩ := I.tuple hq
    obtain ⟨u, hu, ru⟩ := rv.get hx
    have hel : e < s.heap.objs.size := Heap.lt_size he
    have hil : it < s.heap.objs.size := by obtain ⟨_, q, _⟩ := hit; exact Heap.lt_size q
    have hlt : i < its.toArray.size := by
      have := (List.getElem?_eq_some_iff.mp hu).1
      simpa using this
    refine wpAny_pyNext_enum_itemD (Draws.tuple (A := X.A.in1) (by exact I.ok.hd hc) it a hai its.toArray) he ⟨hit, p⟩ hlt hne (by simp [hne, hea]) fun x2 h' tk hx2 ho hst' hT hsz hk => ?_
    have hx3 : x2 = u := by
      have : its.toArray[i]? = some x2 := hx2
      simp only [List.getElem?_toArray] at this
      rw [hu] at this
      exact (Option.some.inj this).symm
    subst hx3
    refine ⟨_, rfl, wpAny_letOwnedTupleGo_enum (s := { s with heap := h', toks := tk + 1 }) ho fun h'' he' sb => ?_⟩
    have hT2 : h''.get? s.heap.objs.size = some { cls := .type "tuple", data := .seq #[.int i tk, x2] } := (sb.2 _ (Nat.ne_of_gt hel)).trans hT
    have new : ObjOk X.prog X.w (upd H s.heap.objs.size (.tup [.int (i : Nat), x])) h'' s.heap.objs.size (.tup [.int (i : Nat), x]) :=
      ⟨by show 2 ≤ sizeLine; decide, [.int i tk, x2], .cons ⟨_, rfl⟩ (.cons ru .nil), ⟨_, hT2, rfl, _, rfl⟩⟩
    have I1 : Inv X pins σ (upd H s.heap.objs.size (.tup [.int (i : Nat), x])) { s with heap := h'', toks := tk + 1 } :=
      I.turnedNew (ch := [e, it]) (fun b ob hb q => (sb.2 b (fun z => hb (by simp [z]))).trans (hk b ob (fun z => hb (by simp [z])) (fun z => hb (by simp [z])) q)) hf (Nat.le_refl _) new
    refine ⟨.ref s.heap.objs.size, _, I1, rfl, ⟨_, x, rfl, I.hok.fresh (Nat.le_refl _), rfl, fun ys hy => by rw [I.tuple_inj hy hq]; exact hx⟩, ⟨⟨x2, ?_⟩, hst'.1.at fun o q => (sb.2 it (Ne.symm hne)).trans q, hne⟩, fun b hb => ?_⟩
    · have e1 : ((i + 1 : Nat) : Int) = (i : Int) + 1 := by omega
      rw [e1]; exact he'
    · have hb' : b < s.heap.objs.size := by
        have e' : b = e ∨ b = it := by simpa using hb
        rcases e' with z | z
        · rw [z]; exact hel
        · rw [z]; exact hil
      rw [upd_ne (Nat.ne_of_lt hb')]
      exact (hf b hb).1
  done := by
    intro X hP hw hK hc i pins s σ H E I hf st hg
    subst hP hw hK
    obtain ⟨⟨old, he⟩, hit, hne⟩ := st
    obtain ⟨xs, hq, hx⟩ := hg
    obtain ⟨its, rv, p, hz⟩ := I.tuple hq
    obtain ⟨f0, f1, f2, f3, f4, f5⟩ := hf it (by simp)
    have hl := rv.length
    have D2 : Draws X.prog X.w X.A.in1 it [it, a] i (fun _ _ => True) (fun j h => j = i ∧ h.IsTupleIter it a i ∧ Heap.IsTuple h a its.toArray) :=
      ⟨fun _ _ st => let ⟨_, ⟨o, ho, _⟩, _⟩ := st; ⟨o, ho⟩, fun _ _ _ st hk => ⟨st.1, st.2.1.at fun o e => hk it (by simp) o e, st.2.2.at fun o e => hk a (by simp) o e⟩, fun j s Q E hj hst hQ => absurd hst.1 (by omega),
        fun s Q E hst hE => wpAny_nextOf_tuple_end (by exact I.ok.hd hc) hst.2.1 hst.2.2 (by simp; omega) hE⟩
    exact wpAny_pyNext_enum_endD D2 he ⟨rfl, hit, p⟩ fun h' eb => ⟨rfl, I.turned (t' := s.toks) (fun b o hb q => eb b o hb q) f0 f1 f3 f4 f5⟩
  self := fun A i s Q E st h => let ⟨⟨_, he⟩, _⟩ := st; wpAny_pyIter_enum he h
def iEnumT (K : PySem.W.Frag) (ta : TA) : TI := fun σ H R => ta σ H fun vs H1 => ∃ a xs, vs = [.ref a] ∧ SqT K H1 a xs ∧ R (IteT K a) H1
theorem pi_enumT {X : Cx} {e : Expr} {ta : TA} {p pos tpos : Pos} {elts : List Expr} {kk : Nat} (hg : Gl X "enumerate") (hm : X.mg "enumerate" = none) (ha : PA X [e] ta) (hs : starEach [e] X.env = [(false, eval e X.env)] := by rfl) :
    PI X (.Tuple elts kk tpos) (.Call (.Name "enumerate" p) [e] [] pos) (iEnumT X.K ta) := by
  refine ⟨fun pins s σ H R I h => ?_⟩
  refine Call_ (ld_blt I hg hm boot_enumerate (PyProof.Rows.callWith_type1 (thn (ha.run pos pins s σ H _ I h) fun us s1 ⟨vs, H1, I1, r1, q1⟩ => ?_) hs rfl))
  obtain ⟨a, xs, ex, hq, q⟩ := q1
  subst ex
  cases r1 with
  | cons r rr =>
    cases rr
    cases r
    obtain ⟨its, rv, p', hz⟩ := I1.tuple hq
    have hal : a < s1.heap.objs.size := by obtain ⟨_, z, _⟩ := p'; exact Heap.lt_size z
    refine call_enumerate_tuple (show s1.heap.IsTuple a its.toArray from p') fun h' he hit hsz hk => wpAny_pyIter_enum he ?_
    have I2 : Inv X pins σ H1 { s1 with heap := h' } := I1.kept (t' := s1.toks) hk
    refine ⟨s1.heap.objs.size + 1, [s1.heap.objs.size + 1, s1.heap.objs.size], _, _, H1, rfl, I2, turn_enumT a (s1.heap.objs.size + 1) s1.heap.objs.size (Nat.ne_of_lt hal) (Nat.ne_of_gt (Nat.lt_succ_of_lt hal)), ⟨⟨.none, he⟩, hit, Nat.succ_ne_self _⟩, fun b hb => ?_, q⟩
    have e' : b = s1.heap.objs.size + 1 ∨ b = s1.heap.objs.size := by simpa using hb
    have hle : s1.heap.objs.size ≤ b := by
      rcases e' with z | z
      · rw [z]; exact Nat.le_add_right _ _
      · rw [z]; exact Nat.le_refl _
    exact I1.fpOk hle (I1.hok.fresh hle)
end Lf
namespace Lf
open PySem PySem.Spec PyProof.Rows L2
/-! ### defs that may raise, methods, makers -/
section
variable {P : Program} {w : World} {K : PySem.W.Frag} {mg : Str → Option Value} {base : Heap}
theorem Here.okX {x : Str} {st : Stmt} {N ps : List Str} {k : Nat} {sp : Sp} (F : Here K mg x st ps) (S : FnScope N ps (defScope st)) (len : ∀ vs H Q E, sp vs H Q E → vs.length = ps.length)
    (hbody : ∀ (f : Addr) (cdv : Value) (A : Around) (outer : List Env) (s : Shared) (H : Hp) (vs : List V) (Q : VK) (E : XK), Room k (A.deeper (envOfC x (defScope st) s.heap.objs.size f cdv)) → sp vs H Q E →
      ∃ t, PSs (cxOf (L2.CX P w) P w K mg base N x (defScope st) f cdv A outer s H E) (defBody st) t ∧ t { nx := fun _ H' => Q .non H', rt := Q } (start N vs) H) : DefOk P w K mg base (L2.CX P w) x ps (k + 1) sp := by
  obtain ⟨f, fd, F, hm, hb⟩ := F.ex
  exact ⟨f, fd, F.okX S len (hbody f), F.kp, hb, hm⟩
structure HereM (K : PySem.W.Frag) (C : Addr) (m qual : Str) (st : Stmt) (ps : List Str) : Prop where
  ex : ∃ (f : Addr) (fd : FuncData), Fun K m qual st f fd ∧ Meth K C m f ∧ Binds K fd ps []
structure MethOk (P : Program) (w : World) (K : PySem.W.Frag) (mg : Str → Option Value) (base : Heap) (CX : CXT) (C : Addr) (m : Str) (ps : List Str) (k : Nat) (sp : Sp) : Prop where
  ex : ∃ (f : Addr) (fd : FuncData), FnOk P w K mg base CX k f fd ps sp ∧ Meth K C m f ∧ Binds K fd ps []
structure HereI (K : PySem.W.Frag) (mg : Str → Option Value) (C : Addr) (x qual : Str) (st : Stmt) (ps : List Str) : Prop where
  ex : ∃ (f : Addr) (fd : FuncData), Fun K "__init__" qual st f fd ∧ Mk K C f ∧ Binds K fd ps [] ∧ mg x = some (.ref C)
structure MakeOk (P : Program) (w : World) (K : PySem.W.Frag) (mg : Str → Option Value) (base : Heap) (CX : CXT) (C : Addr) (x : Str) (ps : List Str) (k : Nat) (sp : Sp) : Prop where
  ex : ∃ (f : Addr) (fd : FuncData), FnOk P w K mg base CX k f fd ps sp ∧ Mk K C f ∧ Binds K fd ps [] ∧ mg x = some (.ref C)
theorem HereM.okX {C : Addr} {m qual : Str} {st : Stmt} {N ps : List Str} {k : Nat} {sp : Sp} (F : HereM K C m qual st ps) (S : FnScope N ps (defScope st)) (len : ∀ vs H Q E, sp vs H Q E → vs.length = ps.length)
    (hbody : ∀ (f : Addr) (cdv : Value) (A : Around) (outer : List Env) (s : Shared) (H : Hp) (vs : List V) (Q : VK) (E : XK), Room k (A.deeper (envOfC qual (defScope st) s.heap.objs.size f cdv)) → sp vs H Q E →
      ∃ t, PSs (cxOf (L2.CX P w) P w K mg base N qual (defScope st) f cdv A outer s H E) (defBody st) t ∧ t { nx := fun _ H' => Q .non H', rt := Q } (start N vs) H) : MethOk P w K mg base (L2.CX P w) C m ps (k + 1) sp := by
  obtain ⟨f, fd, F, hm, hb⟩ := F.ex
  exact ⟨f, fd, F.okX S len (hbody f), hm, hb⟩
theorem HereM.none {C : Addr} {m qual : Str} {st : Stmt} {N ps : List Str} {sp : Sp} (F : HereM K C m qual st ps) (S : FnScope N ps (defScope st)) (h : ∀ vs H Q E, ¬ sp vs H Q E) : MethOk P w K mg base (L2.CX P w) C m ps 1 sp :=
  F.okX (k := 0) S (fun vs H Q E q => absurd q (h vs H Q E)) (fun _ _ _ _ _ _ _ _ _ _ q => absurd q (h _ _ _ _))
theorem HereI.ok {C : Addr} {x qual : Str} {st : Stmt} {N ps : List Str} {k : Nat} {sp : Sp} (F : HereI K mg C x qual st ps) (S : FnScope N ps (defScope st)) (len : ∀ vs H Q E, sp vs H Q E → vs.length = ps.length)
    (hbody : ∀ (f : Addr) (cdv : Value) (A : Around) (outer : List Env) (s : Shared) (H : Hp) (vs : List V) (Q : VK) (E : XK), Room k (A.deeper (envOfC qual (defScope st) s.heap.objs.size f cdv)) → sp vs H Q E →
      ∃ t, PSs (cxOf CX0 P w K mg base N qual (defScope st) f cdv A outer s H E).nox (defBody st) t ∧ t { nx := fun _ H' => Q .non H', rt := Q } (start N vs) H) : MakeOk P w K mg base CX0 C x ps (k + 1) sp := by
  obtain ⟨f, fd, F, hm, hb, hg⟩ := F.ex
  exact ⟨f, fd, F.ok S len (hbody f), hm, hb, hg⟩
theorem MethOk.mono {CX : CXT} {C : Addr} {m : Str} {ps : List Str} {j k : Nat} {sp : Sp} (F : MethOk P w K mg base CX C m ps j sp) (h : j ≤ k) : MethOk P w K mg base CX C m ps k sp := by
  obtain ⟨f, fd, F, r⟩ := F.ex
  exact ⟨f, fd, F.mono h, r⟩
theorem hereM_mk {C : Addr} {x qual : Str} {st : Stmt} {ps : List Str} {f : Addr} {oc : Value} {od an : Option Addr} {osl : Array (Option Value)} {kV doc pm cdv ct : Value}
    (a : PySem.W.findIn K (.ref C) x = some (some (.ref f))) (i : PySem.W.isFn K (.ref f) = true)
    (l : K.lookup f = some ⟨oc, od, .func (PySem.W.fnOf x qual (defArgs st) (defBody st) (defScope st) .none kV doc pm an cdv ct), osl⟩)
    (c : PySem.W.codeIn K cdv qual = true) (k : PySem.W.keepIn K (.ref f) = true)
    (hb : ∀ (us : List Value), us.length = ps.length → bindArgs (PySem.W.fnOf x qual (defArgs st) (defBody st) (defScope st) .none kV doc pm an cdv ct) ⟨us, []⟩ = pure (ps.zip us)) : HereM K C x qual st ps :=
  ⟨f, _, fun_mk (st := st) l c k, ⟨a, i, k⟩, Binds.all hb⟩
theorem hereI_mk {h : Heap} {C : Addr} {x qual : Str} {st : Stmt} {ps : List Str} {f : Addr} {oc : Value} {od an : Option Addr} {osl : Array (Option Value)} {kV doc pm cdv ct : Value} (X : K.In h) (G : h.Ns mainGlobals mg)
    (g : PySem.W.nsIn K mainGlobals x = some (some (.ref C))) (mk : PySem.W.makesIn K C = true) (kc : PySem.W.keepIn K (.ref C) = true)
    (a : PySem.W.findIn K (.ref C) "__init__" = some (some (.ref f))) (i : PySem.W.isFn K (.ref f) = true)
    (l : K.lookup f = some ⟨oc, od, .func (PySem.W.fnOf "__init__" qual (defArgs st) (defBody st) (defScope st) .none kV doc pm an cdv ct), osl⟩)
    (c : PySem.W.codeIn K cdv qual = true) (k : PySem.W.keepIn K (.ref f) = true)
    (hb : ∀ (us : List Value), us.length = ps.length → bindArgs (PySem.W.fnOf "__init__" qual (defArgs st) (defBody st) (defScope st) .none kV doc pm an cdv ct) ⟨us, []⟩ = pure (ps.zip us)) : HereI K mg C x qual st ps :=
  ⟨f, _, fun_mk (st := st) l c k, ⟨mk, a, i, kc⟩, Binds.all hb, PySem.W.mg_of X G g⟩
end
section
variable {X : Cx} {CX : CXT} {k : Nat} {C : Addr} {ps : List Str} {sp : Sp} {E : XK} {x m : Str} {p pos apos : Pos} {e o : Expr} {es : List Expr} {ta : TE} {t : TA}
theorem pe_methD {pl : Sem Bool} (c : Cls X.K C) (F : MethOk X.prog X.w X.K X.mg X.base CX C m ps k sp) (hr : Room k X.A) (hx : Passes CX X E) (he : PE X o ta) (ha : PA X (e :: es) t)
    (hst : starEach (e :: es) X.env = (false, eval e X.env) :: starEach es X.env := by rfl) (hpl : (backTo pos (starEach es X.env)).any (·.1) = false := by rfl)
    (ht : eval (.Call (.Attribute o m apos) (e :: es) [] pos) X.env = (do
      let ov ← eval o X.env
      standAt apos.atName
      let (f, first) ← holding [ov] (getMethod ov m pl)
      callWith pos f first (backTo pos (starEach (e :: es) X.env)) (backToKw pos (keywordEach [] X.env))) := by rfl) : PE X (.Call (.Attribute o m apos) (e :: es) [] pos) (tMeth C m sp [] E ta t) := by
  obtain ⟨f, fd, F, hm, hb⟩ := F.ex
  exact pe_meth he c hm F hr hb .nil hx ha hst hpl ht
theorem pe_makeD (F : MakeOk X.prog X.w X.K X.mg X.base CX C x ps k sp) (hr : Room (k + 1) X.A) (hx : Passes CX X E) (ha : PA X (e :: es) t) (hg : Gl X x := by rfl) (hdb : (x == ("__debug__" : Str)) = false := by decide)
    (he : starEach (e :: es) X.env = (false, eval e X.env) :: starEach es X.env := by rfl) (hpl : (backTo pos (starEach es X.env)).any (·.1) = false := by rfl) : PE X (.Call (.Name x p) (e :: es) [] pos) (tMake C sp [] E t) := by
  obtain ⟨f, fd, F, hm, hb, hmg⟩ := F.ex
  exact pe_make hm F hr hg hmg hb .nil hx ha hdb he hpl
theorem pe_callSD {E : L2.St → XK} (F : DefOk X.prog X.w X.K X.mg X.base CX x ps k sp) (hr : Room k X.A) (hx : ∀ σ, PassesAt CX X σ (E σ)) (ha : PA X (e :: es) t) (hg : Gl X x := by rfl) (hdb : (x == ("__debug__" : Str)) = false := by decide)
    (he : starEach (e :: es) X.env = (false, eval e X.env) :: starEach es X.env := by rfl) (hpl : (backTo pos (starEach es X.env)).any (·.1) = false := by rfl) : PE X (.Call (.Name x p) (e :: es) [] pos) (tCallS sp E t) := by
  obtain ⟨f, fd, F, hk, hb, hm⟩ := F.ex
  exact pe_callS F hr hg hm hk hb hx ha hdb he hpl
end
/-- an own error over ValueError: what the top has written of it -/
structure ErrTxt (K : PySem.W.Frag) (mg : Str → Option Value) (x : Str) (C : Addr) : Prop where
  g : mg x = some (.ref C)
  x : PySem.W.excIn K C [.type "ValueError", .type "Exception", .type "BaseException", .type "object"] "ValueError.__new__" = true
  k : PySem.W.keepIn K (.ref C) = true
  b : PySem.W.subIn K (.ref C) (.type "BaseException") = some true
  t : PySem.W.typeIn K (.ref C) = some (.type "type")
  e : PySem.W.exmOne K (.ref C) (.ref C) = some true
/-! ### readings: fields, methods, makers, stores in dicts -/
def GF (K : PySem.W.Frag) (f : Str) (x : V) (H : Hp) (Q : VK) : Prop := ∃ a C dx fs v, x = .ref a ∧ H a = some (.ins C dx fs) ∧ Cls K C ∧ NoAttr K C f ∧ fs.lookup f = some v ∧ Q v H
def GS (K : PySem.W.Frag) (f : Str) (y x : V) (σ : L2.St) (H : Hp) (N : L2.St → Hp → Prop) : Prop := ∃ a C dx fs, x = .ref a ∧ H a = some (.ins C dx fs) ∧ Cls K C ∧ NoAttr K C f ∧ fs.length < 1000 ∧ N σ (upd H a (.ins C dx (putF f y fs)))
def GM (C : Addr) (m : Str) (sp : Sp) (E : XK) (t : TA) (x : V) (σ : L2.St) (H : Hp) (Q : VK) : Prop := ∃ a dx fs, x = .ref a ∧ H a = some (.ins C dx fs) ∧ fs.lookup m = none ∧ t σ H fun vs H2 => sp (x :: (vs ++ [])) H2 Q E
def GP (v x y : V) (σ : L2.St) (H : Hp) (N : L2.St → Hp → Prop) : Prop := ∃ a H4, x = .ref a ∧ DPut H a y v H4 ∧ N σ H4
def GG (x y : V) (H : Hp) (Q : VK) : Prop := ∃ a v, x = .ref a ∧ DGet H a y (some v) ∧ Q v H
def GN (y x : V) (H : Hp) (Q : VK) : Prop := ∃ a o, x = .ref a ∧ DGet H a y o ∧ Q (.bl (!o.isSome)) H
section
variable {K : PySem.W.Frag} {σ : L2.St} {H : Hp} {Q : VK} {ta tv td ty : TE} {t : TA} {f m : Str} {D : Ends} {C : Addr} {sp : Sp} {E : XK}
theorem rd_fld (q : ta σ H fun x H1 => GF K f x H1 Q) : tFld K ta f σ H Q := q
theorem rd_sfld (q : tv σ H fun y H1 => ta σ H1 fun x H2 => GS K f y x σ H2 D.nx) : sFld K ta tv f D σ H := q
theorem rd_meth (q : ta σ H fun x H1 => GM C m sp E t x σ H1 Q) : tMeth C m sp [] E ta t σ H Q := q
theorem rd_dput (q : tv σ H fun v H1 => td σ H1 fun x H2 => ty σ H2 fun y H3 => GP v x y σ H3 D.nx) : sDPut td ty tv D σ H := q
theorem rd_dget (q : td σ H fun x H1 => ty σ H1 fun y H2 => GG x y H2 Q) : tDGet td ty σ H Q := q
theorem rd_dnin (q : ty σ H fun y H1 => td σ H1 fun x H2 => GN y x H2 Q) : tDNotIn ty td σ H Q := q
theorem rd_make (q : t σ H fun vs H1 => ∀ x dx, H1 x = none → H1 dx = none → dx ≠ x → sp (.ref x :: (vs ++ [])) (upd (upd H1 dx (.own x)) x (.ins C dx [])) (fun v H2 => v = .non ∧ Q (.ref x) H2) E) : tMake C sp [] E t σ H Q := q
theorem rd_gf {a dx : Addr} {fs : List (Str × V)} {v : V} (c : Cls K C) (n : NoAttr K C f) (h : H a = some (.ins C dx fs)) (l : fs.lookup f = some v) (q : Q v H) : GF K f (.ref a) H Q := ⟨a, C, dx, fs, v, rfl, h, c, n, l, q⟩
theorem rd_gs {a dx : Addr} {fs : List (Str × V)} {v : V} {N : L2.St → Hp → Prop} (c : Cls K C) (n : NoAttr K C f) (h : H a = some (.ins C dx fs)) (l : fs.length < 1000) (q : N σ (upd H a (.ins C dx (putF f v fs)))) : GS K f v (.ref a) σ H N := ⟨a, C, dx, fs, rfl, h, c, n, l, q⟩
theorem rd_gm {a dx : Addr} {fs : List (Str × V)} (h : H a = some (.ins C dx fs)) (l : fs.lookup m = none) (q : t σ H fun vs H2 => sp (.ref a :: (vs ++ [])) H2 Q E) : GM C m sp E t (.ref a) σ H Q := ⟨a, dx, fs, rfl, h, l, q⟩
theorem rd_gp {a : Addr} {kvs : List (L2.Key × V)} {x : Str} {v : V} {N : L2.St → Hp → Prop} (h : H a = some (.dK kvs)) (l : kvs.length < sizeLine) (q : N σ (upd H a (.dK (putK kvs (.inr x) v)))) : GP v (.ref a) (.str x) σ H N := ⟨a, _, rfl, DPut.k (k := .inr x) h l, q⟩
theorem rd_gg {a : Addr} {kvs : List (L2.Key × V)} {x : Str} {v : V} (h : H a = some (.dK kvs)) (e : valV kvs (.inr x) = some v) (q : Q v H) : GG (.ref a) (.str x) H Q := ⟨a, v, rfl, by rw [← e]; exact DGet.k (k := .inr x) h, q⟩
theorem rd_gn {a : Addr} {kvs : List (L2.Key × V)} {x : Str} (h : H a = some (.dK kvs)) (q : Q (.bl (!(valV kvs (.inr x)).isSome)) H) : GN (.str x) (.ref a) H Q := ⟨a, _, rfl, DGet.k (k := .inr x) h, q⟩
theorem rd_app1 {a : Addr} {xs : List V} {v : V} (h : H a = some (.lst xs)) (hl : xs.length < sizeLine) (q : ∀ H2, Fr [a] H H2 → Kp H H2 → H2 a = some (.lst (xs ++ [v])) → Q .non H2) : rAppend (.ref a) [v] H Q :=
  ⟨a, xs, v, rfl, rfl, h, hl, q _ ((Fr.refl [a] H).put (by simp)) (((Fr.refl [a] H).put (by simp)).kpL h) upd_same⟩
end
theorem Fr.kpM {M : List Addr} {H H1 : Hp} (h : Fr M H H1) (n : ∀ a ∈ M, ∃ o, H a = some o ∧ (∀ xs, o ≠ .tup xs) ∧ ∀ xs ob, o ≠ .frz ob (.tup xs)) : Kp H H1 := fun a ys s => by
  have key : ∀ o, H a = some o → ((∃ xs, o = .tup xs) ∨ ∃ xs ob, o = .frz ob (.tup xs)) → a ∉ M := fun o e c z => by
    obtain ⟨o2, e2, n1, n2⟩ := n a z
    rw [e] at e2; cases e2
    rcases c with ⟨xs, rfl⟩ | ⟨xs, ob, rfl⟩
    · exact n1 _ rfl
    · exact n2 _ _ rfl
  rcases s with s | ⟨o, s⟩
  · exact .inl (h.at s (key _ s (.inl ⟨_, rfl⟩)))
  · exact .inr ⟨o, h.at s (key _ s (.inr ⟨_, _, rfl⟩))⟩
end Lf
namespace Lf
open PySem PySem.Spec PyProof.Rows L2
/-! ### how long the lists grow; the budget of a run -/
def lenT (s : Sta) : Nat := s.told.length + s.ents.length
section
variable {G : Str → Prop} {last : Str} {W M : Nat}
theorem goLap_len {g : Str} {body : Sta → Option Sta} (ht : ∀ s s2, s.turns ≤ M → body s = some s2 → s.turns ≤ s2.turns ∧ s2.turns ≤ M)
    (hb : ∀ s s2, s.turns ≤ M → body s = some s2 → lenT s2 + W * (M - s2.turns) ≤ lenT s + W + W * (M - s.turns)) :
    ∀ (f many : Nat) (s : Sta) (p : Sta × Nat), s.turns ≤ M → goLap M g body f many s = some p → lenT p.1 + W * (M - p.1.turns) ≤ lenT s + W * (M - s.turns)
  | 0, _, _, _, _, h => by simp [goLap] at h
  | f + 1, many, s, p, hs, h => by
    unfold goLap at h
    split at h
    · split at h
      · cases h
      · rename_i c3
        obtain ⟨s2, h1, h2⟩ := Option.bind_eq_some_iff.mp h
        have e : W * (M - s.turns) = W * (M - (s.turns + 1)) + W := by
          have : M - s.turns = (M - (s.turns + 1)) + 1 := by omega
          rw [this, Nat.mul_succ]
        have a := ht _ s2 (by show s.turns + 1 ≤ M; omega) h1
        have b : lenT s2 + W * (M - s2.turns) ≤ lenT s + W + W * (M - (s.turns + 1)) := hb _ s2 (by show s.turns + 1 ≤ M; omega) h1
        have c := goLap_len ht hb f (many + 1) s2 p a.2 h2
        omega
    · cases h
      exact Nat.le_refl _
mutual
theorem runS_len : ∀ (x : Sm) (pl : List Int) (s s2 : Sta), gdS G last W x → s.turns ≤ M → runS M x pl s = some s2 → lenT s2 + W * (M - s2.turns) ≤ lenT s + 1 + W * (M - s.turns)
  | .say e, pl, s, s2, hg, hs, h => by
    simp only [runS] at h; cases h
    simp only [lenT, List.length_append, List.length_cons, List.length_nil]; omega
  | .set x e, pl, s, s2, hg, hs, h => by
    simp only [runS] at h; cases h
    simp only [lenT]; omega
  | .lap g m r, pl, s, s2, hg, hs, h => by
    simp only [runS] at h
    obtain ⟨p, hp, rfl⟩ := Option.map_eq_some_iff.mp h
    have lw := hg.2.2.1
    have a := goLap_len (W := W) (fun s s2 a b => runL_turns r pl 0 s s2 a b) (fun s s2 a b => by
      have d := runL_len r pl 0 s s2 hg.2.2.2 a b
      omega) _ 0 s p hs hp
    simp only [lenT, List.length_append, List.length_cons, List.length_nil] at a ⊢
    omega
theorem runL_len : ∀ (r : List Sm) (pl : List Int) (k : Nat) (s s2 : Sta), gdL G last W r → s.turns ≤ M → runL M r pl k s = some s2 → lenT s2 + W * (M - s2.turns) ≤ lenT s + r.length + W * (M - s.turns)
  | [], pl, k, s, s2, hg, hs, h => by
    simp only [runL] at h; cases h
    exact Nat.le_refl _
  | x :: r, pl, k, s, s2, hg, hs, h => by
    simp only [runL] at h
    simp only [List.length_cons]
    obtain ⟨s1, h1, h2⟩ := Option.bind_eq_some_iff.mp h
    have a := runS_turns x _ s s1 hs h1
    have b := runS_len x _ s s1 hg.1 hs h1
    have c := runL_len r pl (k + 1) s1 s2 hg.2 a.2 h2
    omega
end
/-- what a run has left: names and lists stay small for c statements more -/
structure Ok (G : Str → Prop) (last : Str) (W M c : Nat) (s : Sta) : Prop where
  tu : s.turns ≤ M
  bd : ∃ n, Bd G last n s.ρ ∧ n + c + W * (M - s.turns) ≤ 33000
  le : lenT s + c + W * (M - s.turns) ≤ 33000
theorem Ok.less {c d : Nat} {s : Sta} (h : Ok G last W M c s) (hd : d ≤ c) : Ok G last W M d s := by
  obtain ⟨t, ⟨n, b, l⟩, e⟩ := h
  exact ⟨t, ⟨n, b, by omega⟩, by omega⟩
theorem Ok.bits {c : Nat} {s : Sta} (h : Ok G last W M c s) : ∃ b, 10 ≤ b ∧ b ≤ 100000 ∧ ∀ x, (s.ρ x).natAbs < 2 ^ b := by
  obtain ⟨t, ⟨n, b, l⟩, e⟩ := h
  exact ⟨41 + 3 * n, by omega, by omega, b.al⟩
theorem Ok.told {c : Nat} {s : Sta} (h : Ok G last W M c s) : s.told.length < sizeLine ∧ s.ents.length < sizeLine := by
  have := h.le
  unfold lenT at this
  rw [sizeLine_eq]
  omega
theorem Ok.stmt {c : Nat} {x : Sm} {pl : List Int} {s s2 : Sta} (h : Ok G last W M (c + 1) s) (g : gdS G last W x) (e : runS M x pl s = some s2) : Ok G last W M c s2 := by
  obtain ⟨t, ⟨n, b, l⟩, ll⟩ := h
  obtain ⟨n2, b2, l2⟩ := runS_bd x pl s s2 n g t b (by omega) e
  have l3 := runS_len x pl s s2 g t e
  exact ⟨(runS_turns x pl s s2 t e).2, ⟨n2, b2, by omega⟩, by omega⟩
theorem Ok.row {c : Nat} {r : List Sm} {pl : List Int} {k : Nat} {s s2 : Sta} (h : Ok G last W M (c + r.length) s) (g : gdL G last W r) (e : runL M r pl k s = some s2) : Ok G last W M c s2 := by
  obtain ⟨t, ⟨n, b, l⟩, ll⟩ := h
  obtain ⟨n2, b2, l2⟩ := runL_bd r pl k s s2 n g t b (by omega) e
  have l3 := runL_len r pl k s s2 g t e
  exact ⟨(runL_turns r pl k s s2 t e).2, ⟨n2, b2, by omega⟩, by omega⟩
/-- a turn is taken: W statements may follow -/
theorem Ok.turn {c : Nat} {s : Sta} {g : Str} (h : Ok G last W M c s) (hp : 0 < s.ρ g) (ht : s.turns ≠ M) : Ok G last W M (c + W) { s with turns := s.turns + 1, ρ := setN s.ρ g (s.ρ g - 1) } := by
  obtain ⟨t, ⟨n, b, l⟩, ll⟩ := h
  have e : W * (M - s.turns) = W * (M - (s.turns + 1)) + W := by
    have : M - s.turns = (M - (s.turns + 1)) + 1 := by omega
    rw [this, Nat.mul_succ]
  refine ⟨by show s.turns + 1 ≤ M; omega, ⟨n, b.tick hp, by show n + (c + W) + W * (M - (s.turns + 1)) ≤ 33000; omega⟩, ?_⟩
  show lenT s + (c + W) + W * (M - (s.turns + 1)) ≤ 33000
  omega
end
end Lf
namespace Lf
open PySem PySem.Spec PyProof.Rows L2
/-! ### the walk as it lies -/
theorem rd_forE {K : PySem.W.Frag} {σ : L2.St} {H : Hp} {D : Ends} {a : Addr} {g : TG} {tb : TS} (xs : List V) (Pv : Nat → L2.St → Hp → Prop) (h0 : Pv 0 σ H) (hl : ∀ k σ H, k ≤ xs.length → Pv k σ H → SqT K H a xs)
    (hs : ∀ k x σ H T H', xs[k]? = some x → Pv k σ H → Fr [] H H' → H' T = some (.tup [.int (k : Nat), x]) → g (.ref T) σ H' fun σ2 H2 => tb { D with nx := Pv (k + 1), ct := Pv (k + 1), bk := D.nx } σ2 H2)
    (hd : ∀ σ H, Pv xs.length σ H → D.nx σ H) : ForT (IteT K a) g tb D σ H := by
  refine ⟨fun i m σ H => m = xs.length - i ∧ i ≤ xs.length ∧ Pv i σ H, ⟨xs.length, by omega, Nat.zero_le _, h0⟩, fun i m σ H p => ?_⟩
  obtain ⟨hm, hi, p⟩ := p
  by_cases c : i = xs.length
  · subst c
    exact .inl ⟨⟨xs, hl _ _ _ (Nat.le_refl _) p, Nat.le_refl _⟩, hd _ _ p⟩
  · have lt : i < xs.length := by omega
    refine .inr ⟨⟨xs, xs[i], hl _ _ _ hi p, List.getElem?_eq_getElem lt⟩, Pv (i + 1), fun σ' H' q => ⟨xs.length - (i + 1), by omega, rfl, lt, q⟩, fun v H' y => ?_⟩
    obtain ⟨T, x, rfl, hT, rfl, hx⟩ := y
    exact hs i x σ H T _ (hx xs (hl _ _ _ hi p)) p ((Fr.refl [] H).new hT) upd_same
def EnT (K : PySem.W.Frag) (vs : List V) (H : Hp) (W : It → Hp → Prop) : Prop := ∃ a xs, vs = [.ref a] ∧ SqT K H a xs ∧ W (IteT K a) H
theorem rd_ienum {K : PySem.W.Frag} {σ : L2.St} {H : Hp} {ta : TA} {W : It → Hp → Prop} (q : ta σ H fun vs H1 => EnT K vs H1 W) : iEnumT K ta σ H W := q
theorem rd_ent {K : PySem.W.Frag} {H H0 : Hp} {a : Addr} {xs : List V} {W : It → Hp → Prop} (h : SqT K H0 a xs) (k : Kp H0 H) (q : W (IteT K a) H) : EnT K [.ref a] H W := ⟨a, xs, rfl, k.sq h, q⟩
theorem rd_whileF {σ : L2.St} {H : Hp} {D : Ends} {c : TT} {tb : TS} (W : Nat → L2.St → Hp → Prop) (m0 : Nat) (h0 : W m0 σ H)
    (hs : ∀ m σ H, W m σ H → c σ H fun b H1 => if b = true then ∃ N : L2.St → Hp → Prop, (∀ σ' H', N σ' H' → ∃ m', m' < m ∧ W m' σ' H') ∧ tb { D with nx := N, ct := N, bk := D.nx } σ H1 else D.nx σ H1) : tWhile c tb D σ H :=
  ⟨W, ⟨m0, h0⟩, hs⟩
def encN (x : List Int × Int × Int) : D := .tup [.tup (x.1.map D.int), .int x.2.1, .int x.2.2]
theorem val_some {kvs : List (L2.Key × V)} {x : Str} (nd : NmD kvs) (h : Sum.inr x ∈ kvs.map Prod.fst) : valV kvs (.inr x) = some (.int (nmOf kvs x)) := by
  have key : (valV kvs (.inr x)).isSome = true := by
    unfold valV
    rw [Option.isSome_map, List.find?_isSome]
    obtain ⟨kv, h1, h2⟩ := List.mem_map.mp h
    exact ⟨kv, h1, by simp [h2]⟩
  unfold nmOf
  cases e : valV kvs (.inr x) with
  | none => rw [e] at key; cases key
  | some v =>
    obtain ⟨i, rfl⟩ := nd x v e
    rfl
theorem nm_put {kvs : List (L2.Key × V)} {x : Str} {v : Int} (nd : NmD kvs) : NmD (putK kvs (.inr x) (.int v)) ∧ nmOf (putK kvs (.inr x) (.int v)) = setN (nmOf kvs) x v := by
  refine ⟨fun y u e => ?_, funext fun y => ?_⟩
  · rw [valV_put] at e
    split at e
    · cases e; exact ⟨v, rfl⟩
    · exact nd y u e
  · unfold nmOf setN
    rw [valV_put]
    by_cases c : y = x
    · subst c
      rw [if_pos rfl, if_pos rfl]
    · rw [if_neg c, if_neg (by intro z; cases z; exact c rfl)]
theorem keys_put {kvs : List (L2.Key × V)} {x : Str} {v : V} (h : Sum.inr x ∈ kvs.map Prod.fst) : (putK kvs (.inr x) v).map Prod.fst = kvs.map Prod.fst := by
  unfold putK
  obtain ⟨kv, h1, h2⟩ := List.mem_map.mp h
  rw [if_pos (List.any_eq_true.mpr ⟨kv, h1, by simp [h2]⟩), List.map_map]
  refine List.map_congr_left fun p _ => ?_
  show (if p.1 = Sum.inr x then (p.1, v) else p).1 = p.1
  split <;> rfl
/-- class Walk and the error Dry, as the top has written them -/
structure WTxt (K : PySem.W.Frag) (C : Addr) : Prop where
  cl : Cls K C
  names : NoAttr K C "names"
  most : NoAttr K C "most"
  told : NoAttr K C "told"
  turns : NoAttr K C "turns"
  entries : NoAttr K C "entries"
structure WAt (K : PySem.W.Frag) (C p dx d t e : Addr) (M : Nat) (s : Sta) (ks : List L2.Key) (H : Hp) : Prop where
  ob : H p = some (.ins C dx (wf d t e M s.turns))
  di : ∃ kvs, H d = some (.dK kvs) ∧ NmD kvs ∧ nmOf kvs = s.ρ ∧ kvs.map Prod.fst = ks
  to : H t = some (.lst (s.told.map V.int))
  en : ∃ es, H e = some (.lst es) ∧ RpL K H (s.ents.map encN) es
  ne : t ≠ e
  kl : ks.length ≤ 20000
section
variable {K : PySem.W.Frag} {C p dx d t e : Addr} {M : Nat} {s : Sta} {ks : List L2.Key} {H H2 : Hp}
theorem WAt.apart (h : WAt K C p dx d t e M s ks H) : d ≠ p ∧ t ≠ p ∧ e ≠ p ∧ t ≠ d ∧ e ≠ d ∧ e ≠ t := by
  obtain ⟨ob, ⟨kvs, hd, _⟩, ht, ⟨es, he, _⟩, ne, _⟩ := h
  exact ⟨ne_of hd ob (by intro z; cases z), ne_of ht ob (by intro z; cases z), ne_of he ob (by intro z; cases z), ne_of ht hd (by intro z; cases z), ne_of he hd (by intro z; cases z), ne.symm⟩
theorem WAt.kp (h : WAt K C p dx d t e M s ks H) (f : Fr [p, d, t, e] H H2) : Kp H H2 := f.kpM fun a m => by
  obtain ⟨ob, ⟨kvs, hd, _⟩, ht, ⟨es, he, _⟩, ne, _⟩ := h
  have m' : a = p ∨ a = d ∨ a = t ∨ a = e := by simpa using m
  rcases m' with rfl | rfl | rfl | rfl
  · exact ⟨_, ob, (fun _ z => by cases z), (fun _ _ z => by cases z)⟩
  · exact ⟨_, hd, (fun _ z => by cases z), (fun _ _ z => by cases z)⟩
  · exact ⟨_, ht, (fun _ z => by cases z), (fun _ _ z => by cases z)⟩
  · exact ⟨_, he, (fun _ z => by cases z), (fun _ _ z => by cases z)⟩
theorem WAt.mono (h : WAt K C p dx d t e M s ks H) (f : Fr [] H H2) : WAt K C p dx d t e M s ks H2 := by
  obtain ⟨ob, ⟨kvs, hd, r⟩, ht, ⟨es, he, re⟩, ne, kl⟩ := h
  exact ⟨f.at ob, ⟨kvs, f.at hd, r⟩, f.at ht, ⟨es, f.at he, re.mono f.kp0⟩, ne, kl⟩
theorem WAt.say {v : Int} (h : WAt K C p dx d t e M s ks H) (f : Fr [t] H H2) (k : Kp H H2) (q : H2 t = some (.lst (s.told.map V.int ++ [.int v]))) : WAt K C p dx d t e M { s with told := s.told ++ [v] } ks H2 := by
  obtain ⟨n1, n2, n3, n4, n5, n6⟩ := h.apart
  obtain ⟨ob, ⟨kvs, hd, r⟩, ht, ⟨es, he, re⟩, ne, kl⟩ := h
  exact ⟨f.at1 ob n2.symm, ⟨kvs, f.at1 hd n4.symm, r⟩, by rw [q]; simp, ⟨es, f.at1 he n6, re.mono k⟩, ne, kl⟩
theorem WAt.ent {x : List Int × Int × Int} {es : List V} {u : V} (h : WAt K C p dx d t e M s ks H) (he : H e = some (.lst es)) (he2 : RpL K H (s.ents.map encN) es) (f : Fr [e] H H2) (k : Kp H H2) (q : H2 e = some (.lst (es ++ [u]))) (hu : Rp K H2 (encN x) u) :
    WAt K C p dx d t e M { s with ents := s.ents ++ [x] } ks H2 := by
  obtain ⟨n1, n2, n3, n4, n5, n6⟩ := h.apart
  obtain ⟨ob, ⟨kvs, hd, r⟩, ht, _, ne, kl⟩ := h
  refine ⟨f.at1 ob n3.symm, ⟨kvs, f.at1 hd n5.symm, r⟩, f.at1 ht n6.symm, ⟨_, q, ?_⟩, ne, kl⟩
  have app : ∀ {ds : List D} {vs : List V}, RpL K H2 ds vs → RpL K H2 (ds ++ [encN x]) (vs ++ [u]) := by
    intro ds
    induction ds with
    | nil =>
      intro vs z
      cases (show vs = [] from z)
      exact ⟨u, [], rfl, hu, rfl⟩
    | cons dd ds ih =>
      intro vs z
      obtain ⟨v, r, rfl, z1, z2⟩ := z
      exact ⟨v, _, rfl, z1, ih z2⟩
  show RpL K H2 ((s.ents ++ [x]).map encN) _
  rw [List.map_append]
  exact app (he2.mono k)
theorem WAt.put {kvs : List (L2.Key × V)} {x : Str} {v : Int} (h : WAt K C p dx d t e M s ks H) (hd : H d = some (.dK kvs)) (hx : Sum.inr x ∈ ks) : WAt K C p dx d t e M { s with ρ := setN s.ρ x v } ks (upd H d (.dK (putK kvs (.inr x) (.int v)))) := by
  obtain ⟨n1, n2, n3, n4, n5, n6⟩ := h.apart
  have hW := h
  obtain ⟨ob, ⟨kvs', hd', nd, hρ, hk⟩, ht, ⟨es, he, re⟩, ne, kl⟩ := h
  rw [hd] at hd'; cases hd'
  obtain ⟨z1, z2⟩ := nm_put (x := x) (v := v) nd
  have f : Fr [p, d, t, e] H (upd H d (.dK (putK kvs (.inr x) (.int v)))) := (Fr.refl _ H).put (by simp)
  refine ⟨by rw [upd_ne n1.symm]; exact ob, ⟨_, upd_same, z1, by rw [z2, hρ], by rw [keys_put (by rw [hk]; exact hx), hk]⟩, by rw [upd_ne n4]; exact ht, ⟨es, by rw [upd_ne n5]; exact he, re.mono (hW.kp f)⟩, ne, kl⟩
theorem WAt.turn {n : Nat} (h : WAt K C p dx d t e M s ks H) : WAt K C p dx d t e M { s with turns := n } ks (upd H p (.ins C dx (putF "turns" (.int (n : Int)) (wf d t e M s.turns)))) := by
  obtain ⟨n1, n2, n3, n4, n5, n6⟩ := h.apart
  have hW := h
  obtain ⟨ob, ⟨kvs, hd, r⟩, ht, ⟨es, he, re⟩, ne, kl⟩ := h
  have f : Fr [p, d, t, e] H (upd H p (.ins C dx (putF "turns" (.int (n : Int)) (wf d t e M s.turns)))) := (Fr.refl _ H).put (by simp)
  exact ⟨by rw [upd_same]; rfl, ⟨kvs, by rw [upd_ne n1]; exact hd, r⟩, by rw [upd_ne n2]; exact ht, ⟨es, by rw [upd_ne n3]; exact he, re.mono (hW.kp f)⟩, ne, kl⟩
end
/-! names that a row sets, guards among them -/
mutual
def setS : Sm → List Str
  | .say _ => []
  | .set x _ => [x]
  | .lap g _ r => g :: setL r
def setL : List Sm → List Str
  | [] => []
  | s :: r => setS s ++ setL r
end
mutual
theorem setS_found : ∀ (s : Sm) (x : Str), x ∈ setS s → x ∈ foundS s
  | .say _, x, h => by simp [setS] at h
  | .set y e, x, h => by simp [setS] at h; subst h; simp [foundS]
  | .lap g m r, x, h => by
    rcases List.mem_cons.mp h with h | h
    · subst h; simp [foundS]
    · simp only [foundS, List.cons_append, List.mem_cons, List.mem_append]
      exact .inr (.inr (mem_srt.mpr (setL_found r x h)))
theorem setL_found : ∀ (r : List Sm) (x : Str), x ∈ setL r → x ∈ foundL r
  | [], x, h => by simp [setL] at h
  | s :: r, x, h => by
    simp only [setL, List.mem_append] at h
    simp only [foundL, List.mem_append]
    rcases h with h | h
    · exact .inl (setS_found s x h)
    · exact .inr (setL_found r x h)
end
end Lf
namespace Lf
open PySem PySem.Spec PyProof.Rows L2
def spLap (K : PySem.W.Frag) (C DC : Addr) (n : Nat) : Sp := fun vs H Q E => ∃ G last M p dx d t e v g m r plv pl s ks, vs = [.ref p, v, plv] ∧ depL r < n ∧ gdS G last 6 (.lap g m r) ∧ Rp K H (encS (.lap g m r)) v ∧ Rp K H (.tup (pl.map D.int)) plv ∧
  WAt K C p dx d t e M s ks H ∧ Sum.inr g ∈ ks ∧ (∀ x ∈ setL r, Sum.inr x ∈ ks) ∧ Ok G last 6 M 1 s ∧ pl.length + n ≤ 50 ∧
  (∀ s2, runS M (.lap g m r) pl s = some s2 → ∀ H2, Fr [p, d, t, e] H H2 → WAt K C p dx d t e M s2 ks H2 → Q .non H2) ∧
  (runS M (.lap g m r) pl s = none → ∀ H2, Fr [p, d, t, e] H H2 → E (.ref DC) none H2)
def spRow (K : PySem.W.Frag) (C DC : Addr) (n : Nat) : Sp := fun vs H Q E => ∃ G last M p dx d t e v r plv pl s ks, vs = [.ref p, v, plv] ∧ depL r < n ∧ gdL G last 6 r ∧ Rp K H (encR r) v ∧ Rp K H (.tup (pl.map D.int)) plv ∧
  WAt K C p dx d t e M s ks H ∧ (∀ x ∈ setL r, Sum.inr x ∈ ks) ∧ Ok G last 6 M r.length s ∧ pl.length + n ≤ 50 ∧
  (∀ s2, runL M r pl 0 s = some s2 → ∀ H2, Fr [p, d, t, e] H H2 → WAt K C p dx d t e M s2 ks H2 → Q .non H2) ∧
  (runL M r pl 0 s = none → ∀ H2, Fr [p, d, t, e] H H2 → E (.ref DC) none H2)
/-- H2 keeps all but what lies at the walk -/
theorem fr4 {p d t e a : Addr} {H H2 : Hp} (f : Fr [a] H H2) (h : a ∈ [p, d, t, e]) : Fr [p, d, t, e] H H2 := f.wk fun b z => by
  rw [List.mem_singleton.mp z]; exact h
section
variable {P : Program} {w : World} {K : PySem.W.Frag} {mg : Str → Option Value} {base : Heap} {C DC : Addr}
abbrev s_Walk_lap : Stmt := inClass (top 11) 2
abbrev N_Walk_lap : List Str := ["self", "one", "place", "guard", "measure", "many"]
theorem sc_Walk_lap : FnScope N_Walk_lap ["self", "one", "place"] (defScope s_Walk_lap) := ⟨rfl, rfl, rfl, by decide +kernel, rfl, by decide +kernel, by decide +kernel⟩
theorem ok_lap1 (T : Blt mg) (n k : Nat) (hk : 4 ≤ k) (W : WTxt K C) (X_Dry : ErrTxt K mg "Dry" DC) (F : HereM K C "lap" "Walk.lap" s_Walk_lap ["self", "one", "place"]) (D_reckoned : DefOk P w K mg base CX0 "reckoned" ["part", "names"] 4 (spReck K 4))
    (D_Walk_row : MethOk P w K mg base (L2.CX P w) C "row" ["self", "row", "place"] k (spRow K C DC n)) : MethOk P w K mg base (L2.CX P w) C "lap" ["self", "one", "place"] (k + 1) (spLap K C DC n) := by
  refine F.okX sc_Walk_lap (fun vs H Q E h => ?_) (fun f cdv A outer s H vs Q E hr h => ?_)
  · obtain ⟨_, _, _, _, _, _, _, _, _, _, _, _, _, _, _, _, rfl, _⟩ := h; rfl
  obtain ⟨G, last, M, p, dx, d, t, e, v, g, m, r, plv, pl, s0, ks, rfl, hd, hg, hv, hpl, hW, hgk, hks, hO, hlen, qs, qe⟩ := h
  have hu64 := hr.units
  have hu : (cxOf (L2.CX P w) P w K mg base N_Walk_lap "Walk.lap" (defScope s_Walk_lap) f cdv A outer s H E).A.units + 1 < cLine := by
    have := hr.units
    show (A.deeper _).units + 1 < cLine
    omega
  have hr_reckoned := hr.mono (j := 4) (by omega)
  have hr_Walk_row := hr.mono (j := k) (by omega)
  have CL_Walk := W.cl
  refine ⟨_, (pss_cons (ps_set (i := 3) sc_Walk_lap.nd rfl (Or.inl rfl) (pe_ix ix_seq (pv 1) pe_int (fun _ _ => rfl)))
    (pss_cons (ps_set (i := 4) sc_Walk_lap.nd rfl (Or.inl rfl) (pe_callD D_reckoned hr_reckoned pass0 (pa_cons (pe_ix ix_seq (pv 1) pe_int (fun _ _ => rfl)) (pa_cons (pe_fld (pv 0) rfl) pa_nil))))
    (pss_cons (ps_set (i := 5) sc_Walk_lap.nd rfl (Or.inl rfl) pe_int)
    (pss_cons (ps_while (passes_of rfl) (pt_cmpR op_gt (pe_dget2 hu (pe_fld (pv 0) rfl) (pv 3) pe_int ⟨rfl, rfl, rfl, rfl⟩) pe_int (nomark _))
    (pss_cons (ps_if (pt_cmpR (op_eqA hu64) (pe_fld (pv 0) rfl) (pe_fld (pv 0) rfl) (nomark _))
    (pss_one (ps_raise rfl (takes_of rfl rfl rfl rfl) (pmk_own PySem.F.excBase_ValueError X_Dry.x X_Dry.g X_Dry.k (raises_own X_Dry.b X_Dry.t) rfl)))
    pss_nil)
    (pss_cons (ps_fld (pv 0) (pe_op op_plus (pe_fld (pv 0) rfl) pe_int) rfl)
    (pss_cons (ps_set (i := 5) sc_Walk_lap.nd rfl (Or.inl rfl) (pe_op op_plus (pv 5) pe_int))
    (pss_cons (ps_dput hu (pe_fld (pv 0) rfl) (pv 3) (pe_op op_sub (pe_dget hu (pe_fld (pv 0) rfl) (pv 3) (fun _ _ => rfl)) pe_int) rfl)
    (pss_one (ps_expr (pe_methD CL_Walk D_Walk_row hr_Walk_row (passes_call (takes_of rfl rfl rfl rfl) (fun _ _ _ _ h => h)) (pv 0) (pa_cons (pe_ix ix_seq (pv 1) pe_int (fun _ _ => rfl)) (pa_cons (pv 2) pa_nil))))))))))
    (pss_one (ps_expr (pe_bm PySem.F.plainAttrs_list PySem.F.slot_list_append PySem.F.type_list_append mt_append (pe_fld (pv 0) rfl) (pa_cons (pe_tup (pa_cons (pv 2) (pa_cons (pv 4) (pa_cons (pv 5) pa_nil)))) pa_nil)))))))), ?_⟩
  obtain ⟨a1, _, rfl, hT1, _, _, rfl, rfl, _, _, rfl, rfl, v1, _, rfl, h1, v2, _, rfl, h2, rfl⟩ := hv
  obtain ⟨kvs, hD, nd, hρ, hkk⟩ := hW.di
  obtain ⟨b, b1, b2, b3⟩ := hO.bits
  walk_at "rx"
  refine rd_fld ?_
  walk_at "rx"
  refine rd_gf W.cl W.names hW.ob wf_names ?_
  walk_at "rx"
  refine ⟨_, d, m, kvs, b, rfl, hg.1, by omega, hg.2.1, h1, hD, nd, b1, b2, by rw [hρ]; exact b3, fun H2 f2 => ?_⟩
  rw [hρ]
  walk_at "rx"
  refine rd_whileF (fun fu σ H' => ∃ s' many, σ = [some (.ref p), some (.ref a1), some plv, some (.str g), some (.int (evE s0.ρ m)), some (.int (many : Nat))] ∧ Fr [p, d, t, e] H H' ∧ WAt K C p dx d t e M s' ks H' ∧ Ok G last 6 M 1 s' ∧ M + 1 ≤ fu + s'.turns ∧
    goLap M g (fun s => runL M r pl 0 s) fu many s' = goLap M g (fun s => runL M r pl 0 s) (M + 1 - s0.turns) 0 s0) (M + 1 - s0.turns) ⟨s0, 0, rfl, f2.nil, hW.mono f2, hO, by omega, rfl⟩ fun fu σ H' hσ => ?_
  obtain ⟨s', many, rfl, f', hW', hO', hfu, hgo⟩ := hσ
  obtain ⟨kvs', hD', nd', hρ', hkk'⟩ := hW'.di
  have tu' := hO'.tu
  walk_at "rx"
  refine rd_dget2 ?_
  refine rd_fld ?_
  walk_at "rx"
  refine rd_gf W.cl W.names hW'.ob wf_names ?_
  refine rd_gd hD' ?_
  walk_at "rx"
  refine rd_gde hD' nd' ?_
  rw [hρ']
  walk_at "rx"
  obtain ⟨fu, rfl⟩ : ∃ j, fu = j + 1 := ⟨fu - 1, by omega⟩
  by_cases c : 0 < s'.ρ g
  · refine ifT (by simpa using c) ?_
    refine ⟨_, fun σ' H' q => ⟨fu, Nat.lt_succ_self _, q⟩, ?_⟩
    walk_at "rx"
    refine rd_fld ?_
    walk_at "rx"
    refine rd_gf W.cl W.turns hW'.ob wf_turns ?_
    refine rd_fld ?_
    walk_at "rx"
    refine rd_gf W.cl W.most hW'.ob wf_most ?_
    walk_at "rx"
    by_cases c2 : s'.turns = M
    · refine ifT (by simp [c2]) ?_
      refine qe ?_ H' f'
      simp only [runS]
      rw [← hgo]
      simp only [goLap, if_pos c, if_pos c2, Option.map_none]
    · refine ifF (by simp only [decide_eq_false_iff_not]; intro z; have q := congrArg (fun v : V => match v with | .int i => i | _ => 0) z; have q2 : ((s'.turns : Nat) : Int) = (M : Int) := q; exact c2 (by omega)) ?_
      walk_at "rx"
      refine rd_sfld ?_
      walk_at "rx"
      refine rd_fld ?_
      walk_at "rx"
      refine rd_gf W.cl W.turns hW'.ob wf_turns ?_
      walk_at "rx"
      refine rd_gs W.cl W.turns hW'.ob (by show 5 < 1000; decide) ?_
      have hW2 := hW'.turn (n := s'.turns + 1)
      have f3 : Fr [p, d, t, e] H' (upd H' p (.ins C dx (putF "turns" (.int ((s'.turns + 1 : Nat) : Int)) (wf d t e M s'.turns)))) := (Fr.refl _ H').put (by simp)
      obtain ⟨kvs2, hD2, nd2, hρ2, hkk2⟩ := hW2.di
      have e1 : (s'.turns : Int) + 1 = ((s'.turns + 1 : Nat) : Int) := by omega
      rw [e1]
      generalize upd H' p (.ins C dx (putF "turns" (.int ((s'.turns + 1 : Nat) : Int)) (wf d t e M s'.turns))) = H3 at hW2 hD2 f3 ⊢
      walk_at "rx"
      refine rd_dput ?_
      walk_at "rx"
      refine rd_dget ?_
      refine rd_fld ?_
      walk_at "rx"
      refine rd_gf W.cl W.names hW2.ob wf_names ?_
      walk_at "rx"
      refine rd_gg hD2 (val_some nd2 (by rw [hkk2]; exact hgk)) ?_
      walk_at "rx"
      refine rd_fld ?_
      walk_at "rx"
      refine rd_gf W.cl W.names hW2.ob wf_names ?_
      walk_at "rx"
      have kl2 : kvs2.length < sizeLine := by
        have := hW2.kl
        rw [← hkk2, List.length_map] at this
        rw [sizeLine_eq]; omega
      refine rd_gp hD2 kl2 ?_
      rw [hρ2]
      have hW3 := hW2.put (x := g) (v := s'.ρ g - 1) hD2 hgk
      have f4 : Fr [p, d, t, e] H3 (upd H3 d (.dK (putK kvs2 (.inr g) (.int (s'.ρ g - 1))))) := (Fr.refl _ H3).put (by simp)
      have f5 := (f'.trans f3).trans f4
      show _
      generalize upd H3 d (.dK (putK kvs2 (.inr g) (.int (s'.ρ g - 1)))) = H4 at hW3 f4 f5 ⊢
      have kp5 := hW.kp f5
      walk_at "rx"
      refine rd_meth ?_
      walk_at "rx"
      refine rd_gm hW3.ob wf_row ?_
      walk_at "rx"
      have hO3 := hO'.turn c c2
      have lw : r.length ≤ 6 := hg.2.2.1
      refine ⟨G, last, M, p, dx, d, t, e, _, r, _, pl, _, ks, rfl, hd, hg.2.2.2, h2.mono kp5, hpl.mono kp5, hW3, hks, hO3.less (by omega), hlen, fun s2 e2 H5 f6 hW5 => ?_, fun e2 H5 f6 => ?_⟩
      · walk_at "rx"
        refine ⟨s2, many + 1, ?_, f5.trans f6, hW5, (hO3.less (d := 1 + r.length) (by omega)).row hg.2.2.2 e2, ?_, ?_⟩
        · simp
        · have := (runL_turns r pl 0 _ s2 (by show s'.turns + 1 ≤ M; omega) e2).1
          have this : s'.turns + 1 ≤ s2.turns := this
          omega
        · rw [← hgo]
          conv => rhs; unfold goLap
          rw [if_pos c, if_neg c2]
          show _ = Option.bind (runL M r pl 0 _) _
          rw [e2]; rfl
      · refine qe ?_ H5 (f5.trans f6)
        simp only [runS]
        rw [← hgo]
        unfold goLap
        rw [if_pos c, if_neg c2]
        show Option.map _ (Option.bind (runL M r pl 0 _) _) = none
        rw [e2]; rfl
  · refine ifF (by simpa using c) ?_
    walk_at "rx"
    refine rd_fld ?_
    walk_at "rx"
    refine rd_gf W.cl W.entries hW'.ob wf_entries ?_
    obtain ⟨es, he, hes⟩ := hW'.en
    refine rd_tyL he ?_
    walk_at "rx"
    refine rd_newT (by simp) fun q H3 nq f3 eq3 => ?_
    walk_at "rx"
    have hW3 := hW'.mono f3
    have kp3 := (hW.kp f').trans f3.kp0
    refine rd_app1 (f3.at he) (by have := hO'.told.2; have l2 := RpL.length hes; rw [List.length_map] at l2; omega) fun H4 f4 k4 e4 => ?_
    walk_at "rx"
    have hu4 : Rp K H4 (encN (pl, evE s0.ρ m, (many : Int))) (.ref q) := by
      refine ⟨q, _, rfl, k4.sq (SqT.of eq3), plv, _, rfl, hpl.mono (kp3.trans k4), _, _, rfl, rfl, _, _, rfl, rfl, rfl⟩
    refine qs { s' with ents := s'.ents ++ [(pl, evE s0.ρ m, (many : Int))] } ?_ H4 ((f'.trans f3.nil).trans (fr4 f4 (by simp))) (hW3.ent (f3.at he) (hes.mono f3.kp0) f4 k4 e4 hu4)
    simp only [runS]
    rw [← hgo]
    simp only [goLap, if_neg c, Option.map_some]
end
end Lf
namespace Lf
open PySem PySem.Spec PyProof.Rows L2
theorem gd_at {G : Str → Prop} {last : Str} {W : Nat} : ∀ {r : List Sm} {i : Nat} {s : Sm}, gdL G last W r → r[i]? = some s → gdS G last W s
  | [], _, _, _, h => by simp at h
  | x :: r, 0, s, h, e => by
    simp at e; subst e; exact h.1
  | x :: r, i + 1, s, h, e => gd_at (r := r) h.2 (by simpa using e)
theorem set_at : ∀ {r : List Sm} {i : Nat} {s : Sm} {x : Str}, r[i]? = some s → x ∈ setS s → x ∈ setL r
  | [], _, _, _, h, _ => by simp at h
  | y :: r, 0, s, x, e, h => by
    simp at e; subst e
    exact List.mem_append.mpr (.inl h)
  | y :: r, i + 1, s, x, e, h => List.mem_append.mpr (.inr (set_at (r := r) (by simpa using e) h))
theorem rpl_ints {K : PySem.W.Frag} {H : Hp} : ∀ {l : List Int} {vs : List V}, RpL K H (l.map D.int) vs → vs = l.map V.int
  | [], vs, h => h
  | i :: l, vs, h => by
    obtain ⟨v, r, rfl, h1, h2⟩ := h
    cases (show v = .int i from h1)
    rw [rpl_ints (l := l) h2]; rfl
theorem ints_rpl {K : PySem.W.Frag} {H : Hp} : ∀ {l : List Int}, RpL K H (l.map D.int) (l.map V.int)
  | [] => rfl
  | i :: l => ⟨.int i, _, rfl, rfl, ints_rpl⟩
section
variable {P : Program} {w : World} {K : PySem.W.Frag} {mg : Str → Option Value} {base : Heap} {C DC : Addr}
abbrev s_Walk_row : Stmt := inClass (top 11) 1
abbrev N_Walk_row : List Str := ["self", "row", "place", "k", "one"]
theorem sc_Walk_row : FnScope N_Walk_row ["self", "row", "place"] (defScope s_Walk_row) := ⟨rfl, rfl, rfl, by decide +kernel, rfl, by decide +kernel, by decide +kernel⟩
theorem ok_row1 (T : Blt mg) (n k : Nat) (hk : 4 ≤ k) (W : WTxt K C) (F : HereM K C "row" "Walk.row" s_Walk_row ["self", "row", "place"]) (D_reckoned : DefOk P w K mg base CX0 "reckoned" ["part", "names"] 4 (spReck K 4))
    (D_Walk_lap : MethOk P w K mg base (L2.CX P w) C "lap" ["self", "one", "place"] k (spLap K C DC n)) : MethOk P w K mg base (L2.CX P w) C "row" ["self", "row", "place"] (k + 1) (spRow K C DC (n + 1)) := by
  refine F.okX sc_Walk_row (fun vs H Q E h => ?_) (fun f cdv A outer s H vs Q E hr h => ?_)
  · obtain ⟨_, _, _, _, _, _, _, _, _, _, _, _, _, _, rfl, _⟩ := h; rfl
  obtain ⟨G, last, M, p, dx, d, t, e, v, r, plv, pl, s0, ks, rfl, hd, hg, hv, hpl, hW, hks, hO, hlen, qs, qe⟩ := h
  have hu64 := hr.units
  have hu : (cxOf (L2.CX P w) P w K mg base N_Walk_row "Walk.row" (defScope s_Walk_row) f cdv A outer s H E).A.units + 1 < cLine := by
    have := hr.units
    show (A.deeper _).units + 1 < cLine
    omega
  have hr_reckoned := hr.mono (j := 4) (by omega)
  have hr_Walk_lap := hr.mono (j := k) (by omega)
  have CL_Walk := W.cl
  refine ⟨_, (pss_one (ps_for (passes_of rfl) rfl (pi_enumT (by rfl) T.n_enumerate (pa_cons (pe_ix ix_seq (pv 1) pe_int (fun _ _ => rfl)) pa_nil)) (pg_tup (by rfl) (pgs_cons (pg_name (i := 3) sc_Walk_row.nd rfl (Or.inl rfl)) (pgs_cons (pg_name (i := 4) sc_Walk_row.nd rfl (Or.inl rfl)) pgs_nil)))
    (pss_one (ps_if (pt_cmpR (op_eqA hu64) (pe_ix ix_seq (pv 4) pe_int (fun _ _ => rfl)) pe_str (nomark _))
    (pss_one (ps_expr (pe_bm PySem.F.plainAttrs_list PySem.F.slot_list_append PySem.F.type_list_append mt_append (pe_fld (pv 0) rfl) (pa_cons (pe_callD D_reckoned hr_reckoned pass0 (pa_cons (pe_ix ix_seq (pv 4) pe_int (fun _ _ => rfl)) (pa_cons (pe_fld (pv 0) rfl) pa_nil))) pa_nil))))
    (pss_one (ps_if (pt_cmpR (op_eqA hu64) (pe_ix ix_seq (pv 4) pe_int (fun _ _ => rfl)) pe_str (nomark _))
    (pss_one (ps_dput hu (pe_fld (pv 0) rfl) (pe_ix ix_seq (pv 4) pe_int (fun _ _ => rfl)) (pe_callD D_reckoned hr_reckoned pass0 (pa_cons (pe_ix ix_seq (pv 4) pe_int (fun _ _ => rfl)) (pa_cons (pe_fld (pv 0) rfl) pa_nil))) rfl))
    (pss_one (ps_expr (pe_methD CL_Walk D_Walk_lap hr_Walk_lap (passes_call (takes_of rfl rfl rfl rfl) (fun _ _ _ _ h => h)) (pv 0) (pa_cons (pv 4) (pa_cons (pe_op op_plus (pv 2) (pe_tup (pa_cons (pv 3) pa_nil))) pa_nil))))))))))), ?_⟩
  obtain ⟨a, _, rfl, hT, _, _, rfl, rfl, _, _, rfl, ⟨ut, us, rfl, hU, hL⟩, rfl⟩ := hv
  obtain ⟨pa, pvs, rfl, hP, hPL⟩ := hpl
  have ul : us.length = r.length := by have := RpL.length hL; rw [this, encL_len]
  have epv := rpl_ints hPL
  walk_at "rx"
  refine rd_ienum ?_
  walk_at "rx"
  refine rd_ent hU (Kp.refl _) ?_
  refine rd_forE us (fun i σ H' => ∃ s' o1 o2, σ = [some (.ref p), some (.ref a), some (.ref pa), o1, o2] ∧ Fr [p, d, t, e] H H' ∧ WAt K C p dx d t e M s' ks H' ∧ Ok G last 6 M (r.length - i) s' ∧ runL M (r.drop i) pl i s' = runL M r pl 0 s0)
    ⟨s0, none, none, rfl, Fr.refl _ _, hW, hO, rfl⟩ (fun i σ H' _ ⟨_, _, _, _, f', hW', _⟩ => (hW.kp f').sq hU) (fun i x σ H' T1 H1 hx hσ f1 eT => ?_) (fun σ H' hσ => ?_)
  · obtain ⟨s', o1, o2, rfl, f', hW', hO', hrun⟩ := hσ
    obtain ⟨sm, hsm, hv⟩ := encL_at hL hx
    have kp1 := (hW.kp f').trans f1.kp0
    have hv := hv.mono kp1
    have hW1 := hW'.mono f1
    have f2 := f'.trans f1.nil
    have gsm := gd_at hg hsm
    have dsm := dep_at hsm
    have lt : i < r.length := (List.getElem?_eq_some_iff.mp hsm).1
    have edr : r.drop i = sm :: r.drop (i + 1) := by
      rw [List.drop_eq_getElem_cons lt, (List.getElem?_eq_some_iff.mp hsm).2]
    rw [edr] at hrun
    simp only [runL] at hrun
    have hO2 : Ok G last 6 M ((r.length - (i + 1)) + 1) s' := hO'.less (by omega)
    obtain ⟨kvs, hD, nd, hρ, hkk⟩ := hW1.di
    obtain ⟨b, b1, b2, b3⟩ := hO'.bits
    cases sm with
    | say ex =>
      obtain ⟨a1, _, rfl, hT1, _, _, rfl, rfl, v1, _, rfl, h1, rfl⟩ := hv
      walk_at "rx"
      refine rd_fld ?_
      walk_at "rx"
      refine rd_gf W.cl W.told hW1.ob wf_told ?_
      refine rd_tyL hW1.to ?_
      walk_at "rx"
      refine rd_fld ?_
      walk_at "rx"
      refine rd_gf W.cl W.names hW1.ob wf_names ?_
      walk_at "rx"
      refine ⟨_, d, ex, kvs, b, rfl, gsm.1, by omega, gsm.2, h1, hD, nd, b1, b2, by rw [hρ]; exact b3, fun H2 g2 => ?_⟩
      rw [hρ]
      walk_at "rx"
      have hW2 := hW1.mono g2
      refine rd_app1 hW2.to (by rw [List.length_map]; exact hO'.told.1) fun H3 g3 k3 e3 => ?_
      walk_at "rx"
      refine ⟨{ s' with told := s'.told ++ [evE s'.ρ ex] }, _, _, rfl, (f2.trans g2.nil).trans (fr4 g3 (by simp)), hW2.say g3 k3 e3, hO2.stmt gsm (pl := pl ++ [(i : Int)]) rfl, hrun⟩
    | set y ex =>
      obtain ⟨a1, _, rfl, hT1, _, _, rfl, rfl, _, _, rfl, rfl, v1, _, rfl, h1, rfl⟩ := hv
      walk_at "rx"
      refine rd_dput ?_
      walk_at "rx"
      refine rd_fld ?_
      walk_at "rx"
      refine rd_gf W.cl W.names hW1.ob wf_names ?_
      walk_at "rx"
      refine ⟨_, d, ex, kvs, b, rfl, gsm.1, by omega, gsm.2.1, h1, hD, nd, b1, b2, by rw [hρ]; exact b3, fun H2 g2 => ?_⟩
      rw [hρ]
      have hW2 := hW1.mono g2
      obtain ⟨kvs2, hD2, nd2, hρ2, hkk2⟩ := hW2.di
      refine rd_fld ?_
      walk_at "rx"
      refine rd_gf W.cl W.names hW2.ob wf_names ?_
      walk_at "rx"
      have kl2 : kvs2.length < sizeLine := by
        have := hW2.kl
        rw [← hkk2, List.length_map] at this
        rw [sizeLine_eq]; omega
      refine rd_gp hD2 kl2 ?_
      have hW3 := hW2.put (x := y) (v := evE s'.ρ ex) hD2 (hks y (set_at hsm (by simp [setS])))
      have f4 : Fr [p, d, t, e] H2 (upd H2 d (.dK (putK kvs2 (.inr y) (.int (evE s'.ρ ex))))) := (Fr.refl _ H2).put (by simp)
      walk_at "rx"
      exact ⟨_, _, _, rfl, (f2.trans g2.nil).trans f4, hW3, hO2.stmt gsm (pl := pl ++ [(i : Int)]) rfl, hrun⟩
    | lap g m z =>
      simp only [depS] at dsm
      have hvk := hv
      obtain ⟨a1, _, rfl, hT1, _, _, rfl, rfl, _, _, rfl, rfl, v1, _, rfl, h1, v2, _, rfl, h2, rfl⟩ := hv
      walk_at "rx"
      refine rd_meth ?_
      walk_at "rx"
      refine rd_gm hW1.ob wf_lap ?_
      walk_at "rx"
      refine rd_newT (by simp) fun q H2 nq g2 eq2 => ?_
      have kp2 := kp1.trans g2.kp0
      refine rd_plusT (kp2.sq hP) (SqT.of eq2) (by rw [epv, sizeLine_eq]; simp only [List.length_map, List.length_cons, List.length_nil]; omega) fun q3 H3 g3 s3 => ?_
      walk_at "rx"
      have hW3 := (hW1.mono g2).mono g3
      have f5 := (f2.trans g2.nil).trans g3.nil
      have kp3 := kp2.trans g3.kp0
      have hpl3 : Rp K H3 (.tup ((pl ++ [(i : Int)]).map D.int)) (.ref q3) := by
        refine ⟨q3, _, rfl, s3, ?_⟩
        rw [epv]
        have := ints_rpl (K := K) (H := H3) (l := pl ++ [(i : Int)])
        rw [List.map_append (f := V.int)] at this
        exact this
      refine ⟨G, last, M, p, dx, d, t, e, _, g, m, z, _, pl ++ [(i : Int)], s', ks, rfl, by omega, gsm, (hvk.mono g2.kp0).mono g3.kp0, hpl3, hW3, hks g (set_at hsm (by simp [setS])), fun x hx => hks x (set_at hsm (by simp [setS, hx])), hO2.less (by omega), by simp only [List.length_append, List.length_cons, List.length_nil]; omega,
        fun s2 e2 H4 f6 hW4 => ?_, fun e2 H4 f6 => ?_⟩
      · walk_at "rx"
        rw [e2, Option.bind_some] at hrun
        exact ⟨s2, _, _, rfl, f5.trans f6, hW4, hO2.stmt gsm e2, hrun⟩
      · rw [e2] at hrun
        exact qe hrun.symm H4 (f5.trans f6)
  · obtain ⟨s', o1, o2, rfl, f', hW', hO', hrun⟩ := hσ
    rw [ul, List.drop_length] at hrun
    exact qs s' hrun.symm H' f' hW'
theorem ok_row (T : Blt mg) (W : WTxt K C) (X_Dry : ErrTxt K mg "Dry" DC) (FR : HereM K C "row" "Walk.row" s_Walk_row ["self", "row", "place"]) (FL : HereM K C "lap" "Walk.lap" s_Walk_lap ["self", "one", "place"])
    (D_reckoned : DefOk P w K mg base CX0 "reckoned" ["part", "names"] 4 (spReck K 4)) : ∀ n, MethOk P w K mg base (L2.CX P w) C "row" ["self", "row", "place"] (2 * n + 6) (spRow K C DC n)
  | 0 => (FR.none sc_Walk_row fun vs H Q E h => by obtain ⟨_, _, _, _, _, _, _, _, _, _, _, _, _, _, _, h, _⟩ := h; omega).mono (by omega)
  | n + 1 => ok_row1 T n (2 * n + 7) (by omega) W FR D_reckoned (ok_lap1 T n (2 * n + 6) (by omega) W X_Dry FL D_reckoned (ok_row T W X_Dry FR FL D_reckoned n))
end
end Lf
namespace Lf
open PySem PySem.Spec PyProof.Rows L2
/-! ### names that aren't there are nought -/
def addN (kvs : List (L2.Key × V)) (x : Str) : List (L2.Key × V) := if (valV kvs (.inr x)).isSome = true then kvs else putK kvs (.inr x) (.int 0)
def addAll (kvs : List (L2.Key × V)) (ms : List Str) : List (L2.Key × V) := ms.foldl addN kvs
theorem valV_none_keys {kvs : List (L2.Key × V)} {k : L2.Key} (h : valV kvs k = none) : k ∉ kvs.map Prod.fst := fun z => by
  obtain ⟨kv, h1, h2⟩ := List.mem_map.mp z
  have q : (valV kvs k).isSome = true := by
    unfold valV
    rw [Option.isSome_map, List.find?_isSome]
    exact ⟨kv, h1, by simp [h2]⟩
  rw [h] at q; cases q
theorem valV_some_keys {kvs : List (L2.Key × V)} {k : L2.Key} (h : (valV kvs k).isSome = true) : k ∈ kvs.map Prod.fst := by
  unfold valV at h
  rw [Option.isSome_map, List.find?_isSome] at h
  obtain ⟨kv, h1, h2⟩ := h
  exact List.mem_map.mpr ⟨kv, h1, by simpa using h2⟩
theorem addN_spec {kvs : List (L2.Key × V)} {x : Str} (nd : NmD kvs) : NmD (addN kvs x) ∧ nmOf (addN kvs x) = nmOf kvs ∧ (addN kvs x).length ≤ kvs.length + 1 ∧ Sum.inr x ∈ (addN kvs x).map Prod.fst ∧ (∀ k ∈ kvs.map Prod.fst, k ∈ (addN kvs x).map Prod.fst) := by
  unfold addN
  split
  · rename_i c
    exact ⟨nd, rfl, by omega, valV_some_keys c, fun k h => h⟩
  · rename_i c
    have e : valV kvs (.inr x) = none := by
      cases q : valV kvs (.inr x) with
      | none => rfl
      | some v => rw [q] at c; exact absurd rfl c
    obtain ⟨z1, z2⟩ := nm_put (x := x) (v := 0) nd
    refine ⟨z1, ?_, length_putK _ _ _, ?_, fun k h => ?_⟩
    · rw [z2]
      funext y
      unfold setN
      split
      · rename_i c2; subst c2
        unfold nmOf; rw [e]
      · rfl
    · rw [putK_new _ e]; simp
    · rw [putK_new _ e, List.map_append]; exact List.mem_append.mpr (.inl h)
theorem addAll_spec : ∀ (ms : List Str) {kvs : List (L2.Key × V)}, NmD kvs → NmD (addAll kvs ms) ∧ nmOf (addAll kvs ms) = nmOf kvs ∧ (addAll kvs ms).length ≤ kvs.length + ms.length ∧ (∀ x ∈ ms, Sum.inr x ∈ (addAll kvs ms).map Prod.fst) ∧ (∀ k ∈ kvs.map Prod.fst, k ∈ (addAll kvs ms).map Prod.fst)
  | [], kvs, nd => ⟨nd, rfl, by simp [addAll], (fun x h => by cases h), fun k h => h⟩
  | m :: ms, kvs, nd => by
    obtain ⟨a1, a2, a3, a4, a5⟩ := addN_spec (x := m) nd
    obtain ⟨b1, b2, b3, b4, b5⟩ := addAll_spec ms a1
    have e : addAll kvs (m :: ms) = addAll (addN kvs m) ms := rfl
    rw [e]
    refine ⟨b1, by rw [b2, a2], by simp only [List.length_cons]; omega, fun x h => ?_, fun k h => b5 k (a5 k h)⟩
    rcases List.mem_cons.mp h with h | h
    · subst h; exact b5 _ a4
    · exact b4 x h
def spInit (C : Addr) : Sp := fun vs H Q _ => ∃ p dx nd M kvs, vs = [.ref p, .ref nd, .int M] ∧ H p = some (.ins C dx []) ∧ H nd = some (.dK kvs) ∧ ∀ d t e H', Fr [p] H H' → H d = none → H t = none → H e = none →
  H' p = some (.ins C dx (wf d t e M 0)) → H' d = some (.dK kvs) → H' t = some (.lst []) → H' e = some (.lst []) → t ≠ e → Q .non H'
def spRan (K : PySem.W.Frag) (DC : Addr) : Sp := fun vs H Q E => ∃ G last M v r nd kvs0, vs = [v, .ref nd, .int ((M : Nat) : Int)] ∧ depL r < 4 ∧ okL r ∧ cntL r ≤ 200 ∧ gdL G last 6 r ∧ Rp K H (encR r) v ∧ H nd = some (.dK kvs0) ∧ NmD kvs0 ∧ kvs0.length ≤ 10000 ∧
  (∃ n, Bd G last n (nmOf kvs0) ∧ n + r.length + 6 * M ≤ 33000) ∧
  (∀ s2, runL M r [] 0 (at0 (nmOf kvs0)) = some s2 → ∀ q t d e kvs es H2, Fr [] H H2 → H q = none → H d = none → H t = none → H e = none → t ≠ e → H2 q = some (.tup [.ref t, .ref d, .int s2.turns, .ref e]) → H2 d = some (.dK kvs) → NmD kvs → nmOf kvs = s2.ρ → kvs.map Prod.fst = (addAll kvs0 (srt (foundL r))).map Prod.fst →
    H2 t = some (.lst (s2.told.map V.int)) → H2 e = some (.lst es) → RpL K H2 (s2.ents.map encN) es → Q (.ref q) H2) ∧
  (runL M r [] 0 (at0 (nmOf kvs0)) = none → ∀ H2, Fr [] H H2 → E (.ref DC) none H2)
theorem fr_new2 {H : Hp} {x dx : Addr} {o u : HO} (h1 : H x = none) (h2 : H dx = none) : Fr [] H (upd (upd H dx u) x o) := ((Fr.refl [] H).mut h2).mut h1
section
variable {P : Program} {w : World} {K : PySem.W.Frag} {mg : Str → Option Value} {base : Heap} {C DC : Addr}
abbrev s_Walk___init__ : Stmt := inClass (top 11) 0
abbrev N_Walk___init__ : List Str := ["self", "names", "most"]
theorem sc_Walk___init__ : FnScope N_Walk___init__ ["self", "names", "most"] (defScope s_Walk___init__) := ⟨rfl, rfl, rfl, by decide +kernel, rfl, by decide +kernel, by decide +kernel⟩
theorem ok_init (T : Blt mg) (W : WTxt K C) (F : HereI K mg C "Walk" "Walk.__init__" s_Walk___init__ ["self", "names", "most"]) : MakeOk P w K mg base CX0 C "Walk" ["self", "names", "most"] 1 (spInit C) := by
  refine F.ok sc_Walk___init__ (fun vs H Q E h => ?_) (fun f cdv A outer s H vs Q E hr h => ?_)
  · obtain ⟨_, _, _, _, _, rfl, _⟩ := h; rfl
  obtain ⟨p, dx, nd, M, kvs, rfl, hp, hnd, q⟩ := h
  refine ⟨_, (pss_cons (ps_fld (pv 0) (pe_callTy call_dictD (by rfl) T.n_dict (by decide +kernel) (pa_cons (pv 1) pa_nil)) rfl)
    (pss_cons (ps_fld (pv 0) (pv 2) rfl)
    (pss_cons (ps_fld (pv 0) (pe_lst pa_nil) rfl)
    (pss_cons (ps_fld (pv 0) pe_int rfl)
    (pss_one (ps_fld (pv 0) (pe_lst pa_nil) rfl)))))), ?_⟩
  walk_at "rx"
  refine rd_sfld ?_
  walk_at "rx"
  refine ⟨nd, kvs, rfl, .inl hnd, fun d hd => ?_⟩
  walk_at "rx"
  have npd : p ≠ d := ne_of_none hp hd
  have p1 : upd H d (.dK kvs) p = some (.ins C dx []) := by rw [upd_ne npd]; exact hp
  refine rd_gs W.cl W.names p1 (by decide) ?_
  have d1 : upd (upd H d (.dK kvs)) p (.ins C dx (putF "names" (.ref d) [])) d = some (.dK kvs) := by rw [upd_ne npd.symm, upd_same]
  have f1 : Fr [p] H (upd (upd H d (.dK kvs)) p (.ins C dx (putF "names" (.ref d) []))) := ((Fr.refl [p] H).new hd).put (by simp)
  have p2 : upd (upd H d (.dK kvs)) p (.ins C dx (putF "names" (.ref d) [])) p = some (.ins C dx (putF "names" (.ref d) [])) := upd_same
  generalize upd (upd H d (.dK kvs)) p (.ins C dx (putF "names" (.ref d) [])) = H1 at d1 f1 p2 ⊢
  walk_at "rx"
  refine rd_sfld ?_
  walk_at "rx"
  refine rd_gs W.cl W.most p2 (by show 1 < 1000; decide) ?_
  have p3 : upd H1 p (.ins C dx (putF "most" (.int M) (putF "names" (.ref d) []))) p = some (.ins C dx (putF "most" (.int M) (putF "names" (.ref d) []))) := upd_same
  have d2 : upd H1 p (.ins C dx (putF "most" (.int M) (putF "names" (.ref d) []))) d = some (.dK kvs) := by rw [upd_ne npd.symm]; exact d1
  have f2 : Fr [p] H (upd H1 p (.ins C dx (putF "most" (.int M) (putF "names" (.ref d) [])))) := f1.put (by simp)
  generalize upd H1 p (.ins C dx (putF "most" (.int M) (putF "names" (.ref d) []))) = H2 at p3 d2 f2 ⊢
  walk_at "rx"
  refine rd_sfld ?_
  walk_at "rx"
  refine rd_newL (by simp) fun t H3 nt g3 et => ?_
  walk_at "rx"
  have npt : p ≠ t := ne_of_none p3 nt
  have ndt : d ≠ t := ne_of_none d2 nt
  refine rd_gs W.cl W.told (g3.at p3) (by show 2 < 1000; decide) ?_
  have p4 : upd H3 p (.ins C dx (putF "told" (.ref t) (putF "most" (.int M) (putF "names" (.ref d) [])))) p = some (.ins C dx (putF "told" (.ref t) (putF "most" (.int M) (putF "names" (.ref d) [])))) := upd_same
  have d3 : upd H3 p (.ins C dx (putF "told" (.ref t) (putF "most" (.int M) (putF "names" (.ref d) [])))) d = some (.dK kvs) := by rw [upd_ne npd.symm]; exact g3.at d2
  have t3 : upd H3 p (.ins C dx (putF "told" (.ref t) (putF "most" (.int M) (putF "names" (.ref d) [])))) t = some (.lst []) := by rw [upd_ne npt.symm]; exact et
  have f3 : Fr [p] H (upd H3 p (.ins C dx (putF "told" (.ref t) (putF "most" (.int M) (putF "names" (.ref d) []))))) := (f2.trans g3.nil).put (by simp)
  have ht : H t = none := f2.freeM nt (by simpa using npt.symm)
  generalize upd H3 p (.ins C dx (putF "told" (.ref t) (putF "most" (.int M) (putF "names" (.ref d) [])))) = H4 at p4 d3 t3 f3 ⊢
  walk_at "rx"
  refine rd_sfld ?_
  walk_at "rx"
  refine rd_gs W.cl W.turns p4 (by show 3 < 1000; decide) ?_
  have p5 : upd H4 p (.ins C dx (putF "turns" (.int 0) (putF "told" (.ref t) (putF "most" (.int M) (putF "names" (.ref d) []))))) p = some (.ins C dx (putF "turns" (.int 0) (putF "told" (.ref t) (putF "most" (.int M) (putF "names" (.ref d) []))))) := upd_same
  have d4 : upd H4 p (.ins C dx (putF "turns" (.int 0) (putF "told" (.ref t) (putF "most" (.int M) (putF "names" (.ref d) []))))) d = some (.dK kvs) := by rw [upd_ne npd.symm]; exact d3
  have t4 : upd H4 p (.ins C dx (putF "turns" (.int 0) (putF "told" (.ref t) (putF "most" (.int M) (putF "names" (.ref d) []))))) t = some (.lst []) := by rw [upd_ne npt.symm]; exact t3
  have f4 : Fr [p] H (upd H4 p (.ins C dx (putF "turns" (.int 0) (putF "told" (.ref t) (putF "most" (.int M) (putF "names" (.ref d) [])))))) := f3.put (by simp)
  generalize upd H4 p (.ins C dx (putF "turns" (.int 0) (putF "told" (.ref t) (putF "most" (.int M) (putF "names" (.ref d) []))))) = H5 at p5 d4 t4 f4 ⊢
  walk_at "rx"
  dsimp only
  refine rd_sfld ?_
  walk_at "rx"
  refine rd_newL (by simp) fun e H6 ne g6 ee => ?_
  walk_at "rx"
  have npe : p ≠ e := ne_of_none p5 ne
  refine rd_gs W.cl W.entries (g6.at p5) (by show 4 < 1000; decide) ?_
  refine q d t e _ ((f4.trans g6.nil).put (by simp)) hd ht (f4.freeM ne (by simpa using npe.symm)) (by rw [upd_same]; rfl) (by rw [upd_ne npd.symm]; exact g6.at d4) (by rw [upd_ne npt.symm]; exact g6.at t4) (by rw [upd_ne npe.symm]; exact ee) (ne_of_none t4 ne)
abbrev s_ran : Stmt := top 12
abbrev N_ran : List Str := ["program", "names", "most", "walk", "name"]
theorem sc_ran : FnScope N_ran ["program", "names", "most"] (defScope s_ran) := ⟨rfl, rfl, rfl, by decide +kernel, rfl, by decide +kernel, by decide +kernel⟩
theorem ok_ran (T : Blt mg) (W : WTxt K C) (F : Here K mg "ran" s_ran ["program", "names", "most"]) (M_Walk : MakeOk P w K mg base CX0 C "Walk" ["self", "names", "most"] 1 (spInit C)) (D_names_of : DefOk P w K mg base CX0 "names_of" ["row"] 9 (spNames K 4))
    (D_Walk_row : MethOk P w K mg base (L2.CX P w) C "row" ["self", "row", "place"] 14 (spRow K C DC 4)) : DefOk P w K mg base (L2.CX P w) "ran" ["program", "names", "most"] 15 (spRan K DC) := by
  refine F.okX sc_ran (fun vs H Q E h => ?_) (fun f cdv A outer s H vs Q E hr h => ?_)
  · obtain ⟨_, _, _, _, _, _, _, rfl, _⟩ := h; rfl
  obtain ⟨G, last, M, v, r, nd, kvs0, rfl, hd, ho, hc, hg, hv, hnd, hnm, hkl, ⟨n0, hB, hn0⟩, qs, qe⟩ := h
  have hu64 := hr.units
  have hu : (cxOf (L2.CX P w) P w K mg base N_ran "ran" (defScope s_ran) f cdv A outer s H E).A.units + 1 < cLine := by
    have := hr.units
    show (A.deeper _).units + 1 < cLine
    omega
  have hr_Walk___init__ := hr.mono (j := 2) (by omega)
  have hr_names_of := hr.mono (j := 9) (by omega)
  have hr_Walk_row := hr.mono (j := 14) (by omega)
  have CL_Walk := W.cl
  refine ⟨_, (pss_cons (ps_set (i := 3) sc_ran.nd rfl (Or.inl rfl) (pe_makeD M_Walk hr_Walk___init__ pass0 (pa_cons (pv 1) (pa_cons (pv 2) pa_nil))))
    (pss_cons (ps_for (passes_of rfl) rfl (pi_list (pe_callD D_names_of hr_names_of pass0 (pa_cons (pv 0) pa_nil))) (pg_name (i := 4) sc_ran.nd rfl (Or.inl rfl))
    (pss_one (ps_if (pt_cmp (pc_dnotin hu (pv 4) (pe_fld (pv 3) rfl)))
    (pss_one (ps_dput hu (pe_fld (pv 3) rfl) (pv 4) pe_int rfl))
    pss_nil)))
    (pss_cons (ps_expr (pe_methD CL_Walk D_Walk_row hr_Walk_row (passes_call (takes_of rfl rfl rfl rfl) (fun _ _ _ _ h => h)) (pv 3) (pa_cons (pv 0) (pa_cons (pe_tup pa_nil) pa_nil))))
    (pss_one (ps_ret (pe_tup (pa_cons (pe_fld (pv 3) rfl) (pa_cons (pe_fld (pv 3) rfl) (pa_cons (pe_fld (pv 3) rfl) (pa_cons (pe_fld (pv 3) rfl) pa_nil)))))))))), ?_⟩
  walk_at "rx"
  refine rd_make ?_
  walk_at "rx"
  intro p dx np ndx nex
  have fm := fr_new2 (o := .ins C dx []) (u := .own p) np ndx
  have ep : upd (upd H dx (.own p)) p (.ins C dx []) p = some (.ins C dx []) := upd_same
  generalize upd (upd H dx (.own p)) p (.ins C dx []) = H0 at fm ep ⊢
  refine ⟨p, dx, nd, _, kvs0, rfl, ep, fm.at hnd, fun d t e H1 f1 nd1 nt1 ne1 p1 d1 t1 e1 nte => ⟨rfl, ?_⟩⟩
  have f1 := fm.then1 f1 np
  have fd : H d = none := fm.free nd1
  have ft : H t = none := fm.free nt1
  have fe : H e = none := fm.free ne1
  walk_at "rx"
  refine ⟨_, r, rfl, hd, ho, hc, hv.mono f1.kp0, fun l H2 nl k2 f2 el => ?_⟩
  walk_at "rx"
  obtain ⟨a1, a2, a3, a4, a5⟩ := addAll_spec (srt (foundL r)) hnm
  have sl := srt_len (foundL r)
  have fl := foundL_len ho
  have cnt : ∀ i, (addAll kvs0 ((srt (foundL r)).take i)).length ≤ 20000 ∧ NmD (addAll kvs0 ((srt (foundL r)).take i)) := fun i => by
    obtain ⟨b1, b2, b3, b4, b5⟩ := addAll_spec ((srt (foundL r)).take i) hnm
    refine ⟨?_, b1⟩
    have : ((srt (foundL r)).take i).length ≤ (srt (foundL r)).length := by rw [List.length_take]; omega
    omega
  refine rd_forL ((srt (foundL r)).map V.str) (fun i σ H' => ∃ u, σ = [some v, some (.ref nd), some (.int ((M : Nat) : Int)), some (.ref p), u] ∧ Fr [d] H2 H' ∧ H' d = some (.dK (addAll kvs0 ((srt (foundL r)).take i)))) ⟨none, rfl, Fr.refl _ _, f2.at d1⟩
    (fun i σ H' _ ⟨_, _, f', d'⟩ => SqL.of (f'.at el (by simpa using ne_of el (f2.at d1) (by intro z; cases z)))) (fun i x σ H' hx hσ => ?_) (fun σ H' hσ => ?_)
  · obtain ⟨u, rfl, f', d'⟩ := hσ
    rw [List.getElem?_map, Option.map_eq_some_iff] at hx
    obtain ⟨y, hy, rfl⟩ := hx
    have ty : (srt (foundL r)).take (i + 1) = (srt (foundL r)).take i ++ [y] := by rw [List.take_add_one, hy]; rfl
    have ey : addAll kvs0 ((srt (foundL r)).take (i + 1)) = addN (addAll kvs0 ((srt (foundL r)).take i)) y := by rw [ty]; unfold addAll; rw [List.foldl_append]; rfl
    have p' : H' p = some (.ins C dx (wf d t e M 0)) := f'.at (f2.at p1) (by simpa using ne_of (f2.at p1) (f2.at d1) (by intro z; cases z))
    walk_at "rx"
    refine rd_dnin ?_
    walk_at "rx"
    refine rd_fld ?_
    walk_at "rx"
    refine rd_gf W.cl W.names p' wf_names ?_
    refine rd_gn d' ?_
    by_cases c : (valV (addAll kvs0 ((srt (foundL r)).take i)) (.inr y)).isSome = true
    · refine ⟨_, rfl, ?_⟩
      refine ifF (by rw [c]; rfl) ?_
      walk_at "rx"
      refine ⟨_, rfl, f', ?_⟩
      rw [ey]; unfold addN; rw [if_pos c]; exact d'
    · refine ⟨_, rfl, ?_⟩
      refine ifT (by simp only [Bool.not_eq_true] at c; rw [c]; rfl) ?_
      walk_at "rx"
      refine rd_dput ?_
      walk_at "rx"
      refine rd_fld ?_
      walk_at "rx"
      refine rd_gf W.cl W.names p' wf_names ?_
      walk_at "rx"
      refine rd_gp d' (by have := (cnt i).1; rw [sizeLine_eq]; omega) ?_
      walk_at "rx"
      refine ⟨_, rfl, f'.put (by simp), ?_⟩
      rw [upd_same, ey]; unfold addN; rw [if_neg c]
  · obtain ⟨u, rfl, f', d'⟩ := hσ
    rw [List.length_map, List.take_length] at d'
    have kp' : Kp H2 H' := f'.kpM fun a m => by
      rw [List.mem_singleton.mp m]
      exact ⟨_, f2.at d1, (fun _ z => by cases z), (fun _ _ z => by cases z)⟩
    have fH : Fr [] H H' := ((f1.trans f2).nil (M := [d]) |>.trans f').drop fd
    have p' : H' p = some (.ins C dx (wf d t e M 0)) := f'.at (f2.at p1) (by simpa using ne_of (f2.at p1) (f2.at d1) (by intro z; cases z))
    have t' : H' t = some (.lst []) := f'.at (f2.at t1) (by simpa using ne_of (f2.at t1) (f2.at d1) (by intro z; cases z))
    have e' : H' e = some (.lst []) := f'.at (f2.at e1) (by simpa using ne_of (f2.at e1) (f2.at d1) (by intro z; cases z))
    walk_at "rx"
    refine rd_meth ?_
    walk_at "rx"
    refine rd_gm p' wf_row ?_
    walk_at "rx"
    refine rd_newT (by simp) fun z H3 nz f3 ez => ?_
    walk_at "rx"
    have hW : WAt K C p dx d t e M (at0 (nmOf kvs0)) ((addAll kvs0 (srt (foundL r))).map Prod.fst) H3 := ⟨f3.at p', ⟨_, f3.at d', a1, a2, rfl⟩, f3.at t', ⟨[], f3.at e', rfl⟩, nte, by rw [List.length_map]; omega⟩
    have fH3 := fH.trans f3
    refine ⟨G, last, M, p, dx, d, t, e, v, r, _, [], at0 (nmOf kvs0), _, rfl, hd, hg, hv.mono fH3.kp0, ⟨z, _, rfl, SqT.of ez, rfl⟩, hW, fun x hx => a4 x (mem_srt.mpr (setL_found r x hx)), ⟨Nat.zero_le _, ⟨n0, hB, by show n0 + r.length + 6 * (M - 0) ≤ 33000; omega⟩, by show 0 + 0 + r.length + 6 * (M - 0) ≤ 33000; omega⟩, by simp,
      fun s2 e2 H4 f4 hW4 => ?_, fun e2 H4 f4 => ?_⟩
    · have fH4 : Fr [] H H4 := fH3.then f4 (by simp only [List.mem_cons, List.not_mem_nil, or_false, forall_eq_or_imp, forall_eq]; exact ⟨np, fd, ft, fe⟩)
      obtain ⟨kvs, hD, nd', hρ, hk⟩ := hW4.di
      obtain ⟨es, he, hes⟩ := hW4.en
      walk_at "rx"
      refine rd_fld ?_
      walk_at "rx"
      refine rd_gf W.cl W.told hW4.ob wf_told ?_
      walk_at "rx"
      refine rd_fld ?_
      walk_at "rx"
      refine rd_gf W.cl W.names hW4.ob wf_names ?_
      walk_at "rx"
      refine rd_fld ?_
      walk_at "rx"
      refine rd_gf W.cl W.turns hW4.ob wf_turns ?_
      walk_at "rx"
      refine rd_fld ?_
      walk_at "rx"
      refine rd_gf W.cl W.entries hW4.ob wf_entries ?_
      walk_at "rx"
      refine rd_newT (by simp) fun q H5 nq f5 eq => ?_
      walk_at "rx"
      exact qs s2 e2 q t d e kvs es H5 (fH4.trans f5) (fH4.free nq) fd ft fe hW4.ne eq (f5.at hD) nd' hρ hk (f5.at hW4.to) (f5.at he) (hes.mono f5.kp0)
    · refine qe e2 H4 (fH3.then f4 ?_)
      simp only [List.mem_cons, List.not_mem_nil, or_false, forall_eq_or_imp, forall_eq]
      exact ⟨np, fd, ft, fe⟩
end
end Lf
namespace Lf
open PySem PySem.Spec PyProof.Rows L2
/-! ### the law's drawing: h = [int, cells, int], any cells -/
/-- h stands, its cells at c; n cells -/
structure HAt (H : Hp) (h c : Addr) (n : Nat) : Prop where
  ne : h ≠ c
  ex : ∃ (x k : Int) (cells : List Int), H h = some (.lst [.int x, .ref c, .int k]) ∧ H c = some (.lst (cells.map V.int)) ∧ 0 ≤ k ∧ cells.length = n
def spNext (n : Nat) : Sp := fun vs H Q _ => ∃ h c m, vs = [.ref h, .int m] ∧ 0 < m ∧ m < 2 ^ 64 ∧ HAt H h c n ∧ ∀ r H2, 0 ≤ r → r < m → Fr [h, c] H H2 → HAt H2 h c n → Q (.int r) H2
theorem HAt.kp {H H1 : Hp} {h c : Addr} {n : Nat} (a : HAt H h c n) (f : Fr [h, c] H H1) : Kp H H1 := by
  obtain ⟨_, x, k, cells, eh, ec, _⟩ := a
  exact f.kpL2 eh ec
theorem HAt.mono {H H1 : Hp} {h c : Addr} {n : Nat} (a : HAt H h c n) (f : Fr [] H H1) : HAt H1 h c n := by
  obtain ⟨ne, x, k, cells, eh, ec, r⟩ := a
  exact ⟨ne, x, k, cells, f.at eh, f.at ec, r⟩
/-- another list changes -/
theorem HAt.mono1 {H H1 : Hp} {h c l : Addr} {n : Nat} (a : HAt H h c n) (f : Fr [l] H H1) (nh : l ≠ h) (nc : l ≠ c) : HAt H1 h c n := by
  obtain ⟨ne, x, k, cells, eh, ec, r⟩ := a
  exact ⟨ne, x, k, cells, f.at eh (by simpa using Ne.symm nh), f.at ec (by simpa using Ne.symm nc), r⟩
theorem HAt.new {H : Hp} {h c l : Addr} {n : Nat} (a : HAt H h c n) (e : H l = none) : l ≠ h ∧ l ≠ c := by
  obtain ⟨ne, x, k, cells, eh, ec, r⟩ := a
  exact ⟨(ne_of_none eh e).symm, (ne_of_none ec e).symm⟩
theorem atI_in {vs : List V} {i : Int} (h0 : 0 ≤ i) (h : i < (vs.length : Int)) : ∃ v, v ∈ vs ∧ atI vs i = some v := by
  have hk : i.toNat < vs.length := by omega
  refine ⟨vs[i.toNat], List.getElem_mem hk, ?_⟩
  have e : i = ((i.toNat : Nat) : Int) := by omega
  have q : atI vs ((i.toNat : Nat) : Int) = some vs[i.toNat] := atI_nat (List.getElem?_eq_getElem hk)
  rw [← e] at q
  exact q
theorem atI_mem {cells : List Int} {i : Int} (h0 : 0 ≤ i) (h : i < (cells.length : Int)) : ∃ v : Int, v ∈ cells ∧ atI (cells.map V.int) i = some (.int v) := by
  have hk : i.toNat < cells.length := by omega
  refine ⟨cells[i.toNat], List.getElem_mem hk, ?_⟩
  have e : i = ((i.toNat : Nat) : Int) := by omega
  have q : atI (cells.map V.int) ((i.toNat : Nat) : Int) = some (.int cells[i.toNat]) := atI_nat (by rw [List.getElem?_map, List.getElem?_eq_getElem hk]; rfl)
  rw [← e] at q
  exact q
theorem atI_ints {cells : List Int} {i : Int} (h0 : 0 ≤ i) (h : i < (cells.length : Int)) : ∃ v : Int, atI (cells.map V.int) i = some (.int v) := by
  obtain ⟨v, _, q⟩ := atI_mem h0 h; exact ⟨v, q⟩
theorem ixN_in {n : Nat} {i : Int} (h0 : 0 ≤ i) (h : i < (n : Int)) : ixN n i = some i.toNat := by
  unfold ixN; rw [if_pos h0, if_pos h]
theorem dp_ints {K : PySem.W.Frag} {H : Hp} : ∀ (cells : List Int), DpAll K H (cells.map V.int) (cells.map PyData.int)
  | [] => .nil
  | _ :: r => .cons (.int _) (dp_ints r)
theorem canLay_ints : ∀ (cells : List Int), PyData.canLayAll0 (cells.map PyData.int) = true
  | [] => rfl
  | _ :: r => by simp [PyData.canLayAll0, PyData.canLay0, canLay_ints r]
theorem depth_ints : ∀ (cells : List Int), PyData.depthAll (cells.map PyData.int) = 0
  | [] => rfl
  | _ :: r => by simp [PyData.depthAll, PyData.depth, depth_ints r]
theorem shaped_ints (cells : List Int) : SeqAt.shaped (.list (cells.map PyData.int)) = true := by
  simp [SeqAt.shaped, PyData.canLay0, canLay_ints, PyData.depth, depth_ints]
theorem eqv_nil (cells : List Int) : PyData.eqv (.list (cells.map PyData.int)) (.list []) = decide (cells = []) := by
  cases cells <;> simp [PyData.eqv, PyData.eqvAll]
theorem rd_neNilI {K : PySem.W.Frag} {H : Hp} {Q : VK} {a p : Addr} {cells : List Int} (h : SqL K H a (cells.map V.int)) (h2 : SqL K H p []) (q : Q (.bl (!decide (cells = []))) H) : rNeA K (.ref a) (.ref p) H Q :=
  rd_neD (.lst h (dp_ints cells)) (.lst h2 .nil) (shaped_ints cells) (shaped_ints []) (by rw [eqv_nil]; exact q)
theorem mod_pos (a : Int) {m : Int} (h : 0 < m) : 0 ≤ Int.fmod a m ∧ Int.fmod a m < m := by
  rw [Int.fmod_eq_emod_of_nonneg _ (by omega)]
  exact ⟨Int.emod_nonneg _ (by omega), Int.emod_lt_of_pos _ h⟩
section
variable {P : Program} {w : World} {K : PySem.W.Frag} {mg : Str → Option Value} {base : Heap}
abbrev s__law_next : Stmt := top 14
abbrev N__law_next : List Str := ["_law_h", "_law_many", "_law_at", "_law_cell"]
theorem sc__law_next : FnScope N__law_next ["_law_h", "_law_many"] (defScope s__law_next) := ⟨rfl, rfl, rfl, by decide +kernel, rfl, by decide +kernel, by decide +kernel⟩
theorem ok_next (n : Nat) (T : Blt mg) (F : Here K mg "_law_next" s__law_next ["_law_h", "_law_many"]) : DefOk P w K mg base CX0 "_law_next" ["_law_h", "_law_many"] 1 (spNext n) := by
  refine F.ok sc__law_next (fun vs H Q E h => ?_) (fun f cdv A outer s H vs Q E hr h => ?_)
  · obtain ⟨_, _, _, rfl, _⟩ := h; rfl
  obtain ⟨h, c, m, rfl, m0, m1, ⟨ne, x, k, cells, eh, ec, k0, el⟩, q⟩ := h
  have hu64 := hr.units
  refine ⟨_, (pss_cons (ps_set (i := 2) sc__law_next.nd rfl (Or.inl rfl) (pe_op op_modN (pe_ix ix_seq (pv 0) pe_int (fun _ _ => rfl)) (pe_callB (call_max2A rfl) (by rfl) T.n_max (by decide +kernel) (pa_cons pe_int (pa_cons (pe_callB call_lenA (by rfl) T.n_len PySem.boot_len (pa_cons (pe_ix ix_seq (pv 0) pe_int (fun _ _ => rfl)) pa_nil)) pa_nil)))))
    (pss_cons (ps_set (i := 3) sc__law_next.nd rfl (Or.inl rfl) (pe_ifExp (pt_cmpR (op_neA hu64) (pe_ix ix_seq (pv 0) pe_int (fun _ _ => rfl)) (pe_lst pa_nil) (nomark _)) (pe_ix ix_seq (pe_ix ix_seq (pv 0) pe_int (fun _ _ => rfl)) (pv 2) (fun _ _ => rfl)) pe_int))
    (pss_cons (ps_if (pt_cmpR op_ge (pv 3) (pe_op op_pow pe_int pe_int) (nomark _))
    (pss_cons (ps_asg (pe_op op_fdivW (pv 3) (pv 1)) (pg_sub (pe_ix ix_seq (pv 0) pe_int (fun _ _ => rfl)) (pv 2) set_list))
    (pss_one (ps_ret (pe_op op_modN (pv 3) (pv 1)))))
    pss_nil)
    (pss_cons (ps_asg (pe_op op_modN (pe_op op_plus (pe_op op_plus (pe_op op_timesA (pe_ix ix_seq (pv 0) pe_int (fun _ _ => rfl)) pe_int) (pe_op op_timesA (pv 3) pe_int)) pe_int) pe_int) (pg_sub (pv 0) pe_int set_list))
    (pss_cons (ps_asg (pe_op op_plus (pe_ix ix_seq (pv 0) pe_int (fun _ _ => rfl)) pe_int) (pg_sub (pv 0) pe_int set_list))
    (pss_one (ps_ret (pe_op op_modN (pe_op op_fdivW (pe_ix ix_seq (pv 0) pe_int (fun _ _ => rfl)) pe_int) (pv 1))))))))), ?_⟩
  have hlen : (((cells.map V.int).length : Nat) : Int) = (cells.length : Int) := by rw [List.length_map]
  with_reducible refine rd_seq ?_
  walk_at "rs"
  have hat := mod_pos k (m := if (((cells.map V.int).length : Nat) : Int) > 1 then (((cells.map V.int).length : Nat) : Int) else 1) (by split <;> omega)
  refine rd_I (by split <;> omega) ?_
  generalize he : Int.fmod k _ = i at hat ⊢
  walk_at "rs"
  with_reducible refine rd_seqc fun N hN => ?_
  -- the drawn cell is v; i lies in the cells where there are any
  have fin : ∀ (v : Int) (H1 : Hp), Fr [] H H1 → (cells = [] → v = 0) → N [some (.ref h), some (.int m), some (.int i), some (.int v)] H1 := by
    intro v H1 f1 hv
    refine hN _ _ ?_
    have eh1 := f1.at eh
    have ec1 := f1.at ec
    with_reducible refine rd_seqc fun N2 hN2 => ?_
    have two : N2 [some (.ref h), some (.int m), some (.int i), some (.int v)] H1 := by
      refine hN2 _ _ ?_
      walk_at "rh"
      refine rd_mulR (by decide) ?_
      walk_at "rh"
      refine rd_mulR (by decide) ?_
      walk_at "rh"
      refine rd_I (by decide) ?_
      walk_at "rh"
      refine rd_setL eh1 rfl fun H2 f2 _ e2 => ?_
      have ec2 : H2 c = some (.lst (cells.map V.int)) := f2.at ec1 (by simpa using Ne.symm ne)
      walk_at "rh"
      refine rd_setL e2 rfl fun H3 f3 _ e3 => ?_
      have ec3 : H3 c = some (.lst (cells.map V.int)) := f3.at ec2 (by simpa using Ne.symm ne)
      walk_at "rh"
      refine rd_I (wide_div (b := 10) (by decide) (by decide) (by decide) (by decide)) ?_
      walk_at "rh"
      refine rd_I (by omega) ?_
      walk_at "rh"
      have r := mod_pos ((Int.fmod (x * 48271 + v * 69621 + 11) 2147483647) / 7) m0
      refine q _ H3 r.1 r.2 (f1.nil.trans ((f2.wk (by simp)).trans (f3.wk (by simp)))) ⟨ne, _, k + 1, cells, e3, ec3, by omega, el⟩
    walk_at "rs"
    refine rd_I ⟨by decide, by decide, by decide⟩ ?_
    walk_at "rs"
    refine ite2 (fun hc => ?_) (fun _ => ?_)
    · have hv1 : (10 : Int) ^ (18 : Int).toNat ≤ v := of_decide_eq_true hc
      have hne : cells ≠ [] := fun e => by rw [hv e] at hv1; exact absurd hv1 (by decide)
      have hpos : 0 < cells.length := List.length_pos_iff.mpr hne
      have hi : 0 ≤ i ∧ i < (cells.length : Int) := by
        refine ⟨hat.1, ?_⟩
        have := hat.2
        rw [hlen] at this
        split at this <;> omega
      walk_at "rh"
      refine rd_I (wide_div (b := 64) m0 (by omega) (by decide) (by decide)) ?_
      walk_at "rh"
      refine rd_setL ec1 (ixN_in hi.1 (by rw [hlen]; exact hi.2)) fun H2 f2 _ e2 => ?_
      have eh2 : H2 h = some (.lst [.int x, .ref c, .int k]) := f2.at eh1 (by simpa using ne)
      walk_at "rh"
      refine rd_I (by omega) ?_
      walk_at "rh"
      have r := mod_pos v m0
      have hset : (cells.map V.int).set i.toNat (V.int (v / m)) = (cells.set i.toNat (v / m)).map V.int := by rw [List.map_set]
      refine q _ H2 r.1 r.2 (f1.nil.trans (f2.wk (by simp))) ⟨ne, x, k, cells.set i.toNat (v / m), eh2, by rw [e2, hset], k0, by rw [List.length_set]; exact el⟩
    · walk_at "rs"
      exact two
  walk_at "rs"
  refine rd_newL (by simp) fun p H1 fp f1 ep => ?_
  have ec1 := f1.at ec
  refine rd_neNilI (SqL.of ec1) (SqL.of ep) ?_
  walk_at "rs"
  refine ite2 (fun hc => ?_) (fun hc => ?_)
  · have hne : cells ≠ [] := by simpa using hc
    have hpos : 0 < cells.length := List.length_pos_iff.mpr hne
    obtain ⟨v, hv⟩ := atI_ints (cells := cells) hat.1 (by have := hat.2; rw [hlen] at this; split at this <;> omega)
    walk_at "rs"
    refine rd_ixH ec1 hv ?_
    walk_at "rs"
    exact fin v H1 f1 (fun e => absurd e hne)
  · have hne : cells = [] := by simpa using hc
    walk_at "rs"
    exact fin 0 H1 f1 (fun _ => rfl)
theorem c_next {n : Nat} {H : Hp} {h c : Addr} {m : Int} {Q : VK} {E : XK} (hat : HAt H h c n) (hm : 0 < m ∧ m < 2 ^ 64) (q : ∀ r H2, 0 ≤ r → r < m → Fr [h, c] H H2 → Kp H H2 → HAt H2 h c n → Q (.int r) H2) : spNext n ([.ref h, .int m] ++ []) H Q E :=
  ⟨h, c, m, rfl, hm.1, hm.2, hat, fun r H2 a b f g => q r H2 a b f (hat.kp f) g⟩
end
end Lf
local macro_rules | `(tactic| walk_at "ha") => `(tactic| first
  | assumption
  | ((refine' Lf.HAt.mono ?k3 ?k1); (case k1 => assumption); (case k3 => (walk_at "ha")))
  | ((refine' Lf.HAt.mono1 ?k3 ?k1 ?k4 ?k5); (case k1 => assumption); (case k4 => assumption); (case k5 => assumption); (case k3 => (walk_at "ha"))))
local macro_rules | `(tactic| walk_at "nx") => `(tactic| ((refine' Lf.c_next ?k1 ?k2 ?k3); (case k1 => (walk_at "ha")); (case k2 => decide)))
namespace Lf
open PySem PySem.Spec PyProof.Rows L2
/-! ### slices, joins, lists timed -/
def rSlAny (K : PySem.W.Frag) : V → Option Int → Option Int → Hp → VK → Prop := fun x lo hi H Q => rSlL K x lo hi H Q ∨ (rSlS x lo hi H Q ∨ rSlA K x lo hi H Q)
theorem sl_any {X : Cx} : SlR X (rSlAny X.K) := SlR.or sl_list (SlR.or sl_str sl_tupA)
theorem ix_seqK {X : Cx} {K : PySem.W.Frag} (h : X.K = K) : IxR X (rIx K) := by subst h; exact ix_seq
theorem sl_anyK {X : Cx} {K : PySem.W.Frag} (h : X.K = K) : SlR X (rSlAny K) := by subst h; exact sl_any
theorem op_plusK {X : Cx} {K : PySem.W.Frag} (h : X.K = K) : OpR X (binaryOp .Add) (rPlus K) := by subst h; exact op_plus
theorem op_timesK {X : Cx} {K : PySem.W.Frag} (h : X.K = K) : OpR X (binaryOp .Mult) (rTimes K) := by subst h; exact op_timesA
theorem call_lenK {X : Cx} {K : PySem.W.Frag} (h : X.K = K) : CallR X (.builtin "len") (rLenA K) := by subst h; exact call_lenA
def PartI (x : V) (H : Hp) (Q : Option Int → Hp → Prop) : Prop := ∃ i, x = .int i ∧ Q (some i) H
section
variable {K : PySem.W.Frag} {σ : L2.St} {H : Hp} {Q : VK} {te to : TE} {tl th : TO} {lo hi : Option Int} {a l : Addr} {xs : List V} {R : Option Int → Hp → Prop}
theorem rd_sl {r : V → Option Int → Option Int → Hp → VK → Prop} (q : te σ H fun x H1 => tl σ H1 fun l H2 => th σ H2 fun u H3 => r x l u H3 Q) : tSl r te tl th σ H Q := q
theorem rd_nopart (q : R none H) : tNoPart σ H R := q
theorem rd_part (q : te σ H fun x H1 => PartI x H1 R) : tPart te σ H R := q
theorem rd_parti {i : Int} (q : R (some i) H) : PartI (.int i) H R := ⟨i, rfl, q⟩
theorem rd_slL (h : SqL K H a xs) (q : ∀ p H2, H p = none → Fr [] H H2 → H2 p = some (.lst (cutV xs lo hi)) → Q (.ref p) H2) : rSlAny K (.ref a) lo hi H Q := .inl ⟨a, xs, rfl, h, fun p hp => q p _ hp ((Fr.refl [] H).new hp) upd_same⟩
theorem rd_slS {z : Str} (h : z.length ≤ 1000) (q : Q (.str (cutS z lo hi)) H) : rSlAny K (.str z) lo hi H Q := .inr (.inl ⟨z, rfl, Nat.le_of_lt (small1000 h), q⟩)
theorem rd_slT (h : SqT K H a xs) (q : ∀ p H2, Fr [] H H2 → SqT K H2 p (cutV xs lo hi) → Q (.ref p) H2) : rSlAny K (.ref a) lo hi H Q :=
  .inr (.inr ⟨a, xs, rfl, h, fun w => q a H (Fr.refl _ _) (by
    have e : cutV xs lo hi = xs := by unfold cutV; rw [w.1, w.2]; simp
    rw [e]; exact h), fun _ p hp => q p _ ((Fr.refl [] H).new hp) (SqT.of upd_same)⟩)
theorem rd_m1 {r : V → List V → Hp → VK → Prop} (q : to σ H fun x H1 => (∃ a, x = .str a) ∧ te σ H1 fun y H2 => r x [y] H2 Q) : tM1 r to te σ H Q := q
theorem rd_rep {k : Int} (h : H l = some (.lst xs)) (h1 : 0 ≤ k) (h2 : k ≤ 1000) (h3 : xs.length * k.toNat ≤ 1000) (q : ∀ p H2, H p = none → Fr [] H H2 → H2 p = some (.lst (List.replicate k.toNat xs).flatten) → Q (.ref p) H2) : rTimes K (.ref l) (.int k) H Q :=
  .inr (.inr (.inl ⟨l, k, xs, rfl, rfl, h, by omega, by omega, Nat.le_of_lt (small1000 h3), fun p hp => q p _ hp ((Fr.refl [] H).new hp) upd_same⟩))
end
theorem cutS_len (z : Str) (lo hi : Option Int) : (cutS z lo hi).length ≤ z.length := by
  show ((z.cps.toList.drop _).take _).toArray.size ≤ z.cps.size
  rw [List.size_toArray, List.length_take, List.length_drop, Array.length_toList]
  omega
end Lf
namespace Lf
open PySem PySem.Spec PyProof.Rows L2
/-! ### the law's seven names -/
theorem abc_nat : ∀ j : Nat, j < 26 → ("abcdefghijklmnopqrstuvwxyz" : Str).cps.toList[j]? = some (97 + j) := by decide +kernel
theorem abc_at {i : Int} (h0 : 0 ≤ i) (h : i < 26) : atI ("abcdefghijklmnopqrstuvwxyz" : Str).cps.toList i = some (97 + i.toNat) := by
  have e : i = ((i.toNat : Nat) : Int) := by omega
  have q := atI_nat (abc_nat i.toNat (by omega))
  rw [← e] at q
  exact q
theorem abc_len : ("abcdefghijklmnopqrstuvwxyz" : Str).length ≤ 1000 := by decide +kernel
def ltr (t k : Nat) : Nat := 97 + (t + 11 * k) % 26
theorem ltr_nodup : ∀ t : Nat, t < 26 → ((List.range 7).map fun k => some (ltr t k)).Nodup := by decide +kernel
def hd1 (x : Str) : Option Nat := x.cps.toList.head?
def la1 (x : Str) : Option Nat := x.cps.toList.getLast?
theorem hd1_app (c : Nat) (y : Str) : hd1 ((⟨#[c]⟩ : Str) ++ y) = some c := by
  show ((#[c] ++ y.cps).toList).head? = some c
  simp
theorem la1_app (c : Nat) (y : Str) : la1 (y ++ (⟨#[c]⟩ : Str)) = some c := by
  show ((y.cps ++ #[c]).toList).getLast? = some c
  simp
theorem nodup_of {f : Str → Option Nat} {xs : List Str} {t : Nat} (ht : t < 26) (h : xs.map f = (List.range 7).map fun k => some (ltr t k)) : xs.Nodup := by
  have n := ltr_nodup t ht
  rw [← h] at n
  exact (List.pairwise_map.mp n).imp fun {a b} (z : f a ≠ f b) (e : a = b) => z (by rw [e])
theorem app_len (a b : Str) : (a ++ b).length = a.length + b.length := by
  show (a.cps ++ b.cps).size = _
  rw [Array.size_append]; rfl
def okC (x : Str) : Prop := PyData.strOk x = true
theorem okC_app {a b : Str} (h : okC a) (g : okC b) : okC (a ++ b) := by
  show (a.cps ++ b.cps).all _ = true
  rw [Array.all_append]
  exact Bool.and_eq_true_iff.mpr ⟨h, g⟩
theorem okC_one {c : Nat} (h : c < 200) : okC ⟨#[c]⟩ := by
  show Array.all #[c] _ = true
  simp; omega
theorem okC_nil : okC ("" : Str) := by show PyData.strOk _ = true; decide +kernel
theorem okC_join : ∀ ys : List Str, (∀ y ∈ ys, okC y) → okC (Str.join "" ys)
  | [], _ => okC_nil
  | [x], h => h x (by simp)
  | x :: y :: r, h => okC_app (okC_app (h x (by simp)) okC_nil) (okC_join (y :: r) fun z hz => h z (List.mem_cons_of_mem _ hz))
theorem okC_cut {z : Str} {lo hi : Option Int} (h : okC z) : okC (cutS z lo hi) := by
  have h : z.cps.all (fun x => decide (x < 0x110000)) = true := h
  show Array.all (((z.cps.toList.drop _).take _).toArray) _ = true
  rw [List.all_toArray, List.all_eq_true]
  rw [← Array.all_toList, List.all_eq_true] at h
  intro x hx
  exact h x (List.mem_of_mem_drop (List.mem_of_mem_take hx))
theorem ltr_lt {t k : Nat} : ltr t k < 200 := by unfold ltr; omega
def spNames7 (n : Nat) : Sp := fun vs H Q _ => ∃ h c, vs = [.ref h] ∧ HAt H h c n ∧ ∀ (l : Addr) (xs : List Str) (H2 : Hp), H l = none → xs.length = 7 → xs.Nodup → (∀ x ∈ xs, x.length ≤ 100 ∧ okC x) → Fr [h, c] H H2 → HAt H2 h c n → H2 l = some (.lst (xs.map V.str)) → Q (.ref l) H2
section
variable {P : Program} {w : World} {K : PySem.W.Frag} {mg : Str → Option Value} {base : Heap}
abbrev s__law_names : Stmt := top 15
abbrev N__law_names : List Str := ["_law_h", "_law_some", "_law_word", "_law_k", "_law_turn", "_law_letters", "_law_ends", "_law_letter"]
theorem sc__law_names : FnScope N__law_names ["_law_h"] (defScope s__law_names) := ⟨rfl, rfl, rfl, by decide +kernel, rfl, by decide +kernel, by decide +kernel⟩
theorem ok_names7 (T : Blt mg) (n : Nat) (F : Here K mg "_law_names" s__law_names ["_law_h"]) (D__law_next : DefOk P w K mg base CX0 "_law_next" ["_law_h", "_law_many"] 1 (spNext n)) : DefOk P w K mg base CX0 "_law_names" ["_law_h"] 2 (spNames7 n) := by
  refine F.ok sc__law_names (fun vs H Q E h => ?_) (fun f cdv A outer s H vs Q E hr h => ?_)
  · obtain ⟨_, _, rfl, _⟩ := h; rfl
  obtain ⟨h, c, rfl, hat, q⟩ := h
  have hu64 := hr.units
  have hr__law_next := hr.mono (j := 1) (by omega)
  refine ⟨_, (pss_cons (ps_set (i := 1) sc__law_names.nd rfl (Or.inr rfl) pe_str)
    (pss_cons (ps_set (i := 2) sc__law_names.nd rfl (Or.inr rfl) (pe_join pe_str (pe_lc (own := [("_law_k", 3)]) (g := gName 3) (tt := tYes) rfl sc__law_names.nd (pi_range1 (by rfl) T.n_range (pa_cons (pe_callD D__law_next hr__law_next pass0 (pa_cons (pv 0) (pa_cons pe_int pa_nil))) pa_nil)) (blkOk_by (own := [("_law_k", 3)]) (N := N__law_names) (sc := defScope s__law_names) (by decide +kernel)) (fun _ _ _ _ _ => (pg_name (i := 3) sc__law_names.nd rfl (Or.inl rfl))) (fun _ _ _ _ _ => pts_nil) (fun _ _ _ _ _ => (pe_ix (ix_seqK (K := K) rfl) (pv 1) (pe_callD D__law_next hr__law_next pass0 (pa_cons (pv 0) (pa_cons pe_int pa_nil))) (fun _ _ => rfl))))))
    (pss_cons (ps_set (i := 4) sc__law_names.nd rfl (Or.inr rfl) (pe_callD D__law_next hr__law_next pass0 (pa_cons (pv 0) (pa_cons pe_int pa_nil))))
    (pss_cons (ps_set (i := 5) sc__law_names.nd rfl (Or.inr rfl) (pe_lc (own := [("_law_k", 3)]) (g := gName 3) (tt := tYes) rfl sc__law_names.nd (pi_range1 (by rfl) T.n_range (pa_cons pe_int pa_nil)) (blkOk_by (own := [("_law_k", 3)]) (N := N__law_names) (sc := defScope s__law_names) (by decide +kernel)) (fun _ _ _ _ _ => (pg_name (i := 3) sc__law_names.nd rfl (Or.inl rfl))) (fun _ _ _ _ _ => pts_nil) (fun _ _ _ _ _ => (pe_ix (ix_seqK (K := K) rfl) (pv 1) (pe_op op_modN (pe_op (op_plusK (K := K) rfl) (pv 4) (pe_op (op_timesK (K := K) rfl) pe_int (pv 3))) pe_int) (fun _ _ => rfl)))))
    (pss_cons (ps_set (i := 6) sc__law_names.nd rfl (Or.inr rfl) (pe_op op_timesA (pe_lst (pa_cons (pe_callB call_lenA (by rfl) T.n_len PySem.boot_len (pa_cons (pv 2) pa_nil)) pa_nil)) pe_int))
    (pss_cons (ps_if (pt_cmpR (op_eqA hu64) (pe_callD D__law_next hr__law_next pass0 (pa_cons (pv 0) (pa_cons pe_int pa_nil))) pe_int (nomark _))
    (pss_one (ps_set (i := 6) sc__law_names.nd rfl (Or.inr rfl) (pe_lc (own := [("_law_letter", 7)]) (g := gName 7) (tt := tYes) rfl sc__law_names.nd (pi_list (pv 5)) (blkOk_by (own := [("_law_letter", 7)]) (N := N__law_names) (sc := defScope s__law_names) (by decide +kernel)) (fun _ _ _ _ _ => (pg_name (i := 7) sc__law_names.nd rfl (Or.inl rfl))) (fun _ _ _ _ _ => pts_nil) (fun _ _ _ _ _ => (pe_callD D__law_next hr__law_next pass0 (pa_cons (pv 0) (pa_cons (pe_op (op_plusK (K := K) rfl) (pe_callB (call_lenK (K := K) rfl) (by rfl) T.n_len PySem.boot_len (pa_cons (pv 2) pa_nil)) pe_int) pa_nil)))))))
    pss_nil)
    (pss_cons (ps_if (pt_cmpR (op_eqA hu64) (pe_callD D__law_next hr__law_next pass0 (pa_cons (pv 0) (pa_cons pe_int pa_nil))) pe_int (nomark _))
    (pss_one (ps_ret (pe_lc (own := [("_law_k", 3)]) (g := gName 3) (tt := tYes) rfl sc__law_names.nd (pi_range1 (by rfl) T.n_range (pa_cons pe_int pa_nil)) (blkOk_by (own := [("_law_k", 3)]) (N := N__law_names) (sc := defScope s__law_names) (by decide +kernel)) (fun _ _ _ _ _ => (pg_name (i := 3) sc__law_names.nd rfl (Or.inl rfl))) (fun _ _ _ _ _ => pts_nil) (fun _ _ _ _ _ => (pe_op (op_plusK (K := K) rfl) (pe_ix (ix_seqK (K := K) rfl) (pv 5) (pv 3) (fun _ _ => rfl)) (pe_slice (sl_anyK (K := K) rfl) (pv 2) po_none (po_some (pe_ix (ix_seqK (K := K) rfl) (pv 6) (pv 3) (fun _ _ => rfl)))))))))
    pss_nil)
    (pss_one (ps_ret (pe_lc (own := [("_law_k", 3)]) (g := gName 3) (tt := tYes) rfl sc__law_names.nd (pi_range1 (by rfl) T.n_range (pa_cons pe_int pa_nil)) (blkOk_by (own := [("_law_k", 3)]) (N := N__law_names) (sc := defScope s__law_names) (by decide +kernel)) (fun _ _ _ _ _ => (pg_name (i := 3) sc__law_names.nd rfl (Or.inl rfl))) (fun _ _ _ _ _ => pts_nil) (fun _ _ _ _ _ => (pe_op (op_plusK (K := K) rfl) (pe_slice (sl_anyK (K := K) rfl) (pv 2) po_none (po_some (pe_ix (ix_seqK (K := K) rfl) (pv 6) (pv 3) (fun _ _ => rfl)))) (pe_ix (ix_seqK (K := K) rfl) (pv 5) (pv 3) (fun _ _ => rfl)))))))))))))), ?_⟩
  walk_at "rh"
  refine rd_m1 ?_
  walk_at "rh"
  refine ⟨⟨_, rfl⟩, ?_⟩
  walk_at "rh"
  walk_at "nx"
  intro m H1 m0 m1 f1 k1 hat1
  walk_at "rh"
  refine rd_rng1 (by omega) ?_
  refine rd_lcR fun D H2 fD f2 eD => ?_
  have ⟨nDh, nDc⟩ := hat1.new fD
  have fD0 := f1.freeM fD (by simp [nDh, nDc])
  refine ⟨fun k acc H' => Fr [h, c] H H' ∧ HAt H' h c n ∧ ∃ ys : List Str, acc = ys.map V.str ∧ ys.length = k ∧ ∀ y ∈ ys, y.length = 1 ∧ okC y, ⟨f1.trans f2.nil, hat1.mono f2, [], rfl, rfl, by simp⟩, fun k acc H' hk e' ⟨f', hat', ys, ea, hl, hp⟩ => ?_, fun acc H' e' ⟨f', hat', ys, ea, hl, hp⟩ => ?_⟩
  · walk_at "rh"
    refine ifT rfl ?_
    walk_at "rh"
    walk_at "nx"
    intro r H3 r0 r1 f3 k3 hat3
    refine rd_ixS abc_len (abc_at r0 r1) ?_
    have e3 := f3.at2 e' nDh nDc
    refine rd_lcend e3 (by rw [ea, List.length_map]; omega) fun H4 f4 k4 e4 => ?_
    refine ⟨(f'.trans f3).then1 f4 fD0, hat3.mono1 f4 nDh nDc, ys ++ [⟨#[97 + r.toNat]⟩], by rw [ea]; simp, by simp [hl], fun y hy => ?_⟩
    rcases List.mem_append.mp hy with hy | hy
    · exact hp y hy
    · rw [List.mem_singleton.mp hy]; exact ⟨rfl, okC_one (by omega)⟩
  have hsum : (ys.map (·.length)).sum ≤ 8 := by
    have : ∀ l : List Str, (∀ y ∈ l, y.length = 1) → (l.map (·.length)).sum = l.length := by
      intro l
      induction l with
      | nil => intro _; rfl
      | cons a l ih =>
        intro z
        simp only [List.map_cons, List.sum_cons, List.length_cons]
        rw [ih (fun y hy => z y (List.mem_cons_of_mem _ hy)), z a List.mem_cons_self]
        omega
    rw [this ys fun y hy => (hp y hy).1]
    omega
  refine ⟨_, D, ys, rfl, rfl, .inl (SqL.of (by rw [← ea]; exact e')), by show _ + ys.length * 0 ≤ _; omega, ?_⟩
  have hw0 : (Txt.join "" ys).length ≤ 8 := by
    have z : (Txt.join "" ys).length = (ys.map (·.length)).sum + (ys.length - 1) * 0 := PySem.size_glued "" ys
    omega
  have hwk : okC (Txt.join "" ys) := by
    rw [show Txt.join "" ys = Str.join "" ys from StrLaws.glued_eq_join "" ys]
    exact okC_join ys fun y hy => (hp y hy).2
  generalize Txt.join "" ys = wd at hw0 hwk ⊢
  walk_at "rh"
  walk_at "nx"
  intro t H3 t0 t1 f3 k3 hat3
  walk_at "rh"
  have fH3 := f'.trans f3
  refine rd_lcR fun L H4 fL f4 eL => ?_
  have ⟨nLh, nLc⟩ := hat3.new fL
  have fL0 := fH3.freeM fL (by simp [nLh, nLc])
  obtain ⟨tn, rfl, htn⟩ : ∃ tn : Nat, t = tn ∧ tn < 26 := ⟨t.toNat, by omega, by omega⟩
  refine ⟨fun k acc H' => Fr [h, c] H H' ∧ HAt H' h c n ∧ acc = (List.range k).map fun k => V.str ⟨#[ltr tn k]⟩, ⟨fH3.trans f4.nil, hat3.mono f4, rfl⟩, fun k acc H' hk e' ⟨f', hat', ea⟩ => ?_, fun letters H5 eL5 ⟨f5, hat5, ea⟩ => ?_⟩
  · walk_at "rh"
    refine ifT rfl ?_
    walk_at "rh"
    refine rd_mulL (by decide) ?_
    walk_at "rh"
    refine rd_I (by decide) ?_
    walk_at "rh"
    refine rd_ixS abc_len (abc_at (i := Int.fmod ((tn : Int) + 11 * (0 + (k : Int))) 26) (Int.fmod_nonneg_of_pos _ (by decide)) (Int.fmod_lt_of_pos _ (by decide))) ?_
    refine rd_lcend e' (by rw [ea]; simp; omega) fun H6 f6 k6 e6 => ?_
    refine ⟨f'.then1 f6 fL0, hat'.mono1 f6 nLh nLc, ?_⟩
    rw [ea, List.range_succ, List.map_append]
    have e : 97 + (Int.fmod ((tn : Int) + 11 * (0 + (k : Int))) 26).toNat = ltr tn k := by
      unfold ltr
      rw [Int.fmod_eq_emod_of_nonneg _ (by decide)]
      omega
    rw [e]; rfl
  walk_at "rh"
  refine rd_lenS (by rw [sizeLine_eq]; omega) ?_
  walk_at "rh"
  refine rd_newL (by simp) fun l1 H6 nl1 f6 el1 => ?_
  refine rd_rep el1 (by decide) (by decide) (by show 1 * 7 ≤ 1000; decide) fun EN H7 nEN f7 eEN => ?_
  walk_at "rs"
  with_reducible refine rd_seqc fun N hN => ?_
  have f57 := f6.trans f7
  have hat7 := hat5.mono f57
  have eL7 := f57.at eL5
  have fH7 := f5.trans f57.nil
  have rest : ∀ (EN : Addr) (es : List Int) (H8 : Hp), Fr [h, c] H H8 → HAt H8 h c n → H8 L = some (.lst letters) → H8 EN = some (.lst (es.map V.int)) → es.length = 7 → EN ≠ h → EN ≠ c →
      N [some (.ref h), some (.str "abcdefghijklmnopqrstuvwxyz"), some (.str wd), none, some (.int (tn : Int)), some (.ref L), some (.ref EN), none] H8 := fun EN es H8 f8 hat8 L8 E8 hes nE1 nE2 => by
    refine hN _ _ ?_
    walk_at "rh"
    walk_at "nx"
    intro r2 H9 r20 r21 f9 k9 hat9
    walk_at "rh"
    have L9 : H9 L = some (.lst letters) := f9.at2 L8 nLh nLc
    have E9 : H9 EN = some (.lst (es.map V.int)) := f9.at2 E8 nE1 nE2
    refine ite2 (fun hc => ?_) (fun hc => ?_)
    · walk_at "rh"
      refine rd_lcR fun D2 H10 fD2 f10 eD2 => ?_
      have ⟨nDh2, nDc2⟩ := hat9.new fD2
      have fD20 := (f8.trans f9).freeM fD2 (by simp [nDh2, nDc2])
      have nLD : L ≠ D2 := ne_of_none L9 fD2
      have nED : EN ≠ D2 := ne_of_none E9 fD2
      refine ⟨fun k acc H' => Fr [h, c] H H' ∧ HAt H' h c n ∧ H' L = some (.lst letters) ∧ H' EN = some (.lst (es.map V.int)) ∧ ∃ xs : List Str, acc = xs.map V.str ∧ xs.map hd1 = ((List.range k).map fun i => some (ltr tn i)) ∧ ∀ x ∈ xs, x.length ≤ 100 ∧ okC x,
        ⟨(f8.trans f9).trans f10.nil, hat9.mono f10, f10.at L9, f10.at E9, [], rfl, rfl, by simp⟩, fun k acc H' hk e' ⟨f', hat', hL6, hE6, xs, exs, hf, hx⟩ => ?_, fun acc H' e' ⟨f', hat', hL6, hE6, xs, exs, hf, hx⟩ => ?_⟩
      · walk_at "rh"
        refine ifT rfl ?_
        walk_at "rh"
        have e0 : (0 : Int) + ((k : Nat) : Int) = ((k : Nat) : Int) := by omega
        rw [e0]
        have aL : atI letters ((k : Nat) : Int) = some (V.str ⟨#[ltr tn k]⟩) := atI_nat (by rw [ea, List.getElem?_map, List.getElem?_range hk]; rfl)
        obtain ⟨ee, aE⟩ : ∃ ee, atI (es.map V.int) ((k : Nat) : Int) = some (V.int ee) := ⟨es[k]'(by omega), atI_nat (by rw [List.getElem?_map, List.getElem?_eq_getElem (by omega)]; rfl)⟩
        refine rd_ixH hL6 aL ?_
        walk_at "rh"
        refine rd_sl ?_
        walk_at "rh"
        refine rd_nopart ?_
        refine rd_part ?_
        walk_at "rh"
        refine rd_ixH hE6 aE ?_
        refine rd_parti ?_
        refine rd_slS (by omega) ?_
        have cl := cutS_len wd none (some ee)
        have ll : (⟨#[ltr tn k]⟩ : Str).length = 1 := rfl
        refine rd_plusS (by rw [sizeLine_eq]; omega) ?_
        have lxs : xs.length = k := by have := congrArg List.length hf; simpa using this
        refine rd_lcend e' (by rw [exs, List.length_map]; omega) fun H11 f11 k11 e11 => ?_
        refine ⟨f'.then1 f11 fD20, hat'.mono1 f11 nDh2 nDc2, f11.at1 hL6 nLD, f11.at1 hE6 nED, xs ++ [((⟨#[ltr tn k]⟩ : Str) ++ cutS wd none (some ee))], by rw [exs]; simp, by rw [List.map_append, hf, List.range_succ, List.map_append, List.map_singleton, hd1_app]; rfl, fun x hx2 => ?_⟩
        rcases List.mem_append.mp hx2 with hx2 | hx2
        · exact hx x hx2
        · rw [List.mem_singleton.mp hx2]; exact ⟨by rw [app_len]; omega, okC_app (okC_one ltr_lt) (okC_cut hwk)⟩
      walk_at "rh"
      have lxs : xs.length = 7 := by have := congrArg List.length hf; simpa using this
      exact q D2 xs H' fD20 lxs (nodup_of htn hf) hx f' hat' (by rw [← exs]; exact e')
    · walk_at "rh"
      refine rd_lcR fun D2 H10 fD2 f10 eD2 => ?_
      have ⟨nDh2, nDc2⟩ := hat9.new fD2
      have fD20 := (f8.trans f9).freeM fD2 (by simp [nDh2, nDc2])
      have nLD : L ≠ D2 := ne_of_none L9 fD2
      have nED : EN ≠ D2 := ne_of_none E9 fD2
      refine ⟨fun k acc H' => Fr [h, c] H H' ∧ HAt H' h c n ∧ H' L = some (.lst letters) ∧ H' EN = some (.lst (es.map V.int)) ∧ ∃ xs : List Str, acc = xs.map V.str ∧ xs.map la1 = ((List.range k).map fun i => some (ltr tn i)) ∧ ∀ x ∈ xs, x.length ≤ 100 ∧ okC x,
        ⟨(f8.trans f9).trans f10.nil, hat9.mono f10, f10.at L9, f10.at E9, [], rfl, rfl, by simp⟩, fun k acc H' hk e' ⟨f', hat', hL6, hE6, xs, exs, hf, hx⟩ => ?_, fun acc H' e' ⟨f', hat', hL6, hE6, xs, exs, hf, hx⟩ => ?_⟩
      · walk_at "rh"
        refine ifT rfl ?_
        walk_at "rh"
        have e0 : (0 : Int) + ((k : Nat) : Int) = ((k : Nat) : Int) := by omega
        rw [e0]
        have aL : atI letters ((k : Nat) : Int) = some (V.str ⟨#[ltr tn k]⟩) := atI_nat (by rw [ea, List.getElem?_map, List.getElem?_range hk]; rfl)
        obtain ⟨ee, aE⟩ : ∃ ee, atI (es.map V.int) ((k : Nat) : Int) = some (V.int ee) := ⟨es[k]'(by omega), atI_nat (by rw [List.getElem?_map, List.getElem?_eq_getElem (by omega)]; rfl)⟩
        refine rd_sl ?_
        walk_at "rh"
        refine rd_nopart ?_
        refine rd_part ?_
        walk_at "rh"
        refine rd_ixH hE6 aE ?_
        refine rd_parti ?_
        refine rd_slS (by omega) ?_
        walk_at "rh"
        refine rd_ixH hL6 aL ?_
        have cl := cutS_len wd none (some ee)
        have ll : (⟨#[ltr tn k]⟩ : Str).length = 1 := rfl
        refine rd_plusS (by rw [sizeLine_eq]; omega) ?_
        have lxs : xs.length = k := by have := congrArg List.length hf; simpa using this
        refine rd_lcend e' (by rw [exs, List.length_map]; omega) fun H11 f11 k11 e11 => ?_
        refine ⟨f'.then1 f11 fD20, hat'.mono1 f11 nDh2 nDc2, f11.at1 hL6 nLD, f11.at1 hE6 nED, xs ++ [(cutS wd none (some ee) ++ (⟨#[ltr tn k]⟩ : Str))], by rw [exs]; simp, by rw [List.map_append, hf, List.range_succ, List.map_append, List.map_singleton, la1_app]; rfl, fun x hx2 => ?_⟩
        rcases List.mem_append.mp hx2 with hx2 | hx2
        · exact hx x hx2
        · rw [List.mem_singleton.mp hx2]; exact ⟨by rw [app_len]; omega, okC_app (okC_cut hwk) (okC_one ltr_lt)⟩
      walk_at "rh"
      have lxs : xs.length = 7 := by have := congrArg List.length hf; simpa using this
      exact q D2 xs H' fD20 lxs (nodup_of htn hf) hx f' hat' (by rw [← exs]; exact e')
  have ⟨nEh, nEc⟩ := (hat5.mono f6).new nEN
  walk_at "rh"
  walk_at "nx"
  intro r2 H8 r20 r21 f8 k8 hat8
  walk_at "rh"
  have fH8 := fH7.trans f8
  have L8 : H8 L = some (.lst letters) := f8.at2 eL7 nLh nLc
  refine ite2 (fun hc => ?_) (fun hc => ?_)
  · walk_at "rh"
    have ll : letters.length = 7 := by rw [ea]; simp
    refine rd_lcL letters fun D2 H10 fD2 f10 eD2 => ?_
    have ⟨nDh2, nDc2⟩ := hat8.new fD2
    have fD20 := fH8.freeM fD2 (by simp [nDh2, nDc2])
    have nLD : L ≠ D2 := ne_of_none L8 fD2
    refine ⟨fun k acc H' => Fr [h, c] H H' ∧ HAt H' h c n ∧ H' L = some (.lst letters) ∧ ∃ es : List Int, acc = es.map V.int ∧ es.length = k,
      ⟨fH8.trans f10.nil, hat8.mono f10, f10.at L8, [], rfl, rfl⟩, fun k acc H' hk ⟨_, _, hL, _⟩ => SqL.of hL, fun k x acc H' hx e' ⟨f', hat', hL6, es, exs, hl⟩ => ?_, fun acc H' e' ⟨f', hat', hL6, es, exs, hl⟩ => ?_⟩
    · walk_at "rh"
      refine ifT rfl ?_
      walk_at "rh"
      refine rd_lenS (by rw [sizeLine_eq]; omega) ?_
      walk_at "rh"
      refine c_next hat' (by omega) fun r H11 r0 r1 f11 k11 hat11 => ?_
      have lk : k < letters.length := (List.getElem?_eq_some_iff.mp hx).1
      refine rd_lcend (f11.at2 e' nDh2 nDc2) (by rw [exs, List.length_map]; omega) fun H12 f12 k12 e12 => ?_
      refine ⟨(f'.trans f11).then1 f12 fD20, hat11.mono1 f12 nDh2 nDc2, f12.at1 (f11.at2 hL6 nLh nLc) nLD, es ++ [r], by rw [exs]; simp, by simp [hl]⟩
    walk_at "rh"
    exact rest D2 es H' f' hat' hL6 (by rw [← exs]; exact e') (by omega) nDh2 nDc2
  · walk_at "rh"
    exact rest EN (List.replicate 7 (wd.length : Int)) H8 fH8 hat8 L8 (f8.at2 eEN nEh nEc) (by simp) nEh nEc
end
end Lf
namespace Lf
open PySem PySem.Spec PyProof.Rows L2
/-! ### expressions, drawn -/
theorem rd_ifc {σ : L2.St} {H : Hp} {D : Ends} {tt : TT} {t u : TS} (h : ∀ N : Bool → Hp → Prop, (∀ H1, t D σ H1 → N true H1) → (∀ H1, u D σ H1 → N false H1) → tt σ H N) : tIfS tt t u D σ H :=
  h (fun b H1 => if b = true then t D σ H1 else u D σ H1) (fun H1 q => by rw [if_pos rfl]; exact q) (fun H1 q => by rw [if_neg (by decide)]; exact q)
theorem dp_strs {K : PySem.W.Frag} {H : Hp} : ∀ (ns : List Str), DpAll K H (ns.map V.str) (ns.map PyData.str)
  | [] => .nil
  | _ :: r => .cons (.str _) (dp_strs r)
theorem canLay_strs : ∀ (ns : List Str), (∀ x ∈ ns, okC x) → PyData.canLayAll0 (ns.map PyData.str) = true
  | [], _ => rfl
  | x :: r, h => by
    have h1 : PyData.strOk x = true := h x (by simp)
    simp [PyData.canLayAll0, PyData.canLay0, canLay_strs r fun y hy => h y (List.mem_cons_of_mem _ hy), h1]
theorem depth_strs : ∀ (ns : List Str), PyData.depthAll (ns.map PyData.str) = 0
  | [] => rfl
  | _ :: r => by simp [PyData.depthAll, PyData.depth, depth_strs r]
theorem shaped_strs {ns : List Str} (h : ∀ x ∈ ns, okC x) : SeqAt.shaped (.list (ns.map PyData.str)) = true := by
  simp [SeqAt.shaped, PyData.canLay0, canLay_strs ns h, PyData.depth, depth_strs]
theorem eqv_nilS (ns : List Str) : PyData.eqv (.list (ns.map PyData.str)) (.list []) = decide (ns = []) := by
  cases ns <;> simp [PyData.eqv, PyData.eqvAll]
theorem rd_neNilS {K : PySem.W.Frag} {H : Hp} {Q : VK} {a p : Addr} {ns : List Str} (hk : ∀ x ∈ ns, okC x) (h : SqL K H a (ns.map V.str)) (h2 : SqL K H p []) (q : Q (.bl (!decide (ns = []))) H) : rNeA K (.ref a) (.ref p) H Q :=
  rd_neD (.lst h (dp_strs ns)) (.lst h2 .nil) (shaped_strs hk) (shaped_strs (ns := []) (by simp)) (by rw [eqv_nilS]; exact q)
theorem rd_eqNilS {K : PySem.W.Frag} {H : Hp} {Q : VK} {a p : Addr} {ns : List Str} (hk : ∀ x ∈ ns, okC x) (h : SqL K H a (ns.map V.str)) (h2 : SqL K H p []) (q : Q (.bl (decide (ns = []))) H) : rEqA K (.ref a) (.ref p) H Q :=
  rd_eqD (.lst h (dp_strs ns)) (.lst h2 .nil) (shaped_strs hk) (shaped_strs (ns := []) (by simp)) (by rw [eqv_nilS]; exact q)
theorem atI_strs {ns : List Str} {i : Int} (h0 : 0 ≤ i) (h : i < (ns.length : Int)) : ∃ y, y ∈ ns ∧ atI (ns.map V.str) i = some (.str y) := by
  have hk : i.toNat < ns.length := by omega
  refine ⟨ns[i.toNat], List.getElem_mem hk, ?_⟩
  have e : i = ((i.toNat : Nat) : Int) := by omega
  have q : atI (ns.map V.str) ((i.toNat : Nat) : Int) = some (.str ns[i.toNat]) := atI_nat (by rw [List.getElem?_map, List.getElem?_eq_getElem hk]; rfl)
  rw [← e] at q
  exact q
theorem pick2 {x y : V} {k : Bool} : atI [x, y] (if k = true then 1 else 0) = some (if k = true then y else x) := by cases k <;> rfl
theorem len_ns (ns : List Str) : ((ns.map V.str).length : Int) = (ns.length : Int) := by rw [List.length_map]
theorem Rp2 {K : PySem.W.Frag} {H : Hp} {t : Addr} {w : Str} {x : D} {v : V} (e : H t = some (.tup [.str w, v])) (h : Rp K H x v) : Rp K H (.tup [.str w, x]) (.ref t) := ⟨t, _, rfl, SqT.of e, _, _, rfl, rfl, _, _, rfl, h, rfl⟩
theorem Rp3 {K : PySem.W.Frag} {H : Hp} {t : Addr} {w : Str} {x y : D} {v u : V} (e : H t = some (.tup [.str w, v, u])) (h : Rp K H x v) (g : Rp K H y u) : Rp K H (.tup [.str w, x, y]) (.ref t) := ⟨t, _, rfl, SqT.of e, _, _, rfl, rfl, _, _, rfl, h, _, _, rfl, g, rfl⟩
theorem Rp4 {K : PySem.W.Frag} {H : Hp} {t : Addr} {w : Str} {x y z : D} {v u o : V} (e : H t = some (.tup [.str w, v, u, o])) (h : Rp K H x v) (g : Rp K H y u) (k : Rp K H z o) : Rp K H (.tup [.str w, x, y, z]) (.ref t) :=
  ⟨t, _, rfl, SqT.of e, _, _, rfl, rfl, _, _, rfl, h, _, _, rfl, g, _, _, rfl, k, rfl⟩
def spPart (K : PySem.W.Frag) (n m : Nat) : Sp := fun vs H Q _ => ∃ (h c l : Addr) (ns : List Str) (dd : Nat), vs = [.ref h, .ref l, .int ((dd : Nat) : Int)] ∧ dd < m ∧ dd ≤ 2 ∧ HAt H h c n ∧ H l = some (.lst (ns.map V.str)) ∧ l ≠ h ∧ l ≠ c ∧ ns.length ≤ 100 ∧ (∀ x ∈ ns, okC x) ∧
  ∀ v e H2, Fr [h, c] H H2 → HAt H2 h c n → depE e ≤ dd → smE e → Rp K H2 (encE e) v → Q v H2
section
variable {P : Program} {w : World} {K : PySem.W.Frag} {mg : Str → Option Value} {base : Heap}
abbrev s__law_part : Stmt := top 16
abbrev N__law_part : List Str := ["_law_h", "_law_some", "_law_deep", "_law_way", "_law_word", "_law_one"]
theorem sc__law_part : FnScope N__law_part ["_law_h", "_law_some", "_law_deep"] (defScope s__law_part) := ⟨rfl, rfl, rfl, by decide +kernel, rfl, by decide +kernel, by decide +kernel⟩
theorem ok_part1 (T : Blt mg) (n m : Nat) (F : Here K mg "_law_part" s__law_part ["_law_h", "_law_some", "_law_deep"]) (D__law_next : DefOk P w K mg base CX0 "_law_next" ["_law_h", "_law_many"] 1 (spNext n))
    (D__law_part : DefOk P w K mg base CX0 "_law_part" ["_law_h", "_law_some", "_law_deep"] (m + 1) (spPart K n m)) : DefOk P w K mg base CX0 "_law_part" ["_law_h", "_law_some", "_law_deep"] (m + 2) (spPart K n (m + 1)) := by
  refine F.ok sc__law_part (fun vs H Q E h => ?_) (fun f cdv A outer s H vs Q E hr h => ?_)
  · obtain ⟨_, _, _, _, _, rfl, _⟩ := h; rfl
  obtain ⟨h, c, l, ns, dd, rfl, hm, hd2, hat, hl, nlh, nlc, hns, hok, q⟩ := h
  have hu64 := hr.units
  have hr__law_next := hr.mono (j := 1) (by omega)
  have hr__law_part := hr.mono (j := m + 1) (by omega)
  refine ⟨_, (pss_cons (ps_set (i := 3) sc__law_part.nd rfl (Or.inl rfl) (pe_callD D__law_next hr__law_next pass0 (pa_cons (pv 0) (pa_cons pe_int pa_nil))))
    (pss_cons (ps_if (PW.pt (pw_or (pt_cmpR (op_eqA hu64) (pv 2) pe_int (nomark _)) (pw_or (pt_cmpR op_lt (pv 3) pe_int (nomark _)) (pw_or1 (pt_cmpR (op_eqA hu64) (pv 1) (pe_lst pa_nil) (nomark _))))))
    (pss_cons (ps_if (PW.pt (pw_or (pt_cmpR (op_eqA hu64) (pv 1) (pe_lst pa_nil) (nomark _)) (pw_or1 (pt_cmpR (op_eqA hu64) (pe_callD D__law_next hr__law_next pass0 (pa_cons (pv 0) (pa_cons pe_int pa_nil))) pe_int (nomark _)))))
    (pss_one (ps_ret (pe_tup (pa_cons pe_str (pa_cons (pe_ix ix_seq (pe_lst (pa_cons (pe_callD D__law_next hr__law_next pass0 (pa_cons (pv 0) (pa_cons pe_int pa_nil))) (pa_cons (pe_callD D__law_next hr__law_next pass0 (pa_cons (pv 0) (pa_cons pe_int pa_nil))) pa_nil))) (pe_callTy call_intA (by rfl) T.n_int (by decide +kernel) (pa_cons (pe_cmpR (op_eqA hu64) (pe_callD D__law_next hr__law_next pass0 (pa_cons (pv 0) (pa_cons pe_int pa_nil))) pe_int (nomark _)) pa_nil)) (fun _ _ => rfl)) pa_nil)))))
    pss_nil)
    (pss_one (ps_ret (pe_tup (pa_cons pe_str (pa_cons (pe_ix ix_seq (pv 1) (pe_callD D__law_next hr__law_next pass0 (pa_cons (pv 0) (pa_cons (pe_callB call_lenA (by rfl) T.n_len PySem.boot_len (pa_cons (pv 1) pa_nil)) pa_nil))) (fun _ _ => rfl)) pa_nil))))))
    pss_nil)
    (pss_cons (ps_set (i := 4) sc__law_part.nd rfl (Or.inl rfl) (pe_ifExp (pt_cmpR op_lt (pv 3) pe_int (nomark _)) pe_str pe_str))
    (pss_cons (ps_set (i := 5) sc__law_part.nd rfl (Or.inl rfl) (pe_callD D__law_part hr__law_part pass0 (pa_cons (pv 0) (pa_cons (pv 1) (pa_cons (pe_op op_sub (pv 2) pe_int) pa_nil)))))
    (pss_one (ps_ret (pe_tup (pa_cons (pv 4) (pa_cons (pv 5) (pa_cons (pe_callD D__law_part hr__law_part pass0 (pa_cons (pv 0) (pa_cons (pv 1) (pa_cons (pe_op op_sub (pv 2) pe_int) pa_nil)))) pa_nil)))))))))), ?_⟩
  walk_at "rs"
  with_reducible refine rd_seq ?_
  walk_at "rs"
  walk_at "nx"
  intro way H1 w0 w1 f1 k1 hat1
  walk_at "rs"
  with_reducible refine rd_seq ?_
  refine rd_ifc fun N hT hU => ?_
  have leaf : ∀ H2, Fr [h, c] H H2 → HAt H2 h c n → N true H2 := fun H2 f2 hat2 => by
    refine hT _ ?_
    with_reducible refine rd_seq ?_
    refine rd_ifc fun N2 hT2 hU2 => ?_
    have num : ∀ H3, Fr [h, c] H H3 → HAt H3 h c n → N2 true H3 := fun H3 f3 hat3 => by
      refine hT2 _ ?_
      walk_at "rh"
      walk_at "nx"
      intro a H4 a0 a1 f4 k4 hat4
      walk_at "rh"
      walk_at "nx"
      intro b H5 b0 b1 f5 k5 hat5
      walk_at "rh"
      refine rd_newL (by simp) fun p H6 np f6 ep => ?_
      have ⟨nph, npc⟩ := hat5.new np
      have hat6 := hat5.mono f6
      walk_at "rh"
      walk_at "nx"
      intro g H7 g0 g1 f7 k7 hat7
      walk_at "rh"
      refine rd_ixH (f7.at2 ep nph npc) pick2 ?_
      walk_at "rh"
      refine rd_newT (by simp) fun t H8 nt f8 et => ?_
      walk_at "rh"
      have FF := (((f3.trans f4).trans f5).trans f6.nil).trans f7
      have e2 : (if decide (V.int g = V.int 0) = true then V.int b else V.int a) = V.int (if decide (V.int g = V.int 0) = true then b else a) := by split <;> rfl
      rw [e2] at et
      exact q _ (.num _) H8 (FF.trans f8.nil) (hat7.mono f8) (Nat.zero_le _) (by show Int.natAbs _ < 2 ^ 10; split <;> omega) (Rp2 et rfl)
    walk_at "rs"
    refine rd_newL (by simp) fun p H3 np f3 ep => ?_
    have hat3 := hat2.mono f3
    refine rd_eqNilS hok (SqL.of (f3.at (f2.at2 hl nlh nlc))) (SqL.of ep) ?_
    walk_at "rs"
    refine ite2 (fun hc => num H3 (f2.trans f3.nil) hat3) (fun hc => ?_)
    have hne : ns ≠ [] := by simpa using hc
    have hpos : 0 < ns.length := List.length_pos_iff.mpr hne
    walk_at "rs"
    walk_at "nx"
    intro g H4 g0 g1 f4 k4 hat4
    walk_at "rs"
    have f24 := (f2.trans f3.nil).trans f4
    cases hdec : decide (V.int g = V.int 0) with
    | true => exact num H4 f24 hat4
    | false =>
      refine hU2 _ ?_
      walk_at "rs"
      dsimp only
      walk_at "rh"
      have l4 := f24.at2 hl nlh nlc
      rw [len_ns]
      refine c_next hat4 (by omega) fun r H5 r0 r1 f5 k5 hat5 => ?_
      obtain ⟨y, hy, ay⟩ := atI_strs r0 r1
      refine rd_ixH (f5.at2 l4 nlh nlc) ay ?_
      walk_at "rh"
      refine rd_newT (by simp) fun t H6 nt f6 et => ?_
      walk_at "rh"
      exact q _ (.name y) H6 ((f24.trans f5).trans f6.nil) (hat5.mono f6) (Nat.zero_le _) trivial (Rp2 et rfl)
  walk_at "rs"
  have e0 : decide (V.int ((dd : Nat) : Int) = V.int 0) = decide (dd = 0) := by
    refine decide_eq_decide.mpr ⟨fun z => ?_, fun z => by rw [z]; rfl⟩
    have := V.int.inj z; omega
  rw [e0]
  refine ite2 (fun hc => leaf H1 f1 hat1) (fun hc => ?_)
  have hd0 : dd ≠ 0 := by simpa using hc
  walk_at "rs"
  refine ite2 (fun hc => leaf H1 f1 hat1) (fun hc => ?_)
  walk_at "rs"
  refine rd_newL (by simp) fun p H3 np f3 ep => ?_
  have hat3 := hat1.mono f3
  have f13 := f1.trans f3.nil
  refine rd_eqNilS hok (SqL.of (f3.at (f1.at2 hl nlh nlc))) (SqL.of ep) ?_
  walk_at "rs"
  cases hdec : decide (ns = []) with
  | true => exact leaf H3 f13 hat3
  | false =>
    refine hU _ ?_
    dsimp only
    walk_at "rh"
    have l3 := f13.at2 hl nlh nlc
    obtain ⟨d1, rfl⟩ : ∃ d1, dd = d1 + 1 := ⟨dd - 1, by omega⟩
    have ed : (((d1 + 1 : Nat) : Int) - 1) = ((d1 : Nat) : Int) := by omega
    refine ite2 (fun _ => ?_) (fun _ => ?_)
    · walk_at "rh"
      refine ⟨h, c, l, ns, d1, by rw [ed]; rfl, by omega, by omega, hat3, l3, nlh, nlc, hns, hok, fun v1 e1 H4 f4 hat4 de1 se1 r1 => ?_⟩
      walk_at "rh"
      have f34 := f13.trans f4
      refine ⟨h, c, l, ns, d1, by rw [ed]; rfl, by omega, by omega, hat4, f34.at2 hl nlh nlc, nlh, nlc, hns, hok, fun v2 e2 H5 f5 hat5 de2 se2 r2 => ?_⟩
      walk_at "rh"
      refine rd_newT (by simp) fun t H6 nt f6 et => ?_
      walk_at "rh"
      have r1' := (r1.mono (hat4.kp f5)).mono f6.kp0
      exact q _ (.add e1 e2) H6 ((f34.trans f5).trans f6.nil) (hat5.mono f6) (by simp only [depE]; omega) ⟨se1, se2⟩ (Rp3 et r1' (r2.mono f6.kp0))
    · walk_at "rh"
      refine ⟨h, c, l, ns, d1, by rw [ed]; rfl, by omega, by omega, hat3, l3, nlh, nlc, hns, hok, fun v1 e1 H4 f4 hat4 de1 se1 r1 => ?_⟩
      walk_at "rh"
      have f34 := f13.trans f4
      refine ⟨h, c, l, ns, d1, by rw [ed]; rfl, by omega, by omega, hat4, f34.at2 hl nlh nlc, nlh, nlc, hns, hok, fun v2 e2 H5 f5 hat5 de2 se2 r2 => ?_⟩
      walk_at "rh"
      refine rd_newT (by simp) fun t H6 nt f6 et => ?_
      walk_at "rh"
      have r1' := (r1.mono (hat4.kp f5)).mono f6.kp0
      exact q _ (.mul e1 e2) H6 ((f34.trans f5).trans f6.nil) (hat5.mono f6) (by simp only [depE]; omega) ⟨se1, se2⟩ (Rp3 et r1' (r2.mono f6.kp0))
theorem ok_part (T : Blt mg) (n : Nat) (F : Here K mg "_law_part" s__law_part ["_law_h", "_law_some", "_law_deep"]) (D__law_next : DefOk P w K mg base CX0 "_law_next" ["_law_h", "_law_many"] 1 (spNext n)) : ∀ m, DefOk P w K mg base CX0 "_law_part" ["_law_h", "_law_some", "_law_deep"] (m + 1) (spPart K n m)
  | 0 => (none_sp F fun vs H Q E h => by obtain ⟨_, _, _, _, _, _, h, _⟩ := h; omega).mono (by omega)
  | m + 1 => ok_part1 T n m F D__law_next (ok_part T n F D__law_next m)
end
end Lf
namespace Lf
open PySem PySem.Spec PyProof.Rows L2
/-! ### measures, and what names grow by -/
theorem ite2f {c : Prop} [Decidable c] {A B : Prop} (h2 : B) (h1 : A) : if c then A else B := by split <;> assumption
theorem PaB.le {G : Str → Prop} {last : Str} {c d : Nat} {e : Ex} (h : PaB G last c e) (l : c ≤ d) : PaB G last d e := fun ρ n hn hB => Nat.lt_of_lt_of_le (h ρ n hn hB) (Nat.mul_le_mul_right _ l)
def spMeas (K : PySem.W.Frag) (n : Nat) : Sp := fun vs H Q _ => ∃ (h c l : Addr) (g : Str) (ns : List Str), vs = [.ref h, .str g, .ref l] ∧ HAt H h c n ∧ H l = some (.lst (ns.map V.str)) ∧ l ≠ h ∧ l ≠ c ∧ ns.length ≤ 100 ∧ (∀ x ∈ ns, okC x) ∧
  ∀ v e H2, Fr [h, c] H H2 → HAt H2 h c n → depE e ≤ 2 → smE e → Rp K H2 (encE e) v → Q v H2
def spGrow (K : PySem.W.Frag) (n : Nat) : Sp := fun vs H Q _ => ∃ (G : Str → Prop) (last : Str) (h c l k : Addr) (ns ms : List Str), vs = [.ref h, .ref l, .ref k] ∧ HAt H h c n ∧ H l = some (.lst (ns.map V.str)) ∧ l ≠ h ∧ l ≠ c ∧ ns.length ≤ 100 ∧ (∀ x ∈ ns, okC x ∧ G x) ∧
  H k = some (.lst (ms.map V.str)) ∧ k ≠ h ∧ k ≠ c ∧ ms.length ≤ 100 ∧ (∀ x ∈ ms, okC x) ∧
  ∀ v e H2, Fr [h, c] H H2 → HAt H2 h c n → depE e ≤ 2 → smE e → PaB G last 4 e → Rp K H2 (encE e) v → Q v H2
section
variable {P : Program} {w : World} {K : PySem.W.Frag} {mg : Str → Option Value} {base : Heap}
abbrev s__law_measure : Stmt := top 17
abbrev N__law_measure : List Str := ["_law_h", "_law_guard", "_law_calm", "_law_name", "_law_some", "_law_found"]
theorem sc__law_measure : FnScope N__law_measure ["_law_h", "_law_guard", "_law_calm"] (defScope s__law_measure) := ⟨rfl, rfl, rfl, by decide +kernel, rfl, by decide +kernel, by decide +kernel⟩
theorem ok_meas (T : Blt mg) (n : Nat) (F : Here K mg "_law_measure" s__law_measure ["_law_h", "_law_guard", "_law_calm"]) (D__law_next : DefOk P w K mg base CX0 "_law_next" ["_law_h", "_law_many"] 1 (spNext n)) :
    DefOk P w K mg base CX0 "_law_measure" ["_law_h", "_law_guard", "_law_calm"] 2 (spMeas K n) := by
  refine F.ok sc__law_measure (fun vs H Q E h => ?_) (fun f cdv A outer s H vs Q E hr h => ?_)
  · obtain ⟨_, _, _, _, _, rfl, _⟩ := h; rfl
  obtain ⟨h, c, l, g, ns, rfl, hat, hl, nlh, nlc, hns, hok, q⟩ := h
  have hu64 := hr.units
  have hr__law_next := hr.mono (j := 1) (by omega)
  refine ⟨_, (pss_cons (ps_set (i := 3) sc__law_measure.nd rfl (Or.inl rfl) (pe_tup (pa_cons pe_str (pa_cons (pv 1) pa_nil))))
    (pss_cons (ps_set (i := 4) sc__law_measure.nd rfl (Or.inl rfl) (pe_lst (pa_cons (pv 3) (pa_cons (pe_tup (pa_cons pe_str (pa_cons (pv 3) (pa_cons (pe_tup (pa_cons pe_str (pa_cons (pe_callD D__law_next hr__law_next pass0 (pa_cons (pv 0) (pa_cons pe_int pa_nil))) pa_nil))) pa_nil)))) (pa_cons (pe_tup (pa_cons pe_str (pa_cons (pe_tup (pa_cons pe_str (pa_cons (pe_op op_plus pe_int (pe_callD D__law_next hr__law_next pass0 (pa_cons (pv 0) (pa_cons pe_int pa_nil)))) pa_nil))) (pa_cons (pv 3) pa_nil)))) pa_nil)))))
    (pss_cons (ps_set (i := 5) sc__law_measure.nd rfl (Or.inl rfl) (pe_ix ix_seq (pe_op op_plus (pv 4) (pe_lst (pa_cons (pe_tup (pa_cons pe_str (pa_cons (pv 3) (pa_cons (pv 3) pa_nil)))) pa_nil))) (pe_callD D__law_next hr__law_next pass0 (pa_cons (pv 0) (pa_cons pe_int pa_nil))) (fun _ _ => rfl)))
    (pss_cons (ps_if (PW.pt (pw_and (pt_cmpR (op_neA hu64) (pv 2) (pe_lst pa_nil) (nomark _)) (pw_and1 (pt_cmpR (op_eqA hu64) (pe_callD D__law_next hr__law_next pass0 (pa_cons (pv 0) (pa_cons pe_int pa_nil))) pe_int (nomark _)))))
    (pss_one (ps_set (i := 5) sc__law_measure.nd rfl (Or.inl rfl) (pe_tup (pa_cons pe_str (pa_cons (pv 5) (pa_cons (pe_tup (pa_cons pe_str (pa_cons (pe_ix ix_seq (pv 2) (pe_callD D__law_next hr__law_next pass0 (pa_cons (pv 0) (pa_cons (pe_callB call_lenA (by rfl) T.n_len PySem.boot_len (pa_cons (pv 2) pa_nil)) pa_nil))) (fun _ _ => rfl)) pa_nil))) pa_nil))))))
    pss_nil)
    (pss_one (ps_ret (pv 5))))))), ?_⟩
  walk_at "rh"
  refine rd_newT (by simp) fun t0 H1 nt0 f1 et0 => ?_
  have r0 : Rp K H1 (encE (.name g)) (.ref t0) := Rp2 et0 rfl
  walk_at "rh"
  walk_at "nx"
  intro a H2 a0 a1 f2 k2 hat2
  walk_at "rh"
  refine rd_newT (by simp) fun t1 H3 nt1 f3 et1 => ?_
  walk_at "rh"
  refine rd_newT (by simp) fun t2 H4 nt2 f4 et2 => ?_
  walk_at "rh"
  have k14 : Kp H1 H4 := by walk_at "kp"
  have r2 : Rp K H4 (encE (.add (.name g) (.num a))) (.ref t2) := Rp3 et2 (r0.mono k14) ((show Rp K H3 (encE (.num a)) (.ref t1) from Rp2 et1 rfl).mono f4.kp0)
  walk_at "nx"
  intro b H5 b0 b1 f5 k5 hat5
  walk_at "rh"
  refine rd_newT (by simp) fun t3 H6 nt3 f6 et3 => ?_
  walk_at "rh"
  refine rd_newT (by simp) fun t4 H7 nt4 f7 et4 => ?_
  walk_at "rh"
  have k17 : Kp H1 H7 := by walk_at "kp"
  have r4 : Rp K H7 (encE (.mul (.num (1 + b)) (.name g))) (.ref t4) := Rp3 et4 ((show Rp K H6 (encE (.num (1 + b))) (.ref t3) from Rp2 et3 rfl).mono f7.kp0) (r0.mono k17)
  refine rd_newL (by simp) fun p8 H8 np8 f8 ep8 => ?_
  walk_at "rh"
  refine rd_newT (by simp) fun t5 H9 nt5 f9 et5 => ?_
  have k19 : Kp H1 H9 := by walk_at "kp"
  have r5 : Rp K H9 (encE (.mul (.name g) (.name g))) (.ref t5) := Rp3 et5 (r0.mono k19) (r0.mono k19)
  walk_at "rh"
  refine rd_newL (by simp) fun p10 H10 np10 f10 ep10 => ?_
  refine rd_plusL (f10.at (f9.at ep8)) ep10 (by rw [sizeLine_eq]; simp) fun p11 H11 np11 f11 ep11 => ?_
  have hat11 := (((hat5.mono f6).mono f7).mono f8).mono f9 |>.mono f10 |>.mono f11
  have ⟨n11h, n11c⟩ := (((hat5.mono f6).mono f7).mono f8).mono f9 |>.mono f10 |>.new np11
  walk_at "rh"
  refine c_next hat11 (by omega) fun j H12 j0 j1 f12 k12 hat12 => ?_
  obtain ⟨u, hu, au⟩ := atI_in (vs := [V.ref t0, .ref t2, .ref t4] ++ [.ref t5]) j0 (by simpa using j1)
  refine rd_ixH (f12.at2 ep11 n11h n11c) au ?_
  have k9 : Kp H9 H12 := (f10.kp0.trans f11.kp0).trans k12
  have k7 : Kp H7 H12 := (f8.kp0.trans f9.kp0).trans k9
  have k4 : Kp H4 H12 := ((k5.trans f6.kp0).trans f7.kp0).trans k7
  have k1 : Kp H1 H12 := k14.trans k4
  have hu2 : ∃ e, depE e ≤ 1 ∧ smE e ∧ Rp K H12 (encE e) u := by
    simp only [List.cons_append, List.nil_append, List.mem_cons, List.not_mem_nil, or_false] at hu
    rcases hu with rfl | rfl | rfl | rfl
    · exact ⟨.name g, Nat.zero_le _, trivial, r0.mono k1⟩
    · exact ⟨.add (.name g) (.num a), by simp [depE], ⟨trivial, by show a.natAbs < 2 ^ 10; omega⟩, r2.mono k4⟩
    · exact ⟨.mul (.num (1 + b)) (.name g), by simp [depE], ⟨by show (1 + b).natAbs < 2 ^ 10; omega, trivial⟩, r4.mono k7⟩
    · exact ⟨.mul (.name g) (.name g), by simp [depE], ⟨trivial, trivial⟩, r5.mono k9⟩
  obtain ⟨e, de, se, re⟩ := hu2
  have FF : Fr [h, c] H H12 := (((((((((f1.nil.trans f2).trans f3.nil).trans f4.nil).trans f5).trans f6.nil).trans f7.nil).trans f8.nil).trans f9.nil).trans f10.nil |>.trans f11.nil |>.trans f12)
  walk_at "rs"
  with_reducible refine rd_seqc fun N hN => ?_
  have done : ∀ o x H13, Fr [h, c] H H13 → HAt H13 h c n → (∃ e, depE e ≤ 2 ∧ smE e ∧ Rp K H13 (encE e) x) → N [some (.ref h), some (.str g), some (.ref l), some (.ref t0), o, some x] H13 := fun o x H13 f13 hat13 ⟨e, de, se, re⟩ => by
    refine hN _ _ ?_
    walk_at "rh"
    exact q _ e H13 f13 hat13 de se re
  refine rd_ifc fun N2 hT hU => ?_
  walk_at "rh"
  refine rd_newL (by simp) fun p13 H13 np13 f13 ep13 => ?_
  have l13 := f13.at (FF.at2 hl nlh nlc)
  refine rd_neNilS hok (SqL.of l13) (SqL.of ep13) ?_
  walk_at "rh"
  have hat13 := hat12.mono f13
  have no : ∀ H14, Fr [h, c] H12 H14 → HAt H14 h c n → N2 false H14 := fun H14 f14 hat14 => by
    refine hU _ ?_
    walk_at "rh"
    exact done _ _ H14 (FF.trans f14) hat14 ⟨e, by omega, se, re.mono (hat12.kp f14)⟩
  refine ite2 (fun hc => ?_) (fun hc => no H13 f13.nil hat13)
  have hne : ns ≠ [] := by simpa using hc
  have hpos : 0 < ns.length := List.length_pos_iff.mpr hne
  walk_at "rh"
  refine c_next hat13 (by omega) fun z H14 z0 z1 f14 k14 hat14 => ?_
  walk_at "rh"
  cases hdec : decide (V.int z = V.int 0) with
  | false => exact no H14 (f13.nil.trans f14) hat14
  | true =>
    refine hT _ ?_
    walk_at "rh"
    dsimp only
    have F14 := (FF.trans f13.nil).trans f14
    have l14 := F14.at2 hl nlh nlc
    try rw [len_ns]
    refine c_next hat14 (by omega) fun r H15 r0 r1 f15 k15 hat15 => ?_
    obtain ⟨y, hy, ay⟩ := atI_strs r0 r1
    refine rd_ixH (f15.at2 l14 nlh nlc) ay ?_
    walk_at "rh"
    refine rd_newT (by simp) fun t16 H16 nt16 f16 et16 => ?_
    walk_at "rh"
    refine rd_newT (by simp) fun t17 H17 nt17 f17 et17 => ?_
    walk_at "rh"
    have kk : Kp H12 H17 := (((f13.kp0.trans k14).trans k15).trans f16.kp0).trans f17.kp0
    exact done _ _ H17 (((F14.trans f15).trans f16.nil).trans f17.nil) ((hat15.mono f16).mono f17) ⟨.add e (.name y), by simp only [depE]; omega, ⟨se, trivial⟩, Rp3 et17 (re.mono kk) ((show Rp K H16 (encE (.name y)) (.ref t16) from Rp2 et16 rfl).mono f17.kp0)⟩
abbrev s__law_grow : Stmt := top 19
abbrev N__law_grow : List Str := ["_law_h", "_law_low", "_law_some", "_law_one", "_law_other"]
theorem sc__law_grow : FnScope N__law_grow ["_law_h", "_law_low", "_law_some"] (defScope s__law_grow) := ⟨rfl, rfl, rfl, by decide +kernel, rfl, by decide +kernel, by decide +kernel⟩
theorem ok_grow (T : Blt mg) (n : Nat) (F : Here K mg "_law_grow" s__law_grow ["_law_h", "_law_low", "_law_some"]) (D__law_next : DefOk P w K mg base CX0 "_law_next" ["_law_h", "_law_many"] 1 (spNext n)) :
    DefOk P w K mg base CX0 "_law_grow" ["_law_h", "_law_low", "_law_some"] 2 (spGrow K n) := by
  refine F.ok sc__law_grow (fun vs H Q E h => ?_) (fun f cdv A outer s H vs Q E hr h => ?_)
  · obtain ⟨_, _, _, _, _, _, _, _, rfl, _⟩ := h; rfl
  obtain ⟨G, last, h, c, l, m, ns, ms, rfl, hat, hl, nlh, nlc, hns, hok, hm, nmh, nmc, hms, hokm, q⟩ := h
  have hu64 := hr.units
  have hr__law_next := hr.mono (j := 1) (by omega)
  refine ⟨_, (pss_cons (ps_set (i := 3) sc__law_grow.nd rfl (Or.inl rfl) (pe_tup (pa_cons pe_str (pa_cons (pe_callD D__law_next hr__law_next pass0 (pa_cons (pv 0) (pa_cons pe_int pa_nil))) pa_nil))))
    (pss_cons (ps_if (PW.pt (pw_and (pt_cmpR (op_neA hu64) (pv 1) (pe_lst pa_nil) (nomark _)) (pw_and1 (pt_cmpR op_gt (pe_callD D__law_next hr__law_next pass0 (pa_cons (pv 0) (pa_cons pe_int pa_nil))) pe_int (nomark _)))))
    (pss_cons (ps_set (i := 3) sc__law_grow.nd rfl (Or.inl rfl) (pe_tup (pa_cons pe_str (pa_cons (pe_ix ix_seq (pv 1) (pe_callD D__law_next hr__law_next pass0 (pa_cons (pv 0) (pa_cons (pe_callB call_lenA (by rfl) T.n_len PySem.boot_len (pa_cons (pv 1) pa_nil)) pa_nil))) (fun _ _ => rfl)) pa_nil))))
    (pss_one (ps_if (pt_cmpR (op_eqA hu64) (pe_callD D__law_next hr__law_next pass0 (pa_cons (pv 0) (pa_cons pe_int pa_nil))) pe_int (nomark _))
    (pss_one (ps_set (i := 3) sc__law_grow.nd rfl (Or.inl rfl) (pe_tup (pa_cons pe_str (pa_cons (pv 3) (pa_cons (pe_tup (pa_cons pe_str (pa_cons (pe_ix ix_seq (pv 1) (pe_callD D__law_next hr__law_next pass0 (pa_cons (pv 0) (pa_cons (pe_callB call_lenA (by rfl) T.n_len PySem.boot_len (pa_cons (pv 1) pa_nil)) pa_nil))) (fun _ _ => rfl)) pa_nil))) pa_nil))))))
    pss_nil)))
    pss_nil)
    (pss_cons (ps_set (i := 4) sc__law_grow.nd rfl (Or.inl rfl) (pe_tup (pa_cons pe_str (pa_cons (pe_ix ix_seq (pe_lst (pa_cons (pe_callD D__law_next hr__law_next pass0 (pa_cons (pv 0) (pa_cons pe_int pa_nil))) (pa_cons (pe_callD D__law_next hr__law_next pass0 (pa_cons (pv 0) (pa_cons pe_int pa_nil))) pa_nil))) (pe_callD D__law_next hr__law_next pass0 (pa_cons (pv 0) (pa_cons pe_int pa_nil))) (fun _ _ => rfl)) pa_nil))))
    (pss_cons (ps_if (PW.pt (pw_and (pt_cmpR (op_neA hu64) (pv 2) (pe_lst pa_nil) (nomark _)) (pw_and1 (pt_cmpR (op_eqA hu64) (pe_callD D__law_next hr__law_next pass0 (pa_cons (pv 0) (pa_cons pe_int pa_nil))) pe_int (nomark _)))))
    (pss_cons (ps_set (i := 4) sc__law_grow.nd rfl (Or.inl rfl) (pe_tup (pa_cons pe_str (pa_cons (pe_ix ix_seq (pv 2) (pe_callD D__law_next hr__law_next pass0 (pa_cons (pv 0) (pa_cons (pe_callB call_lenA (by rfl) T.n_len PySem.boot_len (pa_cons (pv 2) pa_nil)) pa_nil))) (fun _ _ => rfl)) pa_nil))))
    (pss_one (ps_if (pt_cmpR (op_eqA hu64) (pe_callD D__law_next hr__law_next pass0 (pa_cons (pv 0) (pa_cons pe_int pa_nil))) pe_int (nomark _))
    (pss_one (ps_set (i := 4) sc__law_grow.nd rfl (Or.inl rfl) (pe_tup (pa_cons pe_str (pa_cons (pe_tup (pa_cons pe_str (pa_cons (pe_callD D__law_next hr__law_next pass0 (pa_cons (pv 0) (pa_cons pe_int pa_nil))) pa_nil))) (pa_cons (pv 4) pa_nil))))))
    pss_nil)))
    pss_nil)
    (pss_one (ps_ret (pe_tup (pa_cons pe_str (pa_cons (pv 3) (pa_cons (pv 4) pa_nil)))))))))), ?_⟩
  walk_at "rs"
  with_reducible refine rd_seq ?_
  walk_at "rs"
  walk_at "nx"
  intro a H1 a0 a1 f1 k1 hat1
  walk_at "rs"
  refine rd_newT (by simp) fun t1 H2 nt1 f2 et1 => ?_
  walk_at "rs"
  have F2 := f1.trans f2.nil
  have hat2 := hat1.mono f2
  have p1 : ∃ e, depE e ≤ 1 ∧ smE e ∧ PaB G last 1 e ∧ Rp K H2 (encE e) (.ref t1) := ⟨.num a, Nat.zero_le _, by show a.natAbs < 2 ^ 10; omega, pa_num (by omega), Rp2 et1 rfl⟩
  with_reducible refine rd_seqc fun N hN => ?_
  have part2 : ∀ x H3, Fr [h, c] H H3 → HAt H3 h c n → (∃ e, depE e ≤ 1 ∧ smE e ∧ PaB G last 1 e ∧ Rp K H3 (encE e) x) → N [some (.ref h), some (.ref l), some (.ref m), some x, none] H3 := fun x H3 F3 hat3 ⟨e1, de1, se1, pb1, re1⟩ => by
    refine hN _ _ ?_
    clear hN p1
    walk_at "rs"
    with_reducible refine rd_seq ?_
    walk_at "rs"
    walk_at "nx"
    intro b H4 b0 b1 f4 k4 hat4
    walk_at "rs"
    walk_at "nx"
    intro b' H5 b0' b1' f5 k5 hat5
    walk_at "rs"
    refine rd_newL (by simp) fun p6 H6 np6 f6 ep6 => ?_
    have ⟨n6h, n6c⟩ := hat5.new np6
    have hat6 := hat5.mono f6
    walk_at "rs"
    walk_at "nx"
    intro j H7 j0 j1 f7 k7 hat7
    have ja : ∃ v : Int, atI [V.int b, .int b'] j = some (.int v) ∧ v.natAbs < 1000 := by
      have : j = 0 ∨ j = 1 := by omega
      rcases this with rfl | rfl
      · exact ⟨b, rfl, by omega⟩
      · exact ⟨b', rfl, by omega⟩
    obtain ⟨v, av, hv⟩ := ja
    refine rd_ixH (f7.at2 ep6 n6h n6c) av ?_
    walk_at "rs"
    refine rd_newT (by simp) fun t8 H8 nt8 f8 et8 => ?_
    walk_at "rs"
    have F8 := ((((F3.trans f4).trans f5).trans f6.nil).trans f7).trans f8.nil
    have K8 : Kp H3 H8 := (((k4.trans k5).trans f6.kp0).trans k7).trans f8.kp0
    have hat8 := hat7.mono f8
    have p2 : ∃ e, depE e ≤ 1 ∧ smE e ∧ PaB G last 3 e ∧ Rp K H8 (encE e) (.ref t8) := ⟨.num v, Nat.zero_le _, by show v.natAbs < 2 ^ 10; omega, (pa_num (by omega)).le (by omega), Rp2 et8 rfl⟩
    with_reducible refine rd_seqc fun N3 hN3 => ?_
    have part3 : ∀ y H9, Fr [h, c] H H9 → Kp H3 H9 → HAt H9 h c n → (∃ e, depE e ≤ 1 ∧ smE e ∧ PaB G last 3 e ∧ Rp K H9 (encE e) y) → N3 [some (.ref h), some (.ref l), some (.ref m), some x, some y] H9 := fun y H9 F9 K9 hat9 ⟨e2, de2, se2, pb2, re2⟩ => by
      refine hN3 _ _ ?_
      clear hN3 p2
      walk_at "rh"
      refine rd_newT (by simp) fun t10 H10 nt10 f10 et10 => ?_
      walk_at "rh"
      exact q _ (.add e1 e2) H10 (F9.trans f10.nil) (hat9.mono f10) (by simp only [depE]; omega) ⟨se1, se2⟩ (pa_add pb1 pb2) (Rp3 et10 ((re1.mono K9).mono f10.kp0) (re2.mono f10.kp0))
    refine rd_ifc fun N4 hT hU => ?_
    walk_at "rh"
    refine rd_newL (by simp) fun p9 H9 np9 f9 ep9 => ?_
    have m9 := f9.at (F8.at2 hm nmh nmc)
    refine rd_neNilS hokm (SqL.of m9) (SqL.of ep9) ?_
    walk_at "rh"
    have no : ∀ H10, Fr [h, c] H8 H10 → HAt H10 h c n → N4 false H10 := fun H10 f10 hat10 => by
      refine hU _ ?_
      walk_at "rh"
      obtain ⟨e, x1, x2, x3, x4⟩ := p2
      exact part3 _ H10 (F8.trans f10) (K8.trans (hat8.kp f10)) hat10 ⟨e, x1, x2, x3, x4.mono (hat8.kp f10)⟩
    refine ite2 (fun hc => ?_) (fun hc => no H9 f9.nil (hat8.mono f9))
    have hpos : 0 < ms.length := List.length_pos_iff.mpr (by simpa using hc)
    walk_at "rh"
    refine c_next (hat8.mono f9) (by omega) fun z H10 z0 z1 f10 k10 hat10 => ?_
    walk_at "rh"
    cases hdec : decide (V.int z = V.int 0) with
    | false => exact no H10 (f9.nil.trans f10) hat10
    | true =>
      refine hT _ ?_
      with_reducible refine rd_seq ?_
      walk_at "rs"
      have F10 := (F8.trans f9.nil).trans f10
      have m10 := F10.at2 hm nmh nmc
      try rw [len_ns]
      refine c_next hat10 (by omega) fun r H11 r0 r1 f11 k11 hat11 => ?_
      obtain ⟨y, hy, ay⟩ := atI_strs r0 r1
      refine rd_ixH (f11.at2 m10 nmh nmc) ay ?_
      walk_at "rs"
      refine rd_newT (by simp) fun t12 H12 nt12 f12 et12 => ?_
      walk_at "rs"
      have F12 := (F10.trans f11).trans f12.nil
      have hat12 := hat11.mono f12
      have K12 : Kp H3 H12 := (((K8.trans f9.kp0).trans k10).trans k11).trans f12.kp0
      have ry : Rp K H12 (encE (.name y)) (.ref t12) := Rp2 et12 rfl
      walk_at "nx"
      intro z2 H13 z20 z21 f13 k13 hat13
      walk_at "rs"
      refine Lf.ite2f ?_ ?_
      · skip
        walk_at "rh"
        exact part3 _ H13 (F12.trans f13) (K12.trans k13) hat13 ⟨.name y, Nat.zero_le _, trivial, pa_name.le (by omega), ry.mono k13⟩
      · skip
        walk_at "rh"
        walk_at "nx"
        intro u H14 u0 u1 f14 k14 hat14
        walk_at "rh"
        refine rd_newT (by simp) fun t15 H15 nt15 f15 et15 => ?_
        walk_at "rh"
        refine rd_newT (by simp) fun t16 H16 nt16 f16 et16 => ?_
        walk_at "rh"
        exact part3 _ H16 (((((F12.trans f13).trans f14).trans f15.nil).trans f16.nil)) ((((K12.trans k13).trans k14).trans f15.kp0).trans f16.kp0) ((hat14.mono f15).mono f16)
          ⟨.mul (.num u) (.name y), by simp [depE], ⟨by show u.natAbs < 2 ^ 10; omega, trivial⟩, pa_times ⟨u0, by omega⟩, Rp3 et16 ((show Rp K H15 (encE (.num u)) (.ref t15) from Rp2 et15 rfl).mono f16.kp0) ((((ry.mono k13).mono k14).mono f15.kp0).mono f16.kp0)⟩
  refine rd_ifc fun N4 hT hU => ?_
  walk_at "rh"
  refine rd_newL (by simp) fun p9 H9 np9 f9 ep9 => ?_
  have l9 := f9.at (F2.at2 hl nlh nlc)
  refine rd_neNilS (fun x hx => (hok x hx).1) (SqL.of l9) (SqL.of ep9) ?_
  walk_at "rh"
  have no : ∀ H10, Fr [h, c] H2 H10 → HAt H10 h c n → N4 false H10 := fun H10 f10 hat10 => by
    refine hU _ ?_
    walk_at "rh"
    obtain ⟨e, x1, x2, x3, x4⟩ := p1
    exact part2 _ H10 (F2.trans f10) hat10 ⟨e, x1, x2, x3, x4.mono (hat2.kp f10)⟩
  refine ite2 (fun hc => ?_) (fun hc => no H9 f9.nil (hat2.mono f9))
  have hpos : 0 < ns.length := List.length_pos_iff.mpr (by simpa using hc)
  walk_at "rh"
  refine c_next (hat2.mono f9) (by omega) fun z H10 z0 z1 f10 k10 hat10 => ?_
  walk_at "rh"
  cases hdec : decide (z > 0) with
  | false => exact no H10 (f9.nil.trans f10) hat10
  | true =>
    refine hT _ ?_
    with_reducible refine rd_seq ?_
    walk_at "rs"
    have F10 := (F2.trans f9.nil).trans f10
    have l10 := F10.at2 hl nlh nlc
    try rw [len_ns]
    refine c_next hat10 (by omega) fun r H11 r0 r1 f11 k11 hat11 => ?_
    obtain ⟨y, hy, ay⟩ := atI_strs r0 r1
    refine rd_ixH (f11.at2 l10 nlh nlc) ay ?_
    walk_at "rs"
    refine rd_newT (by simp) fun t12 H12 nt12 f12 et12 => ?_
    walk_at "rs"
    have F12 := (F10.trans f11).trans f12.nil
    have hat12 := hat11.mono f12
    have ry : Rp K H12 (encE (.name y)) (.ref t12) := Rp2 et12 rfl
    walk_at "nx"
    intro z2 H13 z20 z21 f13 k13 hat13
    walk_at "rs"
    refine Lf.ite2f ?_ ?_
    · skip
      walk_at "rh"
      exact part2 _ H13 (F12.trans f13) hat13 ⟨.name y, Nat.zero_le _, trivial, pa_name, ry.mono k13⟩
    · skip
      walk_at "rh"
      have F13 := F12.trans f13
      have l13 := F13.at2 hl nlh nlc
      try rw [len_ns]
      refine c_next hat13 (by omega) fun r' H14 r0' r1' f14 k14 hat14 => ?_
      obtain ⟨y2, hy2, ay2⟩ := atI_strs r0' r1'
      refine rd_ixH (f14.at2 l13 nlh nlc) ay2 ?_
      walk_at "rh"
      refine rd_newT (by simp) fun t15 H15 nt15 f15 et15 => ?_
      walk_at "rh"
      refine rd_newT (by simp) fun t16 H16 nt16 f16 et16 => ?_
      walk_at "rh"
      exact part2 _ H16 (((F13.trans f14).trans f15.nil).trans f16.nil) ((hat14.mono f15).mono f16)
        ⟨.mul (.name y) (.name y2), by simp [depE], ⟨trivial, trivial⟩, pa_gg (hok y hy).2 (hok y2 hy2).2, Rp3 et16 ((((ry.mono k13).mono k14).mono f15.kp0).mono f16.kp0) ((show Rp K H15 (encE (.name y2)) (.ref t15) from Rp2 et15 rfl).mono f16.kp0)⟩
end
end Lf
namespace Lf
open PySem PySem.Spec PyProof.Rows L2
/-! ### rows and laps, drawn -/
structure Nm7 (xs : List Str) : Prop where
  len : xs.length = 7
  nd : xs.Nodup
  ok : ∀ x ∈ xs, okC x
def Gs (xs : List Str) (x : Str) : Prop := ∃ i, i < 3 ∧ xs[i]? = some x
def lastN (xs : List Str) : Str := xs[6]?.getD ""
theorem nm7_cases {xs : List Str} (h : xs.length = 7) : ∃ a0 a1 a2 a3 a4 a5 a6, xs = [a0, a1, a2, a3, a4, a5, a6] := by
  match xs, h with
  | [a0, a1, a2, a3, a4, a5, a6], _ => exact ⟨a0, a1, a2, a3, a4, a5, a6, rfl⟩
theorem gs_iff {a0 a1 a2 a3 a4 a5 a6 x : Str} : Gs [a0, a1, a2, a3, a4, a5, a6] x ↔ x = a0 ∨ x = a1 ∨ x = a2 := by
  constructor
  · rintro ⟨i, hi, e⟩
    have : i = 0 ∨ i = 1 ∨ i = 2 := by omega
    rcases this with rfl | rfl | rfl
    · exact .inl (Option.some.inj e).symm
    · exact .inr (.inl (Option.some.inj e).symm)
    · exact .inr (.inr (Option.some.inj e).symm)
  · rintro (rfl | rfl | rfl)
    · exact ⟨0, by omega, rfl⟩
    · exact ⟨1, by omega, rfl⟩
    · exact ⟨2, by omega, rfl⟩
theorem guard_at {xs : List Str} (h : Nm7 xs) {i : Int} (h0 : 0 ≤ i) (h1 : i ≤ 2) : ∃ g, atI (xs.map V.str) i = some (.str g) ∧ Gs xs g ∧ g ≠ lastN xs := by
  obtain ⟨a0, a1, a2, a3, a4, a5, a6, rfl⟩ := nm7_cases h.len
  have nd := h.nd
  simp only [List.nodup_cons, List.mem_cons, List.not_mem_nil, or_false, not_or] at nd
  have : i = 0 ∨ i = 1 ∨ i = 2 := by omega
  rcases this with rfl | rfl | rfl
  · exact ⟨a0, rfl, gs_iff.mpr (.inl rfl), nd.1.2.2.2.2.2⟩
  · exact ⟨a1, rfl, gs_iff.mpr (.inr (.inl rfl)), nd.2.1.2.2.2.2⟩
  · exact ⟨a2, rfl, gs_iff.mpr (.inr (.inr rfl)), nd.2.2.1.2.2.2⟩
theorem other_at {xs : List Str} (h : Nm7 xs) {i : Int} (h0 : 3 ≤ i) (h1 : i ≤ 5) : ∃ g, atI (xs.map V.str) i = some (.str g) ∧ ¬ Gs xs g ∧ g ≠ lastN xs := by
  obtain ⟨a0, a1, a2, a3, a4, a5, a6, rfl⟩ := nm7_cases h.len
  have nd := h.nd
  simp only [List.nodup_cons, List.mem_cons, List.not_mem_nil, or_false, not_or] at nd
  have : i = 3 ∨ i = 4 ∨ i = 5 := by omega
  rcases this with rfl | rfl | rfl
  · refine ⟨a3, rfl, fun z => ?_, nd.2.2.2.1.2.2⟩
    rcases gs_iff.mp z with z | z | z
    · exact nd.1.2.2.1 z.symm
    · exact nd.2.1.2.1 z.symm
    · exact nd.2.2.1.1 z.symm
  · refine ⟨a4, rfl, fun z => ?_, nd.2.2.2.2.1.2⟩
    rcases gs_iff.mp z with z | z | z
    · exact nd.1.2.2.2.1 z.symm
    · exact nd.2.1.2.2.1 z.symm
    · exact nd.2.2.1.2.1 z.symm
  · refine ⟨a5, rfl, fun z => ?_, nd.2.2.2.2.2.1⟩
    rcases gs_iff.mp z with z | z | z
    · exact nd.1.2.2.2.2.1 z.symm
    · exact nd.2.1.2.2.2.1 z.symm
    · exact nd.2.2.1.2.2.1 z.symm
theorem last_at {xs : List Str} (h : Nm7 xs) : atI (xs.map V.str) 6 = some (.str (lastN xs)) ∧ ¬ Gs xs (lastN xs) := by
  obtain ⟨a0, a1, a2, a3, a4, a5, a6, rfl⟩ := nm7_cases h.len
  have nd := h.nd
  simp only [List.nodup_cons, List.mem_cons, List.not_mem_nil, or_false, not_or] at nd
  refine ⟨rfl, fun z => ?_⟩
  rcases gs_iff.mp z with z | z | z
  · exact nd.1.2.2.2.2.2 (show a6 = a0 from z).symm
  · exact nd.2.1.2.2.2.2 (show a6 = a1 from z).symm
  · exact nd.2.2.1.2.2.2 (show a6 = a2 from z).symm
theorem cut_strs (xs : List Str) (lo hi : Option Int) : ∃ ms : List Str, cutV (xs.map V.str) lo hi = ms.map V.str ∧ ms.length ≤ xs.length ∧ ∀ x ∈ ms, x ∈ xs := by
  refine ⟨(xs.drop (HT.sIx xs.length 0 lo)).take (HT.sIx xs.length xs.length hi - HT.sIx xs.length 0 lo), ?_, ?_, fun x hx => List.mem_of_mem_drop (List.mem_of_mem_take hx)⟩
  · unfold cutV
    rw [List.length_map, List.map_take, List.map_drop]
  · rw [List.length_take, List.length_drop]; omega
theorem low_at {xs : List Str} (h : Nm7 xs) {d : Nat} (hd : d ≤ 3) : ∃ ns : List Str, cutV (xs.map V.str) none (some (d : Int)) = ns.map V.str ∧ ns.length ≤ 7 ∧ ∀ x ∈ ns, okC x ∧ Gs xs x := by
  obtain ⟨ns, e, hl, hm⟩ := cut_strs xs none (some (d : Int))
  refine ⟨ns, e, by have := h.len; omega, fun x hx => ⟨h.ok x (hm x hx), ?_⟩⟩
  obtain ⟨a0, a1, a2, a3, a4, a5, a6, rfl⟩ := nm7_cases h.len
  have inj : ∀ l m : List Str, l.map V.str = m.map V.str → l = m := by
    intro l
    induction l with
    | nil => intro m z; cases m with | nil => rfl | cons _ _ => cases z
    | cons a l ih =>
      intro m z
      cases m with
      | nil => cases z
      | cons b m =>
        simp only [List.map_cons, List.cons.injEq, V.str.injEq] at z
        rw [z.1, ih m z.2]
  have : d = 0 ∨ d = 1 ∨ d = 2 ∨ d = 3 := by omega
  rcases this with rfl | rfl | rfl | rfl
  · have q := inj [] ns e
    subst q; simp at hx
  · have q := inj [a0] ns e
    subst q; exact gs_iff.mpr (by simp at hx; exact .inl hx)
  · have q := inj [a0, a1] ns e
    subst q; exact gs_iff.mpr (by simp at hx; rcases hx with z | z <;> simp [z])
  · have q := inj [a0, a1, a2] ns e
    subst q; exact gs_iff.mpr (by simpa using hx)
theorem rpl_snoc {K : PySem.W.Frag} {H : Hp} {x : D} {u : V} (hu : Rp K H x u) : ∀ {ds : List D} {vs : List V}, RpL K H ds vs → RpL K H (ds ++ [x]) (vs ++ [u])
  | [], vs, z => by
    cases (show vs = [] from z)
    exact ⟨u, [], rfl, hu, rfl⟩
  | d :: ds, vs, z => by
    obtain ⟨v, r, rfl, z1, z2⟩ := z
    exact ⟨v, _, rfl, z1, rpl_snoc hu z2⟩
theorem encL_app : ∀ (a b : List Sm), encL (a ++ b) = encL a ++ encL b
  | [], b => rfl
  | x :: a, b => by simp [encL, encL_app a b]
theorem gd_app {G : Str → Prop} {last : Str} {W : Nat} : ∀ {a b : List Sm}, gdL G last W a → gdL G last W b → gdL G last W (a ++ b)
  | [], b, _, h => h
  | x :: a, b, h, g => ⟨h.1, gd_app h.2 g⟩
theorem depL_app : ∀ (a b : List Sm), depL (a ++ b) = max (depL a) (depL b)
  | [], b => by simp [depL]
  | x :: a, b => by simp only [List.cons_append, depL, depL_app a b]; omega
theorem cntL_app : ∀ (a b : List Sm), cntL (a ++ b) = cntL a + cntL b
  | [], b => by simp [cntL]
  | x :: a, b => by simp only [List.cons_append, cntL, cntL_app a b]; omega
/-- the parts of a row that is being drawn -/
structure RowI (K : PySem.W.Frag) (H : Hp) (p : Addr) (r : List Sm) (vs : List V) : Prop where
  at_ : H p = some (.lst vs)
  rp : RpL K H (encL r) vs
theorem RowI.len {K : PySem.W.Frag} {H : Hp} {p : Addr} {r : List Sm} {vs : List V} (h : RowI K H p r vs) : vs.length = r.length := by
  rw [RpL.length h.rp, encL_len]
theorem RowI.push {K : PySem.W.Frag} {H H2 : Hp} {p : Addr} {r : List Sm} {vs : List V} {s : Sm} {v : V} (h : RowI K H p r vs) (k : Kp H H2) (e : H2 p = some (.lst (vs ++ [v]))) (hv : Rp K H2 (encS s) v) : RowI K H2 p (r ++ [s]) (vs ++ [v]) :=
  ⟨e, by rw [encL_app]; exact rpl_snoc hv (h.rp.mono k)⟩
theorem RowI.mono {K : PySem.W.Frag} {H H2 : Hp} {p : Addr} {r : List Sm} {vs : List V} (h : RowI K H p r vs) (k : Kp H H2) (e : H2 p = H p) : RowI K H2 p r vs := ⟨by rw [e]; exact h.at_, h.rp.mono k⟩
def spLapD (K : PySem.W.Frag) (n j : Nat) : Sp := fun vs H Q _ => ∃ (h c l : Addr) (xs : List Str) (d : Nat) (odd : Bool), vs = [.ref h, .ref l, .int (d : Int), .bl odd] ∧ Nm7 xs ∧ HAt H h c n ∧ H l = some (.lst (xs.map V.str)) ∧ l ≠ h ∧ l ≠ c ∧ d ≤ 2 ∧ 3 ≤ d + j ∧
  ∀ v g m r H2, Fr [h, c] H H2 → HAt H2 h c n → gdS (Gs xs) (lastN xs) 6 (.lap g m r) → depL r ≤ 2 - d → cntL r + 1 ≤ 10 + 10 * (2 - d) → Rp K H2 (encS (.lap g m r)) v → Q v H2
def spRowD (K : PySem.W.Frag) (n j : Nat) : Sp := fun vs H Q _ => ∃ (h c l : Addr) (xs : List Str) (d : Nat) (odd : Bool), vs = [.ref h, .ref l, .int (d : Int), .bl odd] ∧ Nm7 xs ∧ HAt H h c n ∧ H l = some (.lst (xs.map V.str)) ∧ l ≠ h ∧ l ≠ c ∧ d ≤ 3 ∧ 3 ≤ d + j ∧
  ∀ v r H2, Fr [h, c] H H2 → HAt H2 h c n → gdL (Gs xs) (lastN xs) 6 r → r.length ≤ 4 → (d = 3 → r.length ≤ 3) → depL r ≤ 3 - d → cntL r ≤ 5 + 10 * (3 - d) → Rp K H2 (encR r) v → Q v H2
section
variable {P : Program} {w : World} {K : PySem.W.Frag} {mg : Str → Option Value} {base : Heap}
abbrev s__law_lap : Stmt := top 18
abbrev N__law_lap : List Str := ["_law_h", "_law_names_here", "_law_depth", "_law_odd", "_law_guard", "_law_inner", "_law_last", "_law_more"]
theorem sc__law_lap : FnScope N__law_lap ["_law_h", "_law_names_here", "_law_depth", "_law_odd"] (defScope s__law_lap) := ⟨rfl, rfl, rfl, by decide +kernel, rfl, by decide +kernel, by decide +kernel⟩
theorem ok_lapD (T : Blt mg) (n j k : Nat) (hk : 2 ≤ k) (F : Here K mg "_law_lap" s__law_lap ["_law_h", "_law_names_here", "_law_depth", "_law_odd"]) (D__law_next : DefOk P w K mg base CX0 "_law_next" ["_law_h", "_law_many"] 1 (spNext n))
    (D__law_measure : DefOk P w K mg base CX0 "_law_measure" ["_law_h", "_law_guard", "_law_calm"] 2 (spMeas K n)) (D__law_row : DefOk P w K mg base CX0 "_law_row" ["_law_h", "_law_names_here", "_law_depth", "_law_odd"] k (spRowD K n j)) :
    DefOk P w K mg base CX0 "_law_lap" ["_law_h", "_law_names_here", "_law_depth", "_law_odd"] (k + 1) (spLapD K n (j + 1)) := by
  refine F.ok sc__law_lap (fun vs H Q E h => ?_) (fun f cdv A outer s H vs Q E hr h => ?_)
  · obtain ⟨_, _, _, _, _, _, rfl, _⟩ := h; rfl
  obtain ⟨h, c, l, xs, d, odd, rfl, nm, hat, hl, nlh, nlc, hd, hj, q⟩ := h
  have hu64 := hr.units
  have hr__law_next := hr.mono (j := 1) (by omega)
  have hr__law_measure := hr.mono (j := 2) (by omega)
  have hr__law_row := hr.mono (j := k) (by omega)
  refine ⟨_, (pss_cons (ps_set (i := 4) sc__law_lap.nd rfl (Or.inl rfl) (pe_ix ix_seq (pv 1) (pv 2) (fun _ _ => rfl)))
    (pss_cons (ps_if (PW.pt (pw_and (pt_val (pv 3)) (pw_and1 (pt_cmpR (op_eqA hu64) (pe_callD D__law_next hr__law_next pass0 (pa_cons (pv 0) (pa_cons pe_int pa_nil))) pe_int (nomark _)))))
    (pss_cons (ps_set (i := 5) sc__law_lap.nd rfl (Or.inl rfl) (pe_callD D__law_row hr__law_row pass0 (pa_cons (pv 0) (pa_cons (pv 1) (pa_cons pe_int (pa_cons (pv 3) pa_nil))))))
    (pss_cons (ps_set (i := 6) sc__law_lap.nd rfl (Or.inl rfl) (pe_tup (pa_cons pe_str (pa_cons (pe_ix ix_seq (pv 1) pe_int (fun _ _ => rfl)) pa_nil))))
    (pss_cons (ps_set (i := 7) sc__law_lap.nd rfl (Or.inl rfl) (pe_tup (pa_cons (pe_tup (pa_cons pe_str (pa_cons (pv 4) (pa_cons (pe_tup (pa_cons pe_str (pa_cons (pv 6) (pa_cons (pe_tup (pa_cons pe_str (pa_cons (pv 4) pa_nil))) pa_nil)))) pa_nil)))) (pa_cons (pe_tup (pa_cons pe_str (pa_cons (pe_ix ix_seq (pv 1) pe_int (fun _ _ => rfl)) (pa_cons (pe_tup (pa_cons pe_str (pa_cons pe_int pa_nil))) pa_nil)))) pa_nil))))
    (pss_one (ps_ret (pe_tup (pa_cons pe_str (pa_cons (pv 4) (pa_cons (pe_tup (pa_cons pe_str (pa_cons (pe_tup (pa_cons pe_str (pa_cons (pv 4) pa_nil))) (pa_cons (pv 6) pa_nil)))) (pa_cons (pe_tup (pa_cons pe_str (pa_cons (pe_op op_plus (pe_ix ix_seq (pv 5) pe_int (fun _ _ => rfl)) (pv 7)) pa_nil))) pa_nil))))))))))
    pss_nil)
    (pss_one (ps_ret (pe_tup (pa_cons pe_str (pa_cons (pv 4) (pa_cons (pe_callD D__law_measure hr__law_measure pass0 (pa_cons (pv 0) (pa_cons (pv 4) (pa_cons (pe_slice sl_any (pv 1) po_none (po_some (pv 2))) pa_nil)))) (pa_cons (pe_callD D__law_row hr__law_row pass0 (pa_cons (pv 0) (pa_cons (pv 1) (pa_cons (pe_op op_plus (pv 2) pe_int) (pa_cons (pv 3) pa_nil))))) pa_nil))))))))), ?_⟩
  obtain ⟨g, ag, gg, gl⟩ := guard_at nm (i := (d : Int)) (by omega) (by omega)
  have la := last_at nm
  walk_at "rs"
  with_reducible refine rd_seq ?_
  walk_at "rs"
  refine rd_ixH hl ag ?_
  walk_at "rs"
  with_reducible refine rd_seq ?_
  refine rd_ifc fun N hT hU => ?_
  have even : ∀ H2, Fr [h, c] H H2 → HAt H2 h c n → N false H2 := fun H2 f2 hat2 => by
    refine hU _ ?_
    walk_at "rh"
    dsimp only
    walk_at "rh"
    have l2 := f2.at2 hl nlh nlc
    refine rd_sl ?_
    walk_at "rh"
    refine rd_nopart ?_
    refine rd_part ?_
    walk_at "rh"
    refine rd_parti ?_
    obtain ⟨ns, ens, hns, hok⟩ := low_at nm (d := d) (by omega)
    refine rd_slL (SqL.of l2) fun p H3 np f3 ep => ?_
    rw [ens] at ep
    have ⟨nph, npc⟩ := hat2.new np
    walk_at "rh"
    refine ⟨h, c, p, g, ns, rfl, hat2.mono f3, ep, nph, npc, by omega, fun x hx => (hok x hx).1, fun v1 m H4 f4 hat4 dm sm rm => ?_⟩
    walk_at "rh"
    have f34 := (f2.trans f3.nil).trans f4
    refine ⟨h, c, l, xs, d + 1, odd, by simp, nm, hat4, f34.at2 hl nlh nlc, nlh, nlc, by omega, by omega, fun v2 r H5 f5 hat5 gr lr _ dr cr rr => ?_⟩
    walk_at "rh"
    refine rd_newT (by simp) fun t H6 nt f6 et => ?_
    walk_at "rh"
    have rm' := (rm.mono (hat4.kp f5)).mono f6.kp0
    refine q _ g m r H6 ((f34.trans f5).trans f6.nil) (hat5.mono f6) ⟨by omega, sm, by omega, gr⟩ (by omega) (by omega) (Rp4 et rfl rm' (rr.mono f6.kp0))
  walk_at "rs"
  refine ite2 (fun ho => ?_) (fun _ => even H (Fr.refl _ _) hat)
  walk_at "rs"
  walk_at "nx"
  intro z H1 z0 z1 f1 k1 hat1
  walk_at "rs"
  cases hdec : decide (V.int z = V.int 0) with
  | false => exact even H1 f1 hat1
  | true =>
    refine hT _ ?_
    clear hT hU even
    walk_at "rh"
    have l1 := f1.at2 hl nlh nlc
    refine ⟨h, c, l, xs, 3, odd, rfl, nm, hat1, l1, nlh, nlc, by omega, by omega, fun v1 r H2 f2 hat2 gr lr lr3 dr cr rr => ?_⟩
    obtain ⟨ta, _, rfl, hTa, _, _, rfl, rfl, _, _, rfl, ⟨tb, vs, rfl, hTb, hvs⟩, rfl⟩ := rr
    have l2 := f2.at2 l1 nlh nlc
    walk_at "rh"
    refine rd_ixH l2 la.1 ?_
    walk_at "rh"
    refine rd_newT (by simp) fun t3 H3 nt3 f3 e3 => ?_
    have r3 : Rp K H3 (encE (.name (lastN xs))) (.ref t3) := Rp2 e3 rfl
    walk_at "rh"
    refine rd_newT (by simp) fun t4 H4 nt4 f4 e4 => ?_
    have r4 : Rp K H4 (encE (.name g)) (.ref t4) := Rp2 e4 rfl
    walk_at "rh"
    refine rd_newT (by simp) fun t5 H5 nt5 f5 e5 => ?_
    have r5 : Rp K H5 (encE (.add (.name (lastN xs)) (.name g))) (.ref t5) := Rp3 e5 ((r3.mono f4.kp0).mono f5.kp0) (r4.mono f5.kp0)
    walk_at "rh"
    refine rd_newT (by simp) fun t6 H6 nt6 f6 e6 => ?_
    have r6 : Rp K H6 (encS (.set g (.add (.name (lastN xs)) (.name g)))) (.ref t6) := Rp3 e6 rfl (r5.mono f6.kp0)
    walk_at "rh"
    have l6 := f6.at (f5.at (f4.at (f3.at l2)))
    refine rd_ixH l6 la.1 ?_
    walk_at "rh"
    refine rd_newT (by simp) fun t7 H7 nt7 f7 e7 => ?_
    walk_at "rh"
    refine rd_newT (by simp) fun t8 H8 nt8 f8 e8 => ?_
    have r8 : Rp K H8 (encS (.set (lastN xs) (.num 0))) (.ref t8) := Rp3 e8 rfl ((show Rp K H7 (encE (.num 0)) (.ref t7) from Rp2 e7 rfl).mono f8.kp0)
    walk_at "rh"
    refine rd_newT (by simp) fun t9 H9 nt9 f9 e9 => ?_
    walk_at "rh"
    refine rd_newT (by simp) fun t10 H10 nt10 f10 e10 => ?_
    have r10 : Rp K H10 (encE (.name g)) (.ref t10) := Rp2 e10 rfl
    walk_at "rh"
    refine rd_newT (by simp) fun t11 H11 nt11 f11 e11 => ?_
    have k3 : Kp H3 H11 := (((((((f4.kp0.trans f5.kp0).trans f6.kp0).trans f7.kp0).trans f8.kp0).trans f9.kp0).trans f10.kp0).trans f11.kp0)
    have r11 : Rp K H11 (encE (.add (.name g) (.name (lastN xs)))) (.ref t11) := Rp3 e11 (r10.mono f11.kp0) (r3.mono k3)
    have k2 : Kp H2 H11 := f3.kp0.trans k3
    walk_at "rh"
    have k9 : Kp H9 H11 := f10.kp0.trans f11.kp0
    refine rd_plusT (k2.sq hTb) (k9.sq (SqT.of e9)) (by have := RpL.length hvs; rw [encL_len] at this; rw [sizeLine_eq]; simp only [List.length_cons, List.length_nil]; omega) fun p12 H12 f12 e12 => ?_
    walk_at "rh"
    refine rd_newT (by simp) fun t13 H13 nt13 f13 e13 => ?_
    walk_at "rh"
    refine rd_newT (by simp) fun t14 H14 nt14 f14 e14 => ?_
    walk_at "rh"
    have kk : Kp H11 H14 := (f12.kp0.trans f13.kp0).trans f14.kp0
    have gr2 : gdL (Gs xs) (lastN xs) 6 (r ++ [.set g (.add (.name (lastN xs)) (.name g)), .set (lastN xs) (.num 0)]) :=
      gd_app gr ⟨⟨by simp [depE], ⟨trivial, trivial⟩, good_odd gl gg⟩, ⟨by simp [depE], by show Int.natAbs 0 < 2 ^ 10; decide, good_last la.2⟩, trivial⟩
    have rw12 : RpL K H12 (encL (r ++ [.set g (.add (.name (lastN xs)) (.name g)), .set (lastN xs) (.num 0)])) (vs ++ [.ref t6, .ref t8]) := by
      have e : vs ++ [V.ref t6, .ref t8] = (vs ++ [.ref t6]) ++ [.ref t8] := by simp
      rw [encL_app, e]
      have e2 : encL r ++ encL [.set g (.add (.name (lastN xs)) (.name g)), .set (lastN xs) (.num 0)] = (encL r ++ [encS (.set g (.add (.name (lastN xs)) (.name g)))]) ++ [encS (.set (lastN xs) (.num 0))] := by simp [encL]
      rw [e2]
      have k6 : Kp H6 H12 := (((f7.kp0.trans f8.kp0).trans f9.kp0).trans k9).trans f12.kp0
      have k8 : Kp H8 H12 := (f9.kp0.trans k9).trans f12.kp0
      exact rpl_snoc (r8.mono k8) (rpl_snoc (r6.mono k6) (hvs.mono (k2.trans f12.kp0)))
    have rrow : Rp K H13 (encR (r ++ [.set g (.add (.name (lastN xs)) (.name g)), .set (lastN xs) (.num 0)])) (.ref t13) := Rp2 e13 ((show Rp K H12 (.tup (encL _)) (.ref p12) from ⟨p12, _, rfl, e12, rw12⟩).mono f13.kp0)
    have FF : Fr [h, c] H2 H14 := (((((((((((f3.trans f4).trans f5).trans f6).trans f7).trans f8).trans f9).trans f10).trans f11).trans f12).trans f13).trans f14).nil
    have FN : Fr [] H2 H14 := (((((((((((f3.trans f4).trans f5).trans f6).trans f7).trans f8).trans f9).trans f10).trans f11).trans f12).trans f13).trans f14)
    refine q _ g (.add (.name g) (.name (lastN xs))) _ H14 ((f1.trans f2).trans FF) (hat2.mono FN) ⟨by simp [depE], ⟨trivial, trivial⟩, by rw [List.length_append]; have := lr3 rfl; simp only [List.length_cons, List.length_nil]; omega, gr2⟩ ?_ ?_ (Rp4 e14 rfl (r11.mono kk) (rrow.mono f14.kp0))
    · rw [depL_app]; simp only [depL, depS]; omega
    · rw [cntL_app]; simp only [cntL, cntS]; omega
end
end Lf
namespace Lf
open PySem PySem.Spec PyProof.Rows L2
section
variable {P : Program} {w : World} {K : PySem.W.Frag} {mg : Str → Option Value} {base : Heap}
abbrev s__law_row : Stmt := top 20
abbrev N__law_row : List Str := ["_law_h", "_law_names_here", "_law_depth", "_law_odd", "_law_parts", "_law_low", "_law_laps", "_law_k", "_law_way", "_law_at", "_law_part_here", "_law_some"]
theorem sc__law_row : FnScope N__law_row ["_law_h", "_law_names_here", "_law_depth", "_law_odd"] (defScope s__law_row) := ⟨rfl, rfl, rfl, by decide +kernel, rfl, by decide +kernel, by decide +kernel⟩
theorem ok_rowD (T : Blt mg) (n j k : Nat) (hk : 5 ≤ k) (F : Here K mg "_law_row" s__law_row ["_law_h", "_law_names_here", "_law_depth", "_law_odd"]) (D__law_next : DefOk P w K mg base CX0 "_law_next" ["_law_h", "_law_many"] 1 (spNext n))
    (D__law_part : DefOk P w K mg base CX0 "_law_part" ["_law_h", "_law_some", "_law_deep"] 4 (spPart K n 3)) (D__law_grow : DefOk P w K mg base CX0 "_law_grow" ["_law_h", "_law_low", "_law_some"] 2 (spGrow K n))
    (D__law_lap : DefOk P w K mg base CX0 "_law_lap" ["_law_h", "_law_names_here", "_law_depth", "_law_odd"] k (spLapD K n j)) :
    DefOk P w K mg base CX0 "_law_row" ["_law_h", "_law_names_here", "_law_depth", "_law_odd"] (k + 1) (spRowD K n j) := by
  refine F.ok sc__law_row (fun vs H Q E h => ?_) (fun f cdv A outer s H vs Q E hr h => ?_)
  · obtain ⟨_, _, _, _, _, _, rfl, _⟩ := h; rfl
  obtain ⟨h, c, l, xs, d, odd, rfl, nm, hat, hl, nlh, nlc, hd, hj, q⟩ := h
  have hu64 := hr.units
  have hr__law_next := hr.mono (j := 1) (by omega)
  have hr__law_part := hr.mono (j := 4) (by omega)
  have hr__law_grow := hr.mono (j := 2) (by omega)
  have hr__law_lap := hr.mono (j := k) (by omega)
  refine ⟨_, (pss_cons (ps_set (i := 4) sc__law_row.nd rfl (Or.inl rfl) (pe_lst pa_nil))
    (pss_cons (ps_set (i := 5) sc__law_row.nd rfl (Or.inl rfl) (pe_slice sl_any (pv 1) po_none (po_some (pv 2))))
    (pss_cons (ps_set (i := 6) sc__law_row.nd rfl (Or.inl rfl) (pv 2))
    (pss_cons (ps_for PassesOwn.never rfl (pi_range1 (by rfl) T.n_range (pa_cons (pe_op op_plus pe_int (pe_callD D__law_next hr__law_next pass0 (pa_cons (pv 0) (pa_cons pe_int pa_nil)))) pa_nil)) (pg_name (i := 7) sc__law_row.nd rfl (Or.inl rfl))
    (pss_cons (ps_set (i := 8) sc__law_row.nd rfl (Or.inl rfl) (pe_callD D__law_next hr__law_next pass0 (pa_cons (pv 0) (pa_cons pe_int pa_nil))))
    (pss_one (ps_if (pt_cmpR op_lt (pv 8) pe_int (nomark _))
    (pss_cons (ps_set (i := 9) sc__law_row.nd rfl (Or.inl rfl) (pe_op op_plus pe_int (pe_callD D__law_next hr__law_next pass0 (pa_cons (pv 0) (pa_cons pe_int pa_nil)))))
    (pss_cons (ps_set (i := 10) sc__law_row.nd rfl (Or.inl rfl) (pe_callD D__law_grow hr__law_grow pass0 (pa_cons (pv 0) (pa_cons (pv 5) (pa_cons (pe_slice sl_any (pv 1) (po_some pe_int) (po_some (pv 9))) pa_nil)))))
    (pss_cons (ps_if (pt_cmpR op_gt (pe_callD D__law_next hr__law_next pass0 (pa_cons (pv 0) (pa_cons pe_int pa_nil))) pe_int (nomark _))
    (pss_one (ps_set (i := 10) sc__law_row.nd rfl (Or.inl rfl) (pe_tup (pa_cons pe_str (pa_cons (pe_tup (pa_cons pe_str (pa_cons (pe_ix ix_seq (pv 1) (pv 9) (fun _ _ => rfl)) pa_nil))) (pa_cons (pv 10) pa_nil))))))
    pss_nil)
    (pss_one (ps_expr (pe_bm PySem.F.plainAttrs_list PySem.F.slot_list_append PySem.F.type_list_append mt_append (pv 4) (pa_cons (pe_tup (pa_cons pe_str (pa_cons (pe_ix ix_seq (pv 1) (pv 9) (fun _ _ => rfl)) (pa_cons (pv 10) pa_nil)))) pa_nil)))))))
    (pss_one (ps_if (PW.pt (pw_or (pt_cmpR (op_eqA hu64) (pv 8) pe_int (nomark _)) (pw_or1 (pt_cmpR op_gt (pv 6) pe_int (nomark _)))))
    (pss_one (ps_expr (pe_bm PySem.F.plainAttrs_list PySem.F.slot_list_append PySem.F.type_list_append mt_append (pv 4) (pa_cons (pe_tup (pa_cons pe_str (pa_cons (pe_callD D__law_part hr__law_part pass0 (pa_cons (pv 0) (pa_cons (pe_op op_plus (pv 5) (pe_slice sl_any (pv 1) (po_some pe_int) (po_some pe_int))) (pa_cons pe_int pa_nil)))) pa_nil))) pa_nil))))
    (pss_cons (ps_set (i := 6) sc__law_row.nd rfl (Or.inl rfl) pe_int)
    (pss_cons (ps_if (PW.pt (pw_or (pt_cmpR op_gt (pv 2) pe_int (nomark _)) (pw_or1 (pt_cmpR (op_eqA hu64) (pe_callD D__law_next hr__law_next pass0 (pa_cons (pv 0) (pa_cons pe_int pa_nil))) pe_int (nomark _)))))
    (pss_cons (ps_set (i := 11) sc__law_row.nd rfl (Or.inl rfl) (pe_lst (pa_cons (pe_tup (pa_cons pe_str (pa_cons (pe_callD D__law_next hr__law_next pass0 (pa_cons (pv 0) (pa_cons pe_int pa_nil))) pa_nil))) pa_nil)))
    (pss_cons (ps_expr (pe_bm PySem.F.plainAttrs_list PySem.F.slot_list_append PySem.F.type_list_append mt_append (pv 11) (pa_cons (pe_tup (pa_cons pe_str (pa_cons (pe_tup (pa_cons pe_str (pa_cons (pe_ix ix_seq (pv 1) (pe_callB (call_max2A rfl) (by rfl) T.n_max (by decide +kernel) (pa_cons pe_int (pa_cons (pe_op op_sub (pv 2) pe_int) pa_nil))) (fun _ _ => rfl)) pa_nil))) (pa_cons (pe_tup (pa_cons pe_str (pa_cons (pe_callD D__law_next hr__law_next pass0 (pa_cons (pv 0) (pa_cons pe_int pa_nil))) pa_nil))) pa_nil)))) pa_nil)))
    (pss_one (ps_expr (pe_bm PySem.F.plainAttrs_list PySem.F.slot_list_append PySem.F.type_list_append mt_append (pv 4) (pa_cons (pe_tup (pa_cons pe_str (pa_cons (pe_ix ix_seq (pv 1) (pv 2) (fun _ _ => rfl)) (pa_cons (pe_ix ix_seq (pv 11) (pe_callD D__law_next hr__law_next pass0 (pa_cons (pv 0) (pa_cons pe_int pa_nil))) (fun _ _ => rfl)) pa_nil)))) pa_nil))))))
    pss_nil)
    (pss_one (ps_expr (pe_bm PySem.F.plainAttrs_list PySem.F.slot_list_append PySem.F.type_list_append mt_append (pv 4) (pa_cons (pe_callD D__law_lap hr__law_lap pass0 (pa_cons (pv 0) (pa_cons (pv 1) (pa_cons (pv 2) (pa_cons (pv 3) pa_nil))))) pa_nil))))))))))))
    (pss_one (ps_ret (pe_tup (pa_cons pe_str (pa_cons (pe_callTy call_tupleA (by rfl) T.n_tuple (by decide +kernel) (pa_cons (pv 4) pa_nil)) pa_nil))))))))), ?_⟩
  have l7 := nm.len
  walk_at "rs"
  with_reducible refine rd_seq ?_
  walk_at "rs"
  refine rd_newL (by simp) fun pp H1 npp f1 epp => ?_
  have ⟨nph, npc⟩ := hat.new npp
  have hat1 := hat.mono f1
  have l1 := f1.at hl
  walk_at "rs"
  with_reducible refine rd_seq ?_
  walk_at "rs"
  refine rd_sl ?_
  walk_at "rs"
  refine rd_nopart ?_
  refine rd_part ?_
  walk_at "rs"
  refine rd_parti ?_
  obtain ⟨ns, ens, hns, hok⟩ := low_at nm hd
  refine rd_slL (SqL.of l1) fun lw H2 nlw f2 elw => ?_
  rw [ens] at elw
  have ⟨nwh, nwc⟩ := hat1.new nlw
  have npw : pp ≠ lw := ne_of_none epp nlw
  have npl : pp ≠ l := (ne_of_none hl npp).symm
  have nwl : lw ≠ l := (ne_of_none l1 nlw).symm
  have hat2 := hat1.mono f2
  walk_at "rs"
  with_reducible refine rd_seq ?_
  walk_at "rs"
  with_reducible refine rd_seqc fun N hN => ?_
  walk_at "rs"
  walk_at "nx"
  intro m H3 m0 m1 f3 k3 hat3
  walk_at "rs"
  refine rd_rng1 (by omega) ?_
  have F3 : Fr [h, c] H H3 := (f1.trans f2).nil.trans f3
  have e12 : (3 - d) + d = 3 := by omega
  refine rd_forR (fun i σ H' => ∃ (laps : Int) (e : Nat) (r : List Sm) (vs : List V) (u7 u8 u9 u10 u11 : Option V), σ = [some (.ref h), some (.ref l), some (.int (d : Int)), some (.bl odd), some (.ref pp), some (.ref lw), some (.int laps), u7, u8, u9, u10, u11] ∧ Fr [h, c] H H' ∧ HAt H' h c n ∧
      H' lw = some (.lst (ns.map V.str)) ∧ H' l = some (.lst (xs.map V.str)) ∧ RowI K H' pp r vs ∧ gdL (Gs xs) (lastN xs) 6 r ∧ r.length ≤ i + e ∧ cntL r ≤ i + e * (10 + 10 * (2 - d)) ∧ depL r ≤ 3 - d ∧ ((e = 0 ∧ laps = (d : Int)) ∨ (e = 1 ∧ laps = 3 ∧ d ≤ 2)))
    ⟨(d : Int), 0, [], [], none, none, none, none, none, rfl, F3, hat3, f3.at2 elw nwh nwc, f3.at2 (f2.at l1) nlh nlc, ⟨f3.at2 (f2.at epp) nph npc, rfl⟩, trivial, by simp, by simp [cntL], by simp [depL], .inl ⟨rfl, rfl⟩⟩
    (fun i σ H' hi hσ => ?_) (fun σ H' hσ => ?_)
  · obtain ⟨laps, e, r, vs, u7, u8, u9, u10, u11, rfl, f', hat', lw', l', hR, hg, hlen, hcnt, hdep, hlaps⟩ := hσ
    have hle : e ≤ 1 := by rcases hlaps with z | z <;> omega
    have hvl := hR.len
    have hi3 : i < 3 := by omega
    have fp : H pp = none := npp
    walk_at "rs"
    with_reducible refine rd_seq ?_
    walk_at "rs"
    walk_at "nx"
    intro way H4 w0 w1 f4 k4 hat4
    walk_at "rs"
    have F4 := f'.trans f4
    have lw4 := f4.at2 lw' nwh nwc
    have l4 := f4.at2 l' nlh nlc
    have p4 := f4.at2 hR.at_ nph npc
    refine ite2 (fun hw => ?_) (fun hw => ?_)
    · -- a set
      walk_at "rs"
      with_reducible refine rd_seq ?_
      walk_at "rs"
      walk_at "nx"
      intro a H5 a0 a1 f5 k5 hat5
      obtain ⟨y, ay, ny, yl⟩ := other_at nm (i := 3 + a) (by omega) (by omega)
      walk_at "rs"
      with_reducible refine rd_seq ?_
      walk_at "rs"
      refine rd_sl ?_
      walk_at "rs"
      refine rd_part ?_
      walk_at "rs"
      refine rd_parti ?_
      refine rd_part ?_
      walk_at "rs"
      refine rd_parti ?_
      obtain ⟨ms, ems, hms, hmm⟩ := cut_strs xs (some 3) (some (3 + a))
      have l5 := f5.at2 l4 nlh nlc
      refine rd_slL (SqL.of l5) fun lc H6 nlc6 f6 elc => ?_
      rw [ems] at elc
      have ⟨nch, ncc⟩ := hat5.new nlc6
      walk_at "rs"
      refine ⟨Gs xs, lastN xs, h, c, lw, lc, ns, ms, rfl, hat5.mono f6, f6.at (f5.at2 lw4 nwh nwc), nwh, nwc, by omega, hok, elc, nch, ncc, by omega, fun x hx => nm.ok x (hmm x hx), fun v e1 H7 f7 hat7 de se pe re => ?_⟩
      walk_at "rs"
      have F7 : Fr [h, c] H H7 := (F4.trans f5).trans (f6.nil.trans f7)
      have k7 : Kp H' H7 := ((k4.trans k5).trans f6.kp0).trans ((hat5.mono f6).kp f7)
      have l7' := f7.at2 (f6.at l5) nlh nlc
      have lw7 := f7.at2 (f6.at (f5.at2 lw4 nwh nwc)) nwh nwc
      have p7 := f7.at2 (f6.at (f5.at2 p4 nph npc)) nph npc
      with_reducible refine rd_seqc fun N2 hN2 => ?_
      have fin : ∀ x H8, Fr [h, c] H7 H8 → HAt H8 h c n → (∃ ex, depE ex ≤ 3 ∧ smE ex ∧ PaB (Gs xs) (lastN xs) 5 ex ∧ Rp K H8 (encE ex) x) → N2 [some (.ref h), some (.ref l), some (.int (d : Int)), some (.bl odd), some (.ref pp), some (.ref lw), some (.int laps), some (.int (0 + (i : Int))), some (.int way), some (.int (3 + a)), some x, u11] H8 := fun x H8 f8 hat8 ⟨ex, de, se, pe, re⟩ => by
        refine hN2 _ _ ?_
        have p8 := f8.at2 p7 nph npc
        have l8 := f8.at2 l7' nlh nlc
        walk_at "rh"
        refine rd_ixH l8 ay ?_
        walk_at "rh"
        refine rd_newT (by simp) fun t H9 nt f9 et => ?_
        walk_at "rh"
        refine rd_app (f9.at p8) (by omega) fun H10 f10 k10 e10 => ?_
        walk_at "rh"
        have rs : Rp K H9 (encS (.set y ex)) (.ref t) := Rp3 et rfl (re.mono f9.kp0)
        have kk : Kp H' H10 := ((k7.trans (hat7.kp f8)).trans f9.kp0).trans k10
        refine ⟨laps, e, r ++ [.set y ex], vs ++ [.ref t], _, _, _, _, _, rfl, ((F7.trans f8).trans f9.nil).then1 f10 fp, (hat8.mono f9).mono1 f10 nph npc, f10.at1 (f9.at (f8.at2 lw7 nwh nwc)) npw.symm, f10.at1 (f9.at l8) npl.symm, hR.push (s := .set y ex) kk e10 (rs.mono k10), gd_app (b := [.set y ex]) hg ⟨⟨by omega, se, pe.good ny yl (by omega)⟩, trivial⟩, by simp; omega, ?_, ?_, hlaps⟩
        · rw [cntL_app]; simp only [cntL, cntS]; omega
        · rw [depL_app]; simp only [depL, depS]; omega
      walk_at "rs"
      walk_at "nx"
      intro z H8 z0 z1 f8 k8 hat8
      walk_at "rs"
      refine ite2 (fun hz => ?_) (fun hz => ?_)
      · walk_at "rh"
        have l8 := f8.at2 l7' nlh nlc
        refine rd_ixH l8 ay ?_
        walk_at "rh"
        refine rd_newT (by simp) fun t9 H9 nt9 f9 et9 => ?_
        walk_at "rh"
        refine rd_newT (by simp) fun t10 H10 nt10 f10 et10 => ?_
        walk_at "rh"
        exact fin _ H10 ((f8.trans f9.nil).trans f10.nil) ((hat8.mono f9).mono f10) ⟨.add (.name y) e1, by simp only [depE]; omega, ⟨trivial, se⟩, (pa_add pa_name pe).le (by omega), Rp3 et10 ((show Rp K H9 (encE (.name y)) (.ref t9) from Rp2 et9 rfl).mono f10.kp0) ((((re.mono k8).mono f9.kp0).mono f10.kp0))⟩
      · walk_at "rh"
        exact fin _ H8 f8 hat8 ⟨e1, by omega, se, pe.le (by omega), re.mono k8⟩
    · dsimp only
      refine rd_ifc fun N3 hT hU => ?_
      have say : N3 true H4 := by
        refine hT _ ?_
        walk_at "rh"
        refine rd_sl ?_
        walk_at "rh"
        refine rd_part ?_
        walk_at "rh"
        refine rd_parti ?_
        refine rd_part ?_
        walk_at "rh"
        refine rd_parti ?_
        obtain ⟨ms, ems, hms, hmm⟩ := cut_strs xs (some 3) (some 6)
        refine rd_slL (SqL.of l4) fun lc H6 nlc6 f6 elc => ?_
        rw [ems] at elc
        refine rd_plusL (f6.at lw4) elc (by rw [sizeLine_eq]; simp only [List.length_map]; omega) fun la H7 nla f7 ela => ?_
        rw [← List.map_append] at ela
        have hat7 := (hat4.mono f6).mono f7
        have ⟨nah, nac⟩ := (hat4.mono f6).new nla
        walk_at "rh"
        refine ⟨h, c, la, ns ++ ms, 2, rfl, by omega, by omega, hat7, ela, nah, nac, by rw [List.length_append]; omega, fun x hx => ?_, fun v ex H8 f8 hat8 de se re => ?_⟩
        · rcases List.mem_append.mp hx with hx | hx
          · exact (hok x hx).1
          · exact nm.ok x (hmm x hx)
        walk_at "rh"
        refine rd_newT (by simp) fun t H9 nt f9 et => ?_
        have F8 : Fr [h, c] H H8 := (F4.trans (f6.trans f7).nil).trans f8
        have p8 := f8.at2 ((f6.trans f7).at p4) nph npc
        walk_at "rh"
        refine rd_app (f9.at p8) (by omega) fun H10 f10 k10 e10 => ?_
        walk_at "rh"
        have rs : Rp K H9 (encS (.say ex)) (.ref t) := Rp2 et (re.mono f9.kp0)
        have kk : Kp H' H10 := ((((k4.trans f6.kp0).trans f7.kp0).trans (hat7.kp f8)).trans f9.kp0).trans k10
        refine ⟨laps, e, r ++ [.say ex], vs ++ [.ref t], _, _, _, _, _, rfl, (F8.trans f9.nil).then1 f10 fp, (hat8.mono f9).mono1 f10 nph npc, f10.at1 (f9.at (f8.at2 ((f6.trans f7).at lw4) nwh nwc)) npw.symm, f10.at1 (f9.at (f8.at2 ((f6.trans f7).at l4) nlh nlc)) npl.symm, hR.push (s := .say ex) kk e10 (rs.mono k10), gd_app (b := [.say ex]) hg ⟨⟨by omega, se⟩, trivial⟩, by simp; omega, ?_, ?_, hlaps⟩
        · rw [cntL_app]; simp only [cntL, cntS]; omega
        · rw [depL_app]; simp only [depL, depS]; omega
      walk_at "rs"
      refine ite2 (fun _ => say) (fun _ => ?_)
      walk_at "rs"
      by_cases hl3 : 2 < laps
      · rw [decide_eq_true hl3]; exact say
      rw [decide_eq_false hl3]
      refine hU _ ?_
      clear hT hU say
      obtain ⟨he0, hd2⟩ : e = 0 ∧ d ≤ 2 := by
        rcases hlaps with z | z <;> omega
      subst he0
      rw [Nat.zero_mul] at hcnt
      obtain ⟨g, ag, gg, gl⟩ := guard_at nm (i := (d : Int)) (by omega) (by omega)
      walk_at "rs"
      with_reducible refine rd_seq ?_
      walk_at "rs"
      with_reducible refine rd_seqc fun N4 hN4 => ?_
      have kp4 : Kp H' H4 := k4
      -- the row so far, then the lap
      have fin : ∀ (r1 : List Sm) (vs1 : List V) (u : Option V) (H6 : Hp), Fr [h, c] H H6 → HAt H6 h c n → H6 lw = some (.lst (ns.map V.str)) → H6 l = some (.lst (xs.map V.str)) → RowI K H6 pp r1 vs1 → gdL (Gs xs) (lastN xs) 6 r1 → r1.length ≤ i + 1 → cntL r1 ≤ i + 1 → depL r1 ≤ 3 - d →
          N4 [some (.ref h), some (.ref l), some (.int (d : Int)), some (.bl odd), some (.ref pp), some (.ref lw), some (.int 3), some (.int (0 + (i : Int))), some (.int way), u9, u10, u] H6 := fun r1 vs1 u H6 f6 hat6 lw6 l6 hR1 hg1 hlen1 hcnt1 hdep1 => by
        refine hN4 _ _ ?_
        have p6 := hR1.at_
        walk_at "rh"
        refine ⟨h, c, l, xs, d, odd, rfl, nm, hat6, l6, nlh, nlc, hd2, hj, fun v g m r2 H7 f7 hat7 gs dr cr rs => ?_⟩
        have hvl1 := hR1.len
        walk_at "rh"
        refine rd_app (f7.at2 hR1.at_ nph npc) (by omega) fun H8 f8 k8 e8 => ?_
        walk_at "rh"
        have kk : Kp H6 H8 := (hat6.kp f7).trans k8
        refine ⟨3, 1, r1 ++ [.lap g m r2], vs1 ++ [v], _, _, _, _, _, rfl, (f6.trans f7).then1 f8 fp, hat7.mono1 f8 nph npc, f8.at1 (f7.at2 lw6 nwh nwc) npw.symm, f8.at1 (f7.at2 l6 nlh nlc) npl.symm, hR1.push (s := .lap g m r2) kk e8 (rs.mono k8), gd_app hg1 ⟨gs, trivial⟩, by simp; omega, ?_, ?_, .inr ⟨rfl, rfl, hd2⟩⟩
        · rw [cntL_app]; simp only [cntL, cntS]; omega
        · rw [depL_app]; simp only [depL, depS]; omega
      have R4 : RowI K H4 pp r vs := ⟨p4, hR.rp.mono k4⟩
      refine rd_ifc fun N5 hT hU => ?_
      have yes : ∀ H5, Fr [h, c] H4 H5 → HAt H5 h c n → N5 true H5 := fun H5 f5 hat5 => by
        refine hT _ ?_
        with_reducible refine rd_seq ?_
        walk_at "rs"
        walk_at "nx"
        intro a H6 a0 a1 f6 k6 hat6
        walk_at "rs"
        refine rd_newT (by simp) fun t7 H7 nt7 f7 e7 => ?_
        walk_at "rs"
        refine rd_newL (by simp) fun sl H8 nsl f8 e8 => ?_
        have hat8 := (hat6.mono f7).mono f8
        have ⟨nsh, nsc⟩ := (hat6.mono f7).new nsl
        have F8 : Fr [h, c] H4 H8 := (f5.trans f6).trans (f7.trans f8).nil
        have l8 := F8.at2 l4 nlh nlc
        have p8 := F8.at2 p4 nph npc
        have lw8 := F8.at2 lw4 nwh nwc
        have nsp : sl ≠ pp := (ne_of_none (((f7.at ((f5.trans f6).at2 p4 nph npc)))) nsl).symm
        have nslw : sl ≠ lw := (ne_of_none (((f7.at ((f5.trans f6).at2 lw4 nwh nwc)))) nsl).symm
        have nsll : sl ≠ l := (ne_of_none (((f7.at ((f5.trans f6).at2 l4 nlh nlc)))) nsl).symm
        have hsl0 : H sl = none := (F4.trans (f5.trans f6)).freeM (f7.free nsl) (by simp [nsh, nsc])
        walk_at "rs"
        with_reducible refine rd_seq ?_
        walk_at "rh"
        obtain ⟨g1, ag1, gg1, gl1⟩ := guard_at nm (i := if (d : Int) - 1 > 0 then (d : Int) - 1 else 0) (by split <;> omega) (by split <;> omega)
        refine rd_ixH l8 ag1 ?_
        walk_at "rh"
        refine rd_newT (by simp) fun t9 H9 nt9 f9 e9 => ?_
        walk_at "rh"
        refine c_next (hat8.mono f9) (by omega) fun b H10 b0 b1 f10 k10 hat10 => ?_
        walk_at "rh"
        refine rd_newT (by simp) fun t11 H11 nt11 f11 e11 => ?_
        walk_at "rh"
        refine rd_newT (by simp) fun t12 H12 nt12 f12 e12 => ?_
        walk_at "rh"
        have F12 : Fr [h, c] H8 H12 := (f9.nil.trans f10).trans (f11.trans f12).nil
        have s12 := F12.at2 e8 nsh nsc
        refine rd_app s12 (by simp) fun H13 f13 k13 e13 => ?_
        walk_at "rh"
        have l13 := f13.at1 (F12.at2 l8 nlh nlc) nsll.symm
        have p13 := f13.at1 (F12.at2 p8 nph npc) nsp.symm
        have lw13 := f13.at1 (F12.at2 lw8 nwh nwc) nslw.symm
        have hat13 := ((hat10.mono f11).mono f12).mono1 f13 nsh nsc
        walk_at "rh"
        refine rd_ixH l13 ag ?_
        walk_at "rh"
        refine c_next hat13 (by omega) fun z H14 z0 z1 f14 k14 hat14 => ?_
        obtain ⟨u, hu, au⟩ := atI_in (vs := [V.ref t7] ++ [.ref t12]) z0 (by simpa using z1)
        refine rd_ixH (f14.at2 e13 nsh nsc) au ?_
        walk_at "rh"
        refine rd_newT (by simp) fun t15 H15 nt15 f15 e15 => ?_
        walk_at "rh"
        have k7 : Kp H7 H14 := (((((f8.kp0.trans f9.kp0).trans k10).trans f11.kp0).trans f12.kp0).trans k13).trans k14
        have k12 : Kp H12 H14 := k13.trans k14
        have hu2 : ∃ ex, depE ex ≤ 1 ∧ smE ex ∧ GoodSet (Gs xs) (lastN xs) g ex ∧ Rp K H14 (encE ex) u := by
          simp only [List.cons_append, List.nil_append, List.mem_cons, List.not_mem_nil, or_false] at hu
          rcases hu with rfl | rfl
          · exact ⟨.num a, Nat.zero_le _, by show a.natAbs < 2 ^ 10; omega, good_num gl (by omega), (show Rp K H7 (encE (.num a)) (.ref t7) from Rp2 e7 rfl).mono k7⟩
          · exact ⟨.add (.name g1) (.num b), by simp [depE], ⟨trivial, by show b.natAbs < 2 ^ 10; omega⟩, good_next gl gg1 (by omega),
              (show Rp K H12 (encE (.add (.name g1) (.num b))) (.ref t12) from Rp3 e12 ((((show Rp K H9 (encE (.name g1)) (.ref t9) from Rp2 e9 rfl).mono k10).mono f11.kp0).mono f12.kp0) ((show Rp K H11 (encE (.num b)) (.ref t11) from Rp2 e11 rfl).mono f12.kp0)).mono k12⟩
        obtain ⟨ex, dx, sx, gx, rx⟩ := hu2
        have p15 := f15.at (f14.at2 p13 nph npc)
        have hvl4 := R4.len
        refine rd_app p15 (by omega) fun H16 f16 k16 e16 => ?_
        walk_at "rh"
        have rs : Rp K H15 (encS (.set g ex)) (.ref t15) := Rp3 e15 rfl (rx.mono f15.kp0)
        have kk : Kp H4 H16 := (((((hat4.kp (f5.trans f6)).trans f7.kp0).trans k7).trans f15.kp0).trans k16)
        have hF : Fr [h, c] H H13 := (((F4.trans F8).trans F12).then1 f13 hsl0)
        refine fin (r ++ [.set g ex]) (vs ++ [.ref t15]) _ H16 (((hF.trans f14).trans f15.nil).then1 f16 fp) ((hat14.mono f15).mono1 f16 nph npc) (f16.at1 (f15.at (f14.at2 lw13 nwh nwc)) npw.symm) (f16.at1 (f15.at (f14.at2 l13 nlh nlc)) npl.symm) (R4.push (s := .set g ex) kk e16 (rs.mono k16)) (gd_app (b := [.set g ex]) hg ⟨⟨by omega, sx, gx⟩, trivial⟩) (by simp; omega) ?_ ?_
        · rw [cntL_app]; simp only [cntL, cntS]; omega
        · rw [depL_app]; simp only [depL, depS]; omega
      walk_at "rs"
      refine ite2 (fun _ => yes H4 (Fr.refl _ _) hat4) (fun _ => ?_)
      walk_at "rs"
      walk_at "nx"
      intro z H5 z0 z1 f5 k5 hat5
      walk_at "rs"
      cases hdec : decide (V.int z = V.int 0) with
      | true => exact yes H5 f5 hat5
      | false =>
        refine hU _ ?_
        walk_at "rs"
        exact fin r vs _ H5 (F4.trans f5) hat5 (f5.at2 lw4 nwh nwc) (f5.at2 l4 nlh nlc) ⟨f5.at2 p4 nph npc, (hR.rp.mono k4).mono k5⟩ hg (by omega) (by omega) hdep
  · obtain ⟨laps, e, r, vs, u7, u8, u9, u10, u11, rfl, f', hat', lw', l', hR, hg, hlen, hcnt, hdep, hlaps⟩ := hσ
    refine hN _ _ ?_
    walk_at "rh"
    refine rd_tupL (SqL.of hR.at_) fun t4 H4 nt4 f4 e4 => ?_
    walk_at "rh"
    refine rd_newT (by simp) fun t5 H5 nt5 f5 e5 => ?_
    walk_at "rh"
    have hm3 : (1 + m - 0).toNat ≤ 3 := by omega
    refine q _ r H5 ((f'.trans f4.nil).trans f5.nil) ((hat'.mono f4).mono f5) hg ?_ ?_ hdep ?_ (Rp2 e5 ((show Rp K H4 (.tup (encL r)) (.ref t4) from ⟨t4, _, rfl, SqT.of e4, hR.rp.mono f4.kp0⟩).mono f5.kp0))
    · rcases hlaps with z | z <;> omega
    · intro hd3
      rcases hlaps with z | z <;> omega
    · rcases hlaps with z | z
      · rw [z.1] at hcnt; omega
      · rw [z.1] at hcnt; omega
end
end Lf
namespace Lf
open PySem PySem.Spec PyProof.Rows L2
/-! ### inputs, dry runs -/
theorem rd_dnew {σ : L2.St} {H : Hp} {Q : VK} (q : ∀ d, H d = none → Q (.ref d) (upd H d (.dK []))) : tDNewK σ H Q := q
def TxtK (kvs : List (L2.Key × V)) : Prop := ∀ k ∈ kvs.map Prod.fst, ∃ x : Str, k = Sum.inr x
theorem txtK_put {kvs : List (L2.Key × V)} {x : Str} {v : V} (h : TxtK kvs) : TxtK (putK kvs (.inr x) v) := fun k hk => by
  unfold putK at hk
  split at hk
  · rw [List.map_map] at hk
    obtain ⟨kv, h1, h2⟩ := List.mem_map.mp hk
    have e : (Prod.fst ∘ fun kv : L2.Key × V => if kv.1 = Sum.inr x then (kv.1, v) else kv) kv = kv.1 := by
      show (if kv.1 = Sum.inr x then (kv.1, v) else kv).1 = kv.1
      split <;> rfl
    rw [e] at h2
    exact h k (by rw [← h2]; exact List.mem_map_of_mem h1)
  · rw [List.map_append] at hk
    rcases List.mem_append.mp hk with z | z
    · exact h k z
    · exact ⟨x, by simpa using z⟩
theorem nod_put {kvs : List (L2.Key × V)} {x : Str} {v : V} (h : (kvs.map Prod.fst).Nodup) : ((putK kvs (.inr x) v).map Prod.fst).Nodup := by
  by_cases c : Sum.inr x ∈ kvs.map Prod.fst
  · rw [keys_put c]; exact h
  · refine nd_putK v h ?_
    cases e : valV kvs (.inr x) with
    | none => rfl
    | some u => exact absurd (valV_some_keys (by rw [e]; rfl)) c
def spInputs (n : Nat) : Sp := fun vs H Q _ => ∃ (h c l : Addr) (xs : List Str), vs = [.ref h, .ref l] ∧ Nm7 xs ∧ HAt H h c n ∧ H l = some (.lst (xs.map V.str)) ∧ l ≠ h ∧ l ≠ c ∧
  ∀ d kvs H2, H d = none → Fr [h, c] H H2 → HAt H2 h c n → H2 d = some (.dK kvs) → NmD kvs → TxtK kvs → (kvs.map Prod.fst).Nodup → kvs.length ≤ 7 → Bd (Gs xs) (lastN xs) 0 (nmOf kvs) → Q (.ref d) H2
theorem in_four (k : Nat) (hk : k < 7) : inV (.int (0 + (k : Int))) [.int 0, .int 1, .int 2, .int 6] = decide (k < 3 ∨ k = 6) := by
  have : k = 0 ∨ k = 1 ∨ k = 2 ∨ k = 3 ∨ k = 4 ∨ k = 5 ∨ k = 6 := by omega
  rcases this with rfl | rfl | rfl | rfl | rfl | rfl | rfl <;> decide +kernel
section
variable {P : Program} {w : World} {K : PySem.W.Frag} {mg : Str → Option Value} {base : Heap} {DC : Addr}
abbrev s__law_inputs : Stmt := top 22
abbrev N__law_inputs : List Str := ["_law_h", "_law_names_here", "_law_found", "_law_k", "_law_many"]
theorem sc__law_inputs : FnScope N__law_inputs ["_law_h", "_law_names_here"] (defScope s__law_inputs) := ⟨rfl, rfl, rfl, by decide +kernel, rfl, by decide +kernel, by decide +kernel⟩
theorem ok_inputs (T : Blt mg) (n : Nat) (F : Here K mg "_law_inputs" s__law_inputs ["_law_h", "_law_names_here"]) (D__law_next : DefOk P w K mg base CX0 "_law_next" ["_law_h", "_law_many"] 1 (spNext n)) :
    DefOk P w K mg base CX0 "_law_inputs" ["_law_h", "_law_names_here"] 2 (spInputs n) := by
  refine F.ok sc__law_inputs (fun vs H Q E h => ?_) (fun f cdv A outer s H vs Q E hr h => ?_)
  · obtain ⟨_, _, _, _, rfl, _⟩ := h; rfl
  obtain ⟨h, c, l, xs, rfl, nm, hat, hl, nlh, nlc, q⟩ := h
  have hu64 := hr.units
  have hu : (cxOf CX0 P w K mg base N__law_inputs "_law_inputs" (defScope s__law_inputs) f cdv A outer s H E).nox.A.units + 1 < cLine := by
    have := hr.units
    show (A.deeper _).units + 1 < cLine
    omega
  have hr__law_next := hr.mono (j := 1) (by omega)
  refine ⟨_, (pss_cons (ps_set (i := 2) sc__law_inputs.nd rfl (Or.inl rfl) pe_dnewK)
    (pss_cons (ps_for PassesOwn.never rfl (pi_range1 (by rfl) T.n_range (pa_cons pe_int pa_nil)) (pg_name (i := 3) sc__law_inputs.nd rfl (Or.inl rfl))
    (pss_one (ps_if (pt_cmpR op_gt (pe_callD D__law_next hr__law_next pass0 (pa_cons (pv 0) (pa_cons pe_int pa_nil))) pe_int (nomark _))
    (pss_cons (ps_set (i := 4) sc__law_inputs.nd rfl (Or.inl rfl) (pe_ifExp (pt_cmpR op_in_seq (pv 3) (pe_tup (pa_cons pe_int (pa_cons pe_int (pa_cons pe_int (pa_cons pe_int pa_nil))))) (by rfl)) pe_int pe_int))
    (pss_one (ps_dput hu (pv 2) (pe_ix ix_seq (pv 1) (pv 3) (fun _ _ => rfl)) (pe_callD D__law_next hr__law_next pass0 (pa_cons (pv 0) (pa_cons (pv 4) pa_nil))) rfl)))
    pss_nil)))
    (pss_one (ps_ret (pv 2))))), ?_⟩
  have l7 := nm.len
  walk_at "rs"
  with_reducible refine rd_seq ?_
  walk_at "rs"
  refine rd_dnew fun d nd => ?_
  have f1 : Fr [] H (upd H d (.dK [])) := (Fr.refl [] H).new nd
  have d1 : upd H d (.dK []) d = some (.dK []) := upd_same
  generalize upd H d (.dK []) = H1 at f1 d1 ⊢
  have ndh : d ≠ h := by obtain ⟨_, _, _, _, eh, _⟩ := hat; exact (ne_of_none eh nd).symm
  have ndc : d ≠ c := by obtain ⟨_, _, _, _, _, ec, _⟩ := hat; exact (ne_of_none ec nd).symm
  have ndl : d ≠ l := (ne_of_none hl nd).symm
  walk_at "rs"
  with_reducible refine rd_seqc fun N hN => ?_
  walk_at "rs"
  refine rd_forR (fun i σ H' => ∃ kvs u3 u4, σ = [some (.ref h), some (.ref l), some (.ref d), u3, u4] ∧ Fr [h, c] H H' ∧ HAt H' h c n ∧ H' l = some (.lst (xs.map V.str)) ∧ H' d = some (.dK kvs) ∧ NmD kvs ∧ TxtK kvs ∧ (kvs.map Prod.fst).Nodup ∧ kvs.length ≤ i ∧ Bd (Gs xs) (lastN xs) 0 (nmOf kvs))
    ⟨[], none, none, rfl, f1.nil, hat.mono f1, f1.at hl, d1, fun x v e => by simp [valV] at e, fun k hk => by simp at hk, by simp, Nat.le_refl _, ⟨fun x _ => by simp [nmOf, valV], by simp [nmOf, valV], fun x => by simp [nmOf, valV]⟩⟩
    (fun i σ H' hi hσ => ?_) (fun σ H' hσ => ?_)
  · obtain ⟨kvs, u3, u4, rfl, f', hat', l', d', hn, ht, hnod, hk, hB⟩ := hσ
    have hi7 : i < 7 := hi
    walk_at "rs"
    walk_at "nx"
    intro z H2 z0 z1 f2 k2 hat2
    walk_at "rs"
    have F2 := f'.trans f2
    have l2 := f2.at2 l' nlh nlc
    have d2 := f2.at2 d' ndh ndc
    refine ite2 (fun hz => ?_) (fun hz => ?_)
    · walk_at "rs"
      with_reducible refine rd_seq ?_
      walk_at "rs"
      refine rd_newT (by simp) fun t H3 nt f3 et => ?_
      refine rd_inT (SqT.of et) rfl rfl ?_
      rw [in_four i hi7]
      have F3 := F2.trans f3.nil
      have hat3 := hat2.mono f3
      have l3 := f3.at l2
      have d3 := f3.at d2
      walk_at "rs"
      have step : ∀ (m : Int) (y : Str), 0 < m → m ≤ 1000000 → atI (xs.map V.str) (0 + (i : Int)) = some (.str y) → (m ≤ 5 ∨ (¬ Gs xs y ∧ y ≠ lastN xs)) → ∀ v H4, 0 ≤ v → v < m → Fr [h, c] H3 H4 → HAt H4 h c n →
          ∃ u3 u4, [some (V.ref h), some (.ref l), some (.ref d), some (.int (0 + (i : Int))), some (.int m)] = [some (V.ref h), some (.ref l), some (.ref d), u3, u4] ∧ Fr [h, c] H (upd H4 d (.dK (putK kvs (.inr y) (.int v)))) ∧ HAt (upd H4 d (.dK (putK kvs (.inr y) (.int v)))) h c n ∧ upd H4 d (.dK (putK kvs (.inr y) (.int v))) l = some (.lst (xs.map V.str)) ∧
          upd H4 d (.dK (putK kvs (.inr y) (.int v))) d = some (.dK (putK kvs (.inr y) (.int v))) ∧ NmD (putK kvs (.inr y) (.int v)) ∧ TxtK (putK kvs (.inr y) (.int v)) ∧ ((putK kvs (.inr y) (.int v)).map Prod.fst).Nodup ∧ (putK kvs (.inr y) (.int v)).length ≤ i + 1 ∧ Bd (Gs xs) (lastN xs) 0 (nmOf (putK kvs (.inr y) (.int v))) := fun m y m0 m1 ay hy v H4 v0 v1 f4 hat4 => by
        obtain ⟨a1, a2⟩ := nm_put (x := y) (v := v) hn
        refine ⟨_, _, rfl, (F3.trans f4).mut nd, ?_, by rw [upd_ne ndl.symm]; exact f4.at2 l3 nlh nlc, upd_same, a1, txtK_put ht, nod_put hnod, by have := length_putK kvs (.inr y) (.int v); omega, ?_⟩
        · obtain ⟨ne, x1, x2, x3, eh, ec, r⟩ := hat4
          exact ⟨ne, x1, x2, x3, by rw [upd_ne ndh.symm]; exact eh, by rw [upd_ne ndc.symm]; exact ec, r⟩
        · rw [a2]
          refine ⟨fun x gx => ?_, ?_, fun x => ?_⟩
          · unfold setN
            split
            · rename_i c; subst c
              rcases hy with hy | hy
              · omega
              · exact absurd gx hy.1
            · exact hB.gu x gx
          · unfold setN
            split
            · rename_i c
              rcases hy with hy | hy
              · omega
              · exact absurd c.symm hy.2
            · exact hB.la
          · unfold setN
            split
            · show v.natAbs < 2 ^ (41 + 3 * 0)
              have : (1000000 : Nat) < 2 ^ (41 + 3 * 0) := by decide
              omega
            · exact hB.al x
      have at_ : ∃ y, atI (xs.map V.str) (0 + (i : Int)) = some (.str y) ∧ ((i < 3 ∨ i = 6) ∨ (¬ Gs xs y ∧ y ≠ lastN xs)) := by
        by_cases c : i < 3 ∨ i = 6
        · obtain ⟨y, _, e⟩ := atI_strs (ns := xs) (i := 0 + (i : Int)) (by omega) (by omega)
          exact ⟨y, e, .inl c⟩
        · obtain ⟨y, e, r⟩ := other_at nm (i := 0 + (i : Int)) (by omega) (by omega)
          exact ⟨y, e, .inr r⟩
      obtain ⟨y, ay, hy⟩ := at_
      refine ite2 (fun hc => ?_) (fun hc => ?_)
      · walk_at "rh"
        dsimp only
        refine rd_dput ?_
        walk_at "rh"
        refine c_next hat3 (by decide) fun v H4 v0 v1 f4 k4 hat4 => ?_
        walk_at "rh"
        have l4 := f4.at2 l3 nlh nlc
        refine rd_ixH l4 ay ?_
        refine rd_gp (f4.at2 d3 ndh ndc) (by rw [sizeLine_eq]; omega) ?_
        obtain ⟨w3, w4, hw⟩ := step 5 y (by decide) (by decide) ay (.inl (by decide)) v H4 v0 v1 f4 hat4
        exact ⟨_, w3, w4, hw⟩
      · walk_at "rh"
        dsimp only
        refine rd_dput ?_
        walk_at "rh"
        refine c_next hat3 (by decide) fun v H4 v0 v1 f4 k4 hat4 => ?_
        walk_at "rh"
        have l4 := f4.at2 l3 nlh nlc
        refine rd_ixH l4 ay ?_
        refine rd_gp (f4.at2 d3 ndh ndc) (by rw [sizeLine_eq]; omega) ?_
        obtain ⟨w3, w4, hw⟩ := step 1000000 y (by decide) (by decide) ay (by
          rcases hy with hy | hy
          · exact absurd (decide_eq_true hy) hc
          · exact .inr hy) v H4 v0 v1 f4 hat4
        exact ⟨_, w3, w4, hw⟩
    · walk_at "rh"
      exact ⟨kvs, _, _, rfl, F2, hat2, l2, d2, hn, ht, hnod, by omega, hB⟩
  · obtain ⟨kvs, u3, u4, rfl, f', hat', l', d', hn, ht, hnod, hk, hB⟩ := hσ
    refine hN _ _ ?_
    walk_at "rh"
    exact q d kvs H' nd f' hat' d' hn ht hnod hk hB
end
end Lf
namespace Lf
open PySem PySem.Spec PyProof.Rows L2
open AutoSeq1 (wpAny_loadPart')
open MeetsSeq MeetsSeq2 MeetsSeq3 SeqRoads2
open PySem.SeqAt (EqIn EqAt)
/-! ### != of tuples in which dicts stand -/
theorem tuple_neIn {prog : Program} {w : World} (l b : Addr) (items items2 : Array Value) (n n2 : Nat) (dd dd2 : Option Addr) (sl sl2 : Array (Option Value)) (e : Nat → Bool) :
    MeetsIn prog w (Builtin.«tuple.__ne__» ⟨[.ref l, .ref b], []⟩)
      (fun A R s => s.heap.get? l = some { cls := .type "tuple", dict := dd, data := .seq items n, slots := sl } ∧ s.heap.get? b = some { cls := .type "tuple", dict := dd2, data := .seq items2 n2, slots := sl2 } ∧
        (∀ j (h1 : j < items.size) (h2 : j < items2.size), EqIn prog w A.in1 s items[j] items2[j] (e j)) ∧
        R (.ok (.ret (.bool (!((List.range (min items.size items2.size)).all e && items.size == items2.size))))) s) :=
  .of_wp fun A R s h => by
    obtain ⟨hp, g, d, tk, os⟩ := s; obtain ⟨hl, hb, he, h⟩ := h
    have f2 := AutoSeq1.sub_tuple_tuple
    have hZ : (items.toList.zip items2.toList).length = min items.size items2.size := by simp
    wp_walk using wpAny_loadPart' hl, wpAny_loadPart' hb, wpAny_forIn_list _ (fun rest b s' => b.1 = none ∧ s' = ⟨hp, g, d, tk, os⟩ ∧ ∃ i, rest = (items.toList.zip items2.toList).drop i ∧
      R (.ok (.ret (.bool (!(((List.range (min items.size items2.size)).drop i).all e && items.size == items2.size))))) ⟨hp, g, d, tk, os⟩) _
    case turn =>
      rintro ⟨y, x⟩ rest b s' ⟨hb', rfl, i, hz, hR⟩
      have hlt : i < (items.toList.zip items2.toList).length := by
        rcases Nat.lt_or_ge i (items.toList.zip items2.toList).length with h' | h'
        · exact h'
        · rw [List.drop_of_length_le h'] at hz; cases hz
      have hm : i < min items.size items2.size := hZ ▸ hlt
      have h1 : i < items.size := Nat.lt_of_lt_of_le hm (Nat.min_le_left _ _)
      have h2 : i < items2.size := Nat.lt_of_lt_of_le hm (Nat.min_le_right _ _)
      rw [List.drop_eq_getElem_cons hlt] at hz
      injection hz with hyx hrest
      have hy : y = items[i] := by have := congrArg Prod.fst hyx; simpa using this
      have hx : x = items2[i] := by have := congrArg Prod.snd hyx; simpa using this
      subst hy hx
      have hd : (List.range (min items.size items2.size)).drop i = i :: (List.range (min items.size items2.size)).drop (i + 1) := by simp [List.drop_eq_getElem_cons, hm]
      rw [hd, List.all_cons] at hR
      refine wpAny_bind (he i h1 h2 _ _ ?_)
      cases hy : e i with
      | true =>
        rw [hy] at hR
        wp_walk
        exact ⟨rfl, rfl, i + 1, hrest, by simpa using hR⟩
      | false =>
        rw [hy] at hR
        wp_walk
        exact ⟨_, rfl, by simpa using hR⟩
    case fin =>
      rintro ⟨b1, b2⟩ s' ⟨hb', rfl, i, hz, hR⟩
      simp only at hb'
      subst hb'
      have hge : min items.size items2.size ≤ i := by
        rcases Nat.lt_or_ge i (items.toList.zip items2.toList).length with h' | h'
        · rw [List.drop_eq_getElem_cons h'] at hz; cases hz
        · exact hZ ▸ h'
      rw [List.drop_of_length_le (by simpa using hge)] at hR
      wp_walk
      exact ⟨_, rfl, by simpa [Builtin.Tuple.tupleCompareSizes, bne] using hR⟩
    case h =>
      exact ⟨rfl, rfl, 0, rfl, by simpa using h⟩
/-- two items that are the same by == -/
def EqI (K : PySem.W.Frag) (H : Hp) (x y : V) : Prop := (∃ d, Dp K H x d ∧ Dp K H y d ∧ d.canLay0 = true ∧ d.depth ≤ 8) ∨
  ∃ a b ks ls, x = .ref a ∧ y = .ref b ∧ H a = some (.dK ks) ∧ H b = some (.dK ls) ∧ ks.length = ls.length ∧ ∀ p ∈ ks, valV ls p.1 = some p.2 ∧ flatB p.2 = true
inductive EqIs (K : PySem.W.Frag) (H : Hp) : List V → List V → Prop
  | nil : EqIs K H [] []
  | cons {x y : V} {xs ys : List V} : EqI K H x y → EqIs K H xs ys → EqIs K H (x :: xs) (y :: ys)
theorem eqI_in {X : Cx} {pins : List (Addr × Obj)} {σ : L2.St} {H : Hp} {s : Shared} {x y : V} {u v : Value} {A : Around} (I : Inv X pins σ H s) (h : EqI X.K H x y) (rx : RelV x u) (ry : RelV y v) (hu : A.units + 10 < cLine) : EqIn X.prog X.w A s u v true := by
  rcases h with ⟨d, h1, h2, hc, hd⟩ | ⟨a, b, ks, ls, rfl, rfl, ea, eb, hlen, hp⟩
  · obtain ⟨as, r1⟩ := Dp.reads I d x u h1 rx
    obtain ⟨bs, r2⟩ := Dp.reads I d y v h2 ry
    have q := SeqAt.eqAt_reads d d A s u v as bs r1 r2 hc hc (by omega)
    rw [SeqAt.eqv_refl d hc] at q
    exact q.inModel _ _
  · obtain rfl : u = Value.ref a := rx
    obtain rfl : v = Value.ref b := ry
    by_cases c : a = b
    · subst c
      exact (SeqAt.EqAt.same _).inModel _ _
    · obtain ⟨_, ya, va, ra, da⟩ := (show ObjOk X.prog X.w H s.heap a (.dK ks) from I.hok a _ ea)
      obtain ⟨_, yb, vb, rb, db⟩ := (show ObjOk X.prog X.w H s.heap b (.dK ls) from I.hok b _ eb)
      have hl : va.length = vb.length := by rw [← ra.length, ← rb.length]; exact hlen
      exact SeqAt.EqIn.of_refs c fun E Q hq => PySem.W.keq_eq (knd := mixKind X.prog X.w) (r := true) ya yb da db (by omega) (fun _ => hits_all rb ra hp) (by simpa [hl] using hq)
theorem eqIs_in {X : Cx} {pins : List (Addr × Obj)} {σ : L2.St} {H : Hp} {s : Shared} {A : Around} (I : Inv X pins σ H s) (hu : A.units + 10 < cLine) : ∀ {xs ys : List V} {us vs : List Value}, EqIs X.K H xs ys → Vals xs us → Vals ys vs →
    us.length = vs.length ∧ ∀ j (h1 : j < us.length) (h2 : j < vs.length), EqIn X.prog X.w A s us[j] vs[j] true
  | _, _, us, vs, .nil, r1, r2 => by
    cases r1; cases r2
    exact ⟨rfl, fun j h1 _ => absurd h1 (Nat.not_lt_zero _)⟩
  | _, _, us, vs, .cons h t, r1, r2 => by
    cases r1 with
    | cons a1 b1 =>
      cases r2 with
      | cons a2 b2 =>
        obtain ⟨l, q⟩ := eqIs_in I hu t b1 b2
        refine ⟨by simp [l], fun j h1 h2 => ?_⟩
        cases j with
        | zero => exact eqI_in I h a1 a2 hu
        | succ j => exact q j (by simpa using h1) (by simpa using h2)
def rNeT (K : PySem.W.Frag) : R2 := fun x y H Q => ∃ a b xs ys, x = .ref a ∧ y = .ref b ∧ SqT K H a xs ∧ SqT K H b ys ∧ EqIs K H xs ys ∧ Q (.bl false) H
theorem op_neT {X : Cx} (hu : X.A.units + 64 < cLine) : OpR X (compareOp .NotEq) (rNeT X.K) := by
  intro pins s σ H x y v u Q I rx ry h
  obtain ⟨a, b, xs, ys, rfl, rfl, ha, hb, he, q⟩ := h
  obtain rfl : v = Value.ref a := rx
  obtain rfl : u = Value.ref b := ry
  obtain ⟨its, ra, pa, _⟩ := I.tuple ha
  obtain ⟨its2, rb, pb, _⟩ := I.tuple hb
  have pa : s.heap.IsTuple a its.toArray := pa
  have pb : s.heap.IsTuple b its2.toArray := pb
  obtain ⟨l, e⟩ := eqIs_in (A := X.A.in1) I (by show X.A.units + 1 + 10 < cLine; omega) he ra rb
  obtain ⟨⟨cls, dd, data, sl⟩, ho, hc, n, hd⟩ := id pa
  obtain ⟨⟨cls2, dd2, data2, sl2⟩, ho2, hc2, n2, hd2⟩ := id pb
  simp only at hc hd hc2 hd2
  subst hc hd hc2 hd2
  have ev : (!((List.range (min its.toArray.size its2.toArray.size)).all (fun _ => true) && its.toArray.size == its2.toArray.size)) = false := by simp [l]
  exact wpAny_richCompare_same_room (T := "tuple") (op := .NotEq) ⟨_, ho, rfl⟩ ⟨_, ho2, rfl⟩ F.slot_tuple_ne (call_meetsIn F.slot_tuple_ne ⟨_, ho, rfl⟩ F.entry_tuple_ne (F.args_tuple_ne_2 _ _) (tuple_neIn a b its.toArray its2.toArray n n2 dd dd2 sl sl2 fun _ => true)
    ⟨ho, ho2, fun j h1 h2 => by
      have q := e j (by simpa using h1) (by simpa using h2)
      simpa using q, by
      rw [ev]
      exact ⟨(fun x => nomatch x), ⟨.bl false, H, I, rfl, q⟩⟩⟩) (by omega)
end Lf
namespace Lf
open PySem PySem.Spec PyProof.Rows L2
/-! ### what the law's last part wants, in plain words -/
theorem op_neK {X : Cx} {K : PySem.W.Frag} (h : X.K = K) (hu : X.A.units + 64 < cLine) : OpR X (compareOp .NotEq) (rNeA K) := by subst h; exact op_neA hu
theorem op_eqK {X : Cx} {K : PySem.W.Frag} (h : X.K = K) (hu : X.A.units + 64 < cLine) : OpR X (compareOp .Eq) (rEqA K) := by subst h; exact op_eqA hu
mutual
theorem gd_okS {G : Str → Prop} {last : Str} {W : Nat} : ∀ {s : Sm}, gdS G last W s → okS s
  | .say _, h => Nat.lt_of_lt_of_le h.1 (by omega)
  | .set _ _, h => Nat.lt_of_lt_of_le h.1 (by omega)
  | .lap _ _ _, h => ⟨Nat.lt_of_lt_of_le h.1 (by omega), gd_ok h.2.2.2⟩
theorem gd_ok {G : Str → Prop} {last : Str} {W : Nat} : ∀ {r : List Sm}, gdL G last W r → okL r
  | [], _ => trivial
  | _ :: _, h => ⟨gd_okS h.1, gd_ok h.2⟩
end
theorem goLap_ne {M : Nat} {g : Str} {body : Sta → Option Sta} (hb : ∀ s s2, body s = some s2 → (∀ e ∈ s.ents, e.1 ≠ []) → ∀ e ∈ s2.ents, e.1 ≠ []) :
    ∀ (f many : Nat) (s : Sta) (p : Sta × Nat), goLap M g body f many s = some p → (∀ e ∈ s.ents, e.1 ≠ []) → ∀ e ∈ p.1.ents, e.1 ≠ []
  | 0, _, _, _, h, _ => by simp [goLap] at h
  | f + 1, many, s, p, h, hn => by
    unfold goLap at h
    split at h
    · split at h
      · cases h
      · obtain ⟨s2, h1, h2⟩ := Option.bind_eq_some_iff.mp h
        exact goLap_ne hb f (many + 1) s2 p h2 (hb _ s2 h1 hn)
    · cases h
      exact hn
mutual
theorem runS_ne {M : Nat} : ∀ (x : Sm) (pl : List Int) (s s2 : Sta), pl ≠ [] → runS M x pl s = some s2 → (∀ e ∈ s.ents, e.1 ≠ []) → ∀ e ∈ s2.ents, e.1 ≠ []
  | .say e, pl, s, s2, hp, h, hn => by simp only [runS] at h; cases h; exact hn
  | .set x e, pl, s, s2, hp, h, hn => by simp only [runS] at h; cases h; exact hn
  | .lap g m r, pl, s, s2, hp, h, hn => by
    simp only [runS] at h
    obtain ⟨p, h1, rfl⟩ := Option.map_eq_some_iff.mp h
    have q := goLap_ne (fun s s2 a b => runL_ne r pl 0 s s2 a b) _ _ _ _ h1 hn
    intro e he
    rcases List.mem_append.mp he with he | he
    · exact q e he
    · rw [List.mem_singleton.mp he]; exact hp
theorem runL_ne {M : Nat} : ∀ (r : List Sm) (pl : List Int) (k : Nat) (s s2 : Sta), runL M r pl k s = some s2 → (∀ e ∈ s.ents, e.1 ≠ []) → ∀ e ∈ s2.ents, e.1 ≠ []
  | [], pl, k, s, s2, h, hn => by simp only [runL] at h; cases h; exact hn
  | x :: r, pl, k, s, s2, h, hn => by
    simp only [runL] at h
    obtain ⟨s1, h1, h2⟩ := Option.bind_eq_some_iff.mp h
    exact runL_ne r pl (k + 1) s1 s2 h2 (runS_ne x _ s s1 (by simp) h1 hn)
end
theorem goLap_pl {M B : Nat} {g : Str} {body : Sta → Option Sta} (hb : ∀ s s2, body s = some s2 → (∀ e ∈ s.ents, e.1.length ≤ B) → ∀ e ∈ s2.ents, e.1.length ≤ B) :
    ∀ (f many : Nat) (s : Sta) (p : Sta × Nat), goLap M g body f many s = some p → (∀ e ∈ s.ents, e.1.length ≤ B) → ∀ e ∈ p.1.ents, e.1.length ≤ B
  | 0, _, _, _, h, _ => by simp [goLap] at h
  | f + 1, many, s, p, h, hn => by
    unfold goLap at h
    split at h
    · split at h
      · cases h
      · obtain ⟨s2, h1, h2⟩ := Option.bind_eq_some_iff.mp h
        exact goLap_pl hb f (many + 1) s2 p h2 (hb _ s2 h1 hn)
    · cases h
      exact hn
mutual
theorem runS_pl {M B : Nat} : ∀ (x : Sm) (pl : List Int) (s s2 : Sta), pl.length + depS x ≤ B → runS M x pl s = some s2 → (∀ e ∈ s.ents, e.1.length ≤ B) → ∀ e ∈ s2.ents, e.1.length ≤ B
  | .say e, pl, s, s2, hp, h, hn => by simp only [runS] at h; cases h; exact hn
  | .set x e, pl, s, s2, hp, h, hn => by simp only [runS] at h; cases h; exact hn
  | .lap g m r, pl, s, s2, hp, h, hn => by
    simp only [runS] at h
    simp only [depS] at hp
    obtain ⟨p, h1, rfl⟩ := Option.map_eq_some_iff.mp h
    have q := goLap_pl (fun s s2 a b => runL_pl r pl 0 s s2 (by omega) a b) _ _ _ _ h1 hn
    intro e he
    rcases List.mem_append.mp he with he | he
    · exact q e he
    · rw [List.mem_singleton.mp he]; show pl.length ≤ B; omega
theorem runL_pl {M B : Nat} : ∀ (r : List Sm) (pl : List Int) (k : Nat) (s s2 : Sta), pl.length + 1 + depL r ≤ B → runL M r pl k s = some s2 → (∀ e ∈ s.ents, e.1.length ≤ B) → ∀ e ∈ s2.ents, e.1.length ≤ B
  | [], pl, k, s, s2, hp, h, hn => by simp only [runL] at h; cases h; exact hn
  | x :: r, pl, k, s, s2, hp, h, hn => by
    simp only [runL] at h
    simp only [depL] at hp
    obtain ⟨s1, h1, h2⟩ := Option.bind_eq_some_iff.mp h
    exact runL_pl r pl (k + 1) s1 s2 (by omega) h2 (runS_pl x _ s s1 (by simp only [List.length_append, List.length_cons, List.length_nil]; omega) h1 hn)
end
def pdN (x : List Int × Int × Int) : PyData := .tuple [.tuple (x.1.map PyData.int), .int x.2.1, .int x.2.2]
theorem dp_encN {K : PySem.W.Frag} {H : Hp} {x : List Int × Int × Int} {v : V} (h : Rp K H (encN x) v) : Dp K H v (pdN x) := by
  obtain ⟨a, _, rfl, hT, _, _, rfl, ⟨b, vs, rfl, hU, hV⟩, _, _, rfl, rfl, _, _, rfl, rfl, rfl⟩ := h
  rw [rpl_ints hV] at hU
  exact .tup hT (.cons (.tup hU (dp_ints x.1)) (.cons (.int _) (.cons (.int _) .nil)))
theorem dp_encNs {K : PySem.W.Frag} {H : Hp} : ∀ {l : List (List Int × Int × Int)} {vs : List V}, RpL K H (l.map encN) vs → DpAll K H vs (l.map pdN)
  | [], vs, h => by
    cases (show vs = [] from h)
    exact .nil
  | x :: l, vs, h => by
    obtain ⟨v, r, rfl, h1, h2⟩ := h
    exact .cons (dp_encN h1) (dp_encNs h2)
theorem canLay_N : ∀ l : List (List Int × Int × Int), PyData.canLayAll0 (l.map pdN) = true
  | [] => rfl
  | x :: l => by simp [PyData.canLayAll0, PyData.canLay0, pdN, canLay_ints, canLay_N l]
theorem depth_N : ∀ l : List (List Int × Int × Int), PyData.depthAll (l.map pdN) ≤ 2
  | [] => by simp [PyData.depthAll]
  | x :: l => by
    have := depth_N l
    simp only [List.map_cons, PyData.depthAll, pdN, PyData.depth, depth_ints]
    omega
theorem lay_N (l : List (List Int × Int × Int)) : (PyData.list (l.map pdN)).canLay0 = true ∧ (PyData.list (l.map pdN)).depth ≤ 8 := by
  refine ⟨?_, ?_⟩
  · show PyData.canLayAll0 _ = true
    exact canLay_N l
  · have := depth_N l
    show PyData.depthAll _ + 1 ≤ 8
    omega
theorem lay_I (l : List Int) : (PyData.list (l.map PyData.int)).canLay0 = true ∧ (PyData.list (l.map PyData.int)).depth ≤ 8 := by
  refine ⟨?_, ?_⟩
  · show PyData.canLayAll0 _ = true
    exact canLay_ints l
  · show PyData.depthAll _ + 1 ≤ 8
    rw [depth_ints]; omega
theorem shaped_of {d : PyData} (h : d.canLay0 = true ∧ d.depth ≤ 8) : SeqAt.shaped d = true := by
  unfold SeqAt.shaped
  rw [h.1]
  simp; omega
/-- two lists of the same data -/
theorem rd_neSame {K : PySem.W.Frag} {H : Hp} {Q : VK} {x y : V} {d : PyData} (h1 : Dp K H x d) (h2 : Dp K H y d) (s : d.canLay0 = true ∧ d.depth ≤ 8) (q : Q (.bl false) H) : rNeA K x y H Q :=
  rd_neD h1 h2 (shaped_of s) (shaped_of s) (by rw [SeqAt.eqv_refl d s.1]; exact q)
/-! keys -/
theorem addN_keys {kvs : List (L2.Key × V)} {x : Str} (h : (kvs.map Prod.fst).Nodup) (t : TxtK kvs) : ((addN kvs x).map Prod.fst).Nodup ∧ TxtK (addN kvs x) := by
  unfold addN
  split
  · exact ⟨h, t⟩
  · exact ⟨nod_put h, txtK_put t⟩
theorem addAll_keys : ∀ (ms : List Str) {kvs : List (L2.Key × V)}, (kvs.map Prod.fst).Nodup → TxtK kvs → ((addAll kvs ms).map Prod.fst).Nodup ∧ TxtK (addAll kvs ms)
  | [], kvs, h, t => ⟨h, t⟩
  | m :: ms, kvs, h, t => by
    obtain ⟨a, b⟩ := addN_keys (x := m) h t
    exact addAll_keys ms a b
theorem val_of_mem {kvs : List (L2.Key × V)} {p : L2.Key × V} : (kvs.map Prod.fst).Nodup → p ∈ kvs → valV kvs p.1 = some p.2 := by
  induction kvs with
  | nil => intro _ h; cases h
  | cons q r ih =>
    intro n h
    simp only [List.map_cons, List.nodup_cons] at n
    unfold valV
    rcases List.mem_cons.mp h with h | h
    · subst h; simp
    · have ne : q.1 ≠ p.1 := fun e => n.1 (by rw [e]; exact List.mem_map_of_mem h)
      rw [List.find?_cons_of_neg (by simpa using ne)]
      exact ih n.2 h
theorem nm_none {kvs : List (L2.Key × V)} {x : Str} (h : Sum.inr x ∉ kvs.map Prod.fst) : nmOf kvs x = 0 := by
  unfold nmOf
  cases e : valV kvs (.inr x) with
  | none => rfl
  | some v => exact absurd (valV_some_keys (by rw [e]; rfl)) h
theorem dict_same {ks ls : List (L2.Key × V)} (nk : (ks.map Prod.fst).Nodup) (t : TxtK ks) (hk : NmD ks) (hl : NmD ls) (e : ks.map Prod.fst = ls.map Prod.fst) (en : nmOf ks = nmOf ls) : ks.length = ls.length ∧ ∀ p ∈ ks, valV ls p.1 = some p.2 ∧ flatB p.2 = true := by
  refine ⟨by have := congrArg List.length e; simpa using this, fun p hp => ?_⟩
  have m : p.1 ∈ ks.map Prod.fst := List.mem_map_of_mem hp
  obtain ⟨x, ex⟩ := t p.1 m
  have v1 := val_of_mem nk hp
  rw [ex] at v1 m
  have v2 := val_some hk m
  have v3 := val_some hl (by rw [← e]; exact m)
  rw [v1] at v2
  obtain ⟨k, v⟩ := p
  simp only at ex
  subst ex
  cases v2
  rw [v3, en]
  exact ⟨rfl, rfl⟩
/-! readings: a dict that is walked -/
section
variable {K : PySem.W.Frag} {σ : L2.St} {H : Hp} {Q : VK} {te td : TE} {tt : TT} {d a : Addr} {kvs : List (L2.Key × V)} {o : Obj}
theorem rd_lock {t : TE} (hd : H d = some (.dK kvs)) (q : ∀ od, t σ (upd H d (.frz od (.dK kvs))) fun v H' => H' d = some (.frz od (.dK kvs)) ∧ Q v (upd H' d (.dK kvs))) : tLockE t σ H Q := ⟨d, .dK kvs, hd, trivial, q⟩
def IsK (x : V) (H : Hp) (W : It → Hp → Prop) : Prop := ∃ d o, x = .ref d ∧ ((∃ kvs, H d = some (.frz o (.dK kvs)) ∧ W (Itk d o kvs) H) ∨ ∃ kvs, H d = some (.frz o (.dT kvs)) ∧ W (Itkt d o kvs) H)
theorem rd_ikeys {W : It → Hp → Prop} (q : td σ H fun x H1 => IsK x H1 W) : iKeys td σ H W := q
theorem rd_isk {W : It → Hp → Prop} (h : H d = some (.frz o (.dK kvs))) (q : W (Itk d o kvs) H) : IsK (.ref d) H W := ⟨d, o, rfl, .inl ⟨kvs, h, q⟩⟩
theorem rd_lcK {g : TG} {vs : List Nat} (q : ∀ D H1, H D = none → Fr [] H H1 → H1 D = some (.lst []) → ∃ Pv : Nat → List V → Hp → Prop, Pv 0 [] H1 ∧ (∀ k acc H', k ≤ kvs.length → Pv k acc H' → H' d = some (.frz o (.dK kvs))) ∧
    (∀ i k v acc H', kvs[i]? = some (k, v) → H' D = some (.lst acc) → Pv i acc H' → g (kV k) (wipe σ vs) H' fun σ2 H2 => LcIn tt te vs σ D (LcP D Pv (i + 1)) σ2 H2) ∧ ∀ acc H', H' D = some (.lst acc) → Pv kvs.length acc H' → Q (.ref D) H') : LcT (Itk d o kvs) g tt te vs σ H Q := fun D hD => by
  obtain ⟨Pv, h0, hl, hs, hd⟩ := q D (upd H D (.lst [])) hD ((Fr.refl [] H).new hD) upd_same
  refine ⟨fun i m H' => m = kvs.length - i ∧ i ≤ kvs.length ∧ LcP D Pv i H', ⟨kvs.length, by omega, Nat.zero_le _, [], upd_same, h0⟩, fun i m H' p => ?_⟩
  obtain ⟨hm, hi, acc, e, p⟩ := p
  by_cases c : i = kvs.length
  · subst c
    exact .inl ⟨⟨hl _ _ _ (Nat.le_refl _) p, Nat.le_refl _⟩, hd acc H' e p⟩
  · have lt : i < kvs.length := by omega
    refine .inr ⟨⟨hl _ _ _ hi p, lt⟩, LcP D Pv (i + 1), fun H' q => ⟨kvs.length - (i + 1), by omega, rfl, lt, q⟩, fun x H2 y => ?_⟩
    obtain ⟨rfl, k, v, hk, rfl⟩ := y
    exact hs i k v acc _ hk e p
theorem rd_ggR {x : Str} {v : V} (h : Rd H a (.dK kvs)) (e : valV kvs (.inr x) = some v) (q : Q v H) : GG (.ref a) (.str x) H Q := ⟨a, v, rfl, .inl ⟨kvs, .inr x, h, rfl, e.symm⟩, q⟩
theorem rd_gde2 {x : Str} {z : Int} (h : H a = some (.dK kvs)) (n : NmD kvs) (q : Q (.int (if (valV kvs (.inr x)).isSome = true then nmOf kvs x else z)) H) : GDe a (.str x) (.int z) H Q := by
  refine ⟨_, DGet.k (k := .inr x) h, ?_⟩
  have e : (valV kvs (.inr x)).getD (.int z) = .int (if (valV kvs (.inr x)).isSome = true then nmOf kvs x else z) := by
    unfold nmOf
    cases e : valV kvs (.inr x) with
    | none => rfl
    | some v =>
      obtain ⟨i, rfl⟩ := n x v e
      rfl
  rw [e]; exact q
theorem rd_lcend1 {Dd : Addr} {Pv : Nat → List V → Hp → Prop} {k : Nat} {acc : List V} {v : V} (h : H Dd = some (.lst acc)) (hl : acc.length < sizeLine) (q : ∀ H5, Fr [Dd] H H5 → Kp H H5 → H5 Dd = some (.lst (acc ++ [v])) → Pv k (acc ++ [v]) H5) : LcEnd Dd (LcP Dd Pv k) v H :=
  ⟨acc, h, hl, acc ++ [v], upd_same, q _ ((Fr.refl [Dd] H).put (by simp)) (((Fr.refl [Dd] H).put (by simp)).kpL h) upd_same⟩
theorem rd_sum {ns : List Int} (h : SqL K H a (ns.map V.int)) (q : Q (.int ns.sum) H) : rSum K [.ref a] H Q := ⟨a, ns, rfl, h, q⟩
end
end Lf
namespace Lf
open PySem PySem.Spec PyProof.Rows L2
/-! ### the law's own reckoning -/
section
variable {P : Program} {w : World} {K : PySem.W.Frag} {mg : Str → Option Value} {base : Heap}
abbrev s__law_value : Stmt := top 23
abbrev N__law_value : List Str := ["_law_part_here", "_law_names_here", "_law_one", "_law_other"]
theorem sc__law_value : FnScope N__law_value ["_law_part_here", "_law_names_here"] (defScope s__law_value) := ⟨rfl, rfl, rfl, by decide +kernel, rfl, by decide +kernel, by decide +kernel⟩
theorem ok_value1 (T : Blt mg) (n k : Nat) (F : Here K mg "_law_value" s__law_value ["_law_part_here", "_law_names_here"]) (D__law_value : DefOk P w K mg base CX0 "_law_value" ["_law_part_here", "_law_names_here"] k (spReck K n)) : DefOk P w K mg base CX0 "_law_value" ["_law_part_here", "_law_names_here"] (k + 1) (spReck K (n + 1)) := by
  refine F.ok sc__law_value (fun vs H Q E h => ?_) (fun f cdv A outer s H vs Q E hr h => ?_)
  · obtain ⟨_, _, _, _, _, rfl, _⟩ := h; rfl
  obtain ⟨v, d, e, kvs, b, rfl, hd, hn, hs, hv, hD, nd, b10, b20, hb, q⟩ := h
  have hu64 := hr.units
  have hu : (cxOf CX0 P w K mg base N__law_value "_law_value" (defScope s__law_value) f cdv A outer s H E).nox.A.units + 1 < cLine := by
    have := hr.units
    show (A.deeper _).units + 1 < cLine
    omega
  have hr__law_value := hr.mono (j := k) (by omega)
  refine ⟨_, (pss_cons (ps_if (pt_cmpR (op_eqA hu64) (pe_ix ix_seq (pv 0) pe_int (fun _ _ => rfl)) pe_str (nomark _))
    (pss_one (ps_ret (pe_ix ix_seq (pv 0) pe_int (fun _ _ => rfl))))
    pss_nil)
    (pss_cons (ps_if (pt_cmpR (op_eqA hu64) (pe_ix ix_seq (pv 0) pe_int (fun _ _ => rfl)) pe_str (nomark _))
    (pss_one (ps_ret (pe_dget2 hu (pv 1) (pe_ix ix_seq (pv 0) pe_int (fun _ _ => rfl)) pe_int ⟨rfl, rfl, rfl, rfl⟩)))
    pss_nil)
    (pss_cons (ps_set (i := 2) sc__law_value.nd rfl (Or.inl rfl) (pe_callD D__law_value hr__law_value pass0 (pa_cons (pe_ix ix_seq (pv 0) pe_int (fun _ _ => rfl)) (pa_cons (pv 1) pa_nil))))
    (pss_cons (ps_set (i := 3) sc__law_value.nd rfl (Or.inl rfl) (pe_callD D__law_value hr__law_value pass0 (pa_cons (pe_ix ix_seq (pv 0) pe_int (fun _ _ => rfl)) (pa_cons (pv 1) pa_nil))))
    (pss_one (ps_ret (pe_ifExp (pt_cmpR (op_eqA hu64) (pe_ix ix_seq (pv 0) pe_int (fun _ _ => rfl)) pe_str (nomark _)) (pe_op op_plus (pv 2) (pv 3)) (pe_op op_timesA (pv 2) (pv 3))))))))), ?_⟩
  have step : ∀ c : Ex, depE c < 3 → smE c → (evE (nmOf kvs) c).natAbs < 2 ^ 400004 := fun c hc sc => by
    refine Nat.lt_of_lt_of_le (ev_le b10 hb sc) (Nat.pow_le_pow_right (by decide) ?_)
    have p : 2 ^ depE c ≤ 2 ^ 2 := Nat.pow_le_pow_right (by decide) (by omega)
    have := Nat.mul_le_mul (show b + 1 ≤ 100001 by omega) p
    omega
  cases e with
  | num i =>
    obtain ⟨a, _, rfl, hT, _, _, rfl, rfl, _, _, rfl, rfl, rfl⟩ := hv
    walk_at "rx"
    exact q _ (Fr.refl _ _)
  | name x =>
    obtain ⟨a, _, rfl, hT, _, _, rfl, rfl, _, _, rfl, rfl, rfl⟩ := hv
    walk_at "rx"
    refine rd_dget2 ?_
    walk_at "rx"
    refine rd_gd hD ?_
    walk_at "rx"
    refine rd_gde hD nd ?_
    walk_at "rx"
    exact q _ (Fr.refl _ _)
  | add c e =>
    simp only [depE] at hd
    obtain ⟨a, _, rfl, hT, _, _, rfl, rfl, vb, _, rfl, h1, vc, _, rfl, h2, rfl⟩ := hv
    walk_at "rx"
    refine ⟨_, d, c, kvs, b, rfl, by omega, by omega, hs.1, h1, hD, nd, b10, b20, hb, fun H2 f2 => ?_⟩
    walk_at "rx"
    refine ⟨_, d, e, kvs, b, rfl, by omega, by omega, hs.2, h2.mono f2.kp0, f2.at hD, nd, b10, b20, hb, fun H3 f3 => ?_⟩
    walk_at "rx"
    exact q _ (f2.trans f3)
  | mul c e =>
    simp only [depE] at hd
    obtain ⟨a, _, rfl, hT, _, _, rfl, rfl, vb, _, rfl, h1, vc, _, rfl, h2, rfl⟩ := hv
    walk_at "rx"
    refine ⟨_, d, c, kvs, b, rfl, by omega, by omega, hs.1, h1, hD, nd, b10, b20, hb, fun H2 f2 => ?_⟩
    walk_at "rx"
    refine ⟨_, d, e, kvs, b, rfl, by omega, by omega, hs.2, h2.mono f2.kp0, f2.at hD, nd, b10, b20, hb, fun H3 f3 => ?_⟩
    walk_at "rx"
    refine rd_mulW 400004 400004 (step c (by omega) hs.1) (step e (by omega) hs.2) (by decide) ?_
    walk_at "rx"
    exact q _ (f2.trans f3)
theorem ok_value (T : Blt mg) (F : Here K mg "_law_value" s__law_value ["_law_part_here", "_law_names_here"]) : ∀ n, DefOk P w K mg base CX0 "_law_value" ["_law_part_here", "_law_names_here"] n (spReck K n)
  | 0 => none_sp F fun vs H Q E h => by obtain ⟨_, _, _, _, _, _, h, _⟩ := h; omega
  | n + 1 => ok_value1 T n n F (ok_value T F n)
end
end Lf
namespace Lf
open PySem PySem.Spec PyProof.Rows L2
/-! ### the law's own run: its state, a dict -/
def sk (d t e : Addr) (n m : Int) (b : Bool) : List (L2.Key × V) := [(.inr "names", .ref d), (.inr "told", .ref t), (.inr "turns", .int n), (.inr "most", .int m), (.inr "entries", .ref e), (.inr "dry", .bl b)]
section
variable {d t e : Addr} {n m k : Int} {b c : Bool}
theorem sk_names : valV (sk d t e n m b) (.inr "names") = some (.ref d) := rfl
theorem sk_told : valV (sk d t e n m b) (.inr "told") = some (.ref t) := rfl
theorem sk_turns : valV (sk d t e n m b) (.inr "turns") = some (.int n) := rfl
theorem sk_most : valV (sk d t e n m b) (.inr "most") = some (.int m) := rfl
theorem sk_entries : valV (sk d t e n m b) (.inr "entries") = some (.ref e) := rfl
theorem sk_dry : valV (sk d t e n m b) (.inr "dry") = some (.bl b) := rfl
theorem sk_put : putK (sk d t e n m b) (.inr "turns") (.int k) = sk d t e k m b := rfl
theorem sk_put2 : putK (sk d t e n m b) (.inr "dry") (.bl c) = sk d t e n m c := rfl
theorem sk_new {kvs : List (L2.Key × V)} (h : kvs = [(.inr "names", .ref d), (.inr "told", .ref t), (.inr "turns", .int n), (.inr "most", .int m), (.inr "entries", .ref e), (.inr "dry", .bl b)]) : mergeK [] kvs = sk d t e n m b := by subst h; rfl
end
structure DAt (K : PySem.W.Frag) (S d t e : Addr) (M : Nat) (s : Sta) (ks : List L2.Key) (H : Hp) : Prop where
  ob : H S = some (.dK (sk d t e s.turns M false))
  di : ∃ kvs, H d = some (.dK kvs) ∧ NmD kvs ∧ nmOf kvs = s.ρ ∧ kvs.map Prod.fst = ks
  to : H t = some (.lst (s.told.map V.int))
  en : ∃ es, H e = some (.lst es) ∧ RpL K H (s.ents.map encN) es
  ne : t ≠ e
  sd : S ≠ d
  kl : ks.length ≤ 20000
structure DDry (S d t e : Addr) (B : Nat) (H : Hp) : Prop where
  ob : ∃ n m, H S = some (.dK (sk d t e n m true))
  di : ∃ kvs, H d = some (.dK kvs) ∧ NmD kvs
  to : ∃ ts, H t = some (.lst ts)
  en : ∃ es, H e = some (.lst es) ∧ es.length ≤ B
  ne : t ≠ e
  sd : S ≠ d
section
variable {K : PySem.W.Frag} {S d t e : Addr} {M B : Nat} {s : Sta} {ks : List L2.Key} {H H2 : Hp}
theorem DAt.apart (h : DAt K S d t e M s ks H) : d ≠ S ∧ t ≠ S ∧ e ≠ S ∧ t ≠ d ∧ e ≠ d ∧ e ≠ t := by
  obtain ⟨ob, ⟨kvs, hd, _⟩, ht, ⟨es, he, _⟩, ne, sd, _⟩ := h
  exact ⟨sd.symm, ne_of ht ob (by intro z; cases z), ne_of he ob (by intro z; cases z), ne_of ht hd (by intro z; cases z), ne_of he hd (by intro z; cases z), ne.symm⟩
theorem DAt.kp (h : DAt K S d t e M s ks H) (f : Fr [S, d, t, e] H H2) : Kp H H2 := f.kpM fun a m => by
  obtain ⟨ob, ⟨kvs, hd, _⟩, ht, ⟨es, he, _⟩, ne, _⟩ := h
  have m' : a = S ∨ a = d ∨ a = t ∨ a = e := by simpa using m
  rcases m' with rfl | rfl | rfl | rfl
  · exact ⟨_, ob, (fun _ z => by cases z), (fun _ _ z => by cases z)⟩
  · exact ⟨_, hd, (fun _ z => by cases z), (fun _ _ z => by cases z)⟩
  · exact ⟨_, ht, (fun _ z => by cases z), (fun _ _ z => by cases z)⟩
  · exact ⟨_, he, (fun _ z => by cases z), (fun _ _ z => by cases z)⟩
theorem DAt.mono (h : DAt K S d t e M s ks H) (f : Fr [] H H2) : DAt K S d t e M s ks H2 := by
  obtain ⟨ob, ⟨kvs, hd, r⟩, ht, ⟨es, he, re⟩, ne, sd, kl⟩ := h
  exact ⟨f.at ob, ⟨kvs, f.at hd, r⟩, f.at ht, ⟨es, f.at he, re.mono f.kp0⟩, ne, sd, kl⟩
/-- another list changes -/
theorem DAt.mono1 {q : Addr} (h : DAt K S d t e M s ks H) (f : Fr [q] H H2) (k : Kp H H2) (n1 : q ≠ S) (n2 : q ≠ d) (n3 : q ≠ t) (n4 : q ≠ e) : DAt K S d t e M s ks H2 := by
  obtain ⟨ob, ⟨kvs, hd, r⟩, ht, ⟨es, he, re⟩, ne, sd, kl⟩ := h
  exact ⟨f.at1 ob n1.symm, ⟨kvs, f.at1 hd n2.symm, r⟩, f.at1 ht n3.symm, ⟨es, f.at1 he n4.symm, re.mono k⟩, ne, sd, kl⟩
theorem DAt.say {v : Int} (h : DAt K S d t e M s ks H) (f : Fr [t] H H2) (k : Kp H H2) (q : H2 t = some (.lst (s.told.map V.int ++ [.int v]))) : DAt K S d t e M { s with told := s.told ++ [v] } ks H2 := by
  obtain ⟨n1, n2, n3, n4, n5, n6⟩ := h.apart
  obtain ⟨ob, ⟨kvs, hd, r⟩, ht, ⟨es, he, re⟩, ne, sd, kl⟩ := h
  exact ⟨f.at1 ob n2.symm, ⟨kvs, f.at1 hd n4.symm, r⟩, by rw [q]; simp, ⟨es, f.at1 he n6, re.mono k⟩, ne, sd, kl⟩
theorem DAt.ent {x : List Int × Int × Int} {es : List V} {u : V} (h : DAt K S d t e M s ks H) (he : H e = some (.lst es)) (he2 : RpL K H (s.ents.map encN) es) (f : Fr [e] H H2) (k : Kp H H2) (q : H2 e = some (.lst (es ++ [u]))) (hu : Rp K H2 (encN x) u) :
    DAt K S d t e M { s with ents := s.ents ++ [x] } ks H2 := by
  obtain ⟨n1, n2, n3, n4, n5, n6⟩ := h.apart
  obtain ⟨ob, ⟨kvs, hd, r⟩, ht, _, ne, sd, kl⟩ := h
  refine ⟨f.at1 ob n3.symm, ⟨kvs, f.at1 hd n5.symm, r⟩, f.at1 ht n6.symm, ⟨_, q, ?_⟩, ne, sd, kl⟩
  show RpL K H2 ((s.ents ++ [x]).map encN) _
  rw [List.map_append]
  exact rpl_snoc hu (he2.mono k)
theorem DAt.put {kvs : List (L2.Key × V)} {x : Str} {v : Int} (h : DAt K S d t e M s ks H) (hd : H d = some (.dK kvs)) (hx : Sum.inr x ∈ ks) : DAt K S d t e M { s with ρ := setN s.ρ x v } ks (upd H d (.dK (putK kvs (.inr x) (.int v)))) := by
  obtain ⟨n1, n2, n3, n4, n5, n6⟩ := h.apart
  have hW := h
  obtain ⟨ob, ⟨kvs', hd', nd, hρ, hk⟩, ht, ⟨es, he, re⟩, ne, sd, kl⟩ := h
  rw [hd] at hd'; cases hd'
  obtain ⟨z1, z2⟩ := nm_put (x := x) (v := v) nd
  have f : Fr [S, d, t, e] H (upd H d (.dK (putK kvs (.inr x) (.int v)))) := (Fr.refl _ H).put (by simp)
  refine ⟨by rw [upd_ne n1.symm]; exact ob, ⟨_, upd_same, z1, by rw [z2, hρ], by rw [keys_put (by rw [hk]; exact hx), hk]⟩, by rw [upd_ne n4]; exact ht, ⟨es, by rw [upd_ne n5]; exact he, re.mono (hW.kp f)⟩, ne, sd, kl⟩
theorem DAt.turn {n : Nat} (h : DAt K S d t e M s ks H) : DAt K S d t e M { s with turns := n } ks (upd H S (.dK (putK (sk d t e s.turns M false) (.inr "turns") (.int (n : Int))))) := by
  obtain ⟨n1, n2, n3, n4, n5, n6⟩ := h.apart
  have hW := h
  obtain ⟨ob, ⟨kvs, hd, r⟩, ht, ⟨es, he, re⟩, ne, sd, kl⟩ := h
  have f : Fr [S, d, t, e] H (upd H S (.dK (putK (sk d t e s.turns M false) (.inr "turns") (.int (n : Int))))) := (Fr.refl _ H).put (by simp)
  exact ⟨by rw [upd_same]; rfl, ⟨kvs, by rw [upd_ne n1]; exact hd, r⟩, by rw [upd_ne n2]; exact ht, ⟨es, by rw [upd_ne n3]; exact he, re.mono (hW.kp f)⟩, ne, sd, kl⟩
/-- it is dry -/
theorem DAt.dry (h : DAt K S d t e M s ks H) (hB : s.ents.length ≤ B) : DDry S d t e B (upd H S (.dK (putK (sk d t e s.turns M false) (.inr "dry") (.bl true)))) := by
  obtain ⟨n1, n2, n3, n4, n5, n6⟩ := h.apart
  obtain ⟨ob, ⟨kvs, hd, nd, r⟩, ht, ⟨es, he, re⟩, ne, sd, kl⟩ := h
  have l := RpL.length re
  rw [List.length_map] at l
  exact ⟨⟨_, _, by rw [upd_same]; rfl⟩, ⟨kvs, by rw [upd_ne n1]; exact hd, nd⟩, ⟨_, by rw [upd_ne n2]; exact ht⟩, ⟨es, by rw [upd_ne n3]; exact he, by omega⟩, ne, sd⟩
theorem DDry.apart (h : DDry S d t e B H) : d ≠ S ∧ t ≠ S ∧ e ≠ S ∧ t ≠ d ∧ e ≠ d ∧ e ≠ t := by
  obtain ⟨⟨_, _, ob⟩, ⟨kvs, hd, _⟩, ⟨ts, ht⟩, ⟨es, he, _⟩, ne, sd⟩ := h
  exact ⟨sd.symm, ne_of ht ob (by intro z; cases z), ne_of he ob (by intro z; cases z), ne_of ht hd (by intro z; cases z), ne_of he hd (by intro z; cases z), ne.symm⟩
theorem DDry.mono (h : DDry S d t e B H) (f : Fr [] H H2) : DDry S d t e B H2 := by
  obtain ⟨⟨n, m, ob⟩, ⟨kvs, hd, nd⟩, ⟨ts, ht⟩, ⟨es, he, l⟩, ne, sd⟩ := h
  exact ⟨⟨n, m, f.at ob⟩, ⟨kvs, f.at hd, nd⟩, ⟨ts, f.at ht⟩, ⟨es, f.at he, l⟩, ne, sd⟩
theorem DDry.up {B2 : Nat} (h : DDry S d t e B H) (l : B ≤ B2) : DDry S d t e B2 H := by
  obtain ⟨ob, di, to, ⟨es, he, le⟩, ne, sd⟩ := h
  exact ⟨ob, di, to, ⟨es, he, by omega⟩, ne, sd⟩
theorem DDry.ent {es : List V} {u : V} (h : DDry S d t e B H) (he : H e = some (.lst es)) (hl : es.length ≤ B) (f : Fr [e] H H2) (q : H2 e = some (.lst (es ++ [u]))) : DDry S d t e (B + 1) H2 := by
  obtain ⟨n1, n2, n3, n4, n5, n6⟩ := h.apart
  obtain ⟨⟨n, m, ob⟩, ⟨kvs, hd, nd⟩, ⟨ts, ht⟩, _, ne, sd⟩ := h
  exact ⟨⟨n, m, f.at1 ob n3.symm⟩, ⟨kvs, f.at1 hd n5.symm, nd⟩, ⟨ts, f.at1 ht n6.symm⟩, ⟨_, q, by simp; omega⟩, ne, sd⟩
theorem DDry.again {n m : Int} (h : DDry S d t e B H) (ob : H S = some (.dK (sk d t e n m true))) : DDry S d t e B (upd H S (.dK (putK (sk d t e n m true) (.inr "dry") (.bl true)))) := by
  obtain ⟨n1, n2, n3, n4, n5, n6⟩ := h.apart
  obtain ⟨_, ⟨kvs, hd, nd⟩, ⟨ts, ht⟩, ⟨es, he, l⟩, ne, sd⟩ := h
  exact ⟨⟨n, m, by rw [upd_same]; rfl⟩, ⟨kvs, by rw [upd_ne n1]; exact hd, nd⟩, ⟨ts, by rw [upd_ne n2]; exact ht⟩, ⟨es, by rw [upd_ne n3]; exact he, l⟩, ne, sd⟩
end
end Lf
namespace Lf
open PySem PySem.Spec PyProof.Rows L2
def spTurnsD (K : PySem.W.Frag) (n : Nat) : Sp := fun vs H Q _ => ∃ G last M S d t e v g m r plv pl s ks, vs = [v, plv, .ref S] ∧ depL r < n ∧ n ≤ 10 ∧ gdS G last 6 (.lap g m r) ∧ Rp K H (encS (.lap g m r)) v ∧ Rp K H (.tup (pl.map D.int)) plv ∧
  DAt K S d t e M s ks H ∧ Sum.inr g ∈ ks ∧ (∀ x ∈ setL r, Sum.inr x ∈ ks) ∧ Ok G last 6 M 1 s ∧ pl.length + n ≤ 50 ∧
  (∀ s2, runS M (.lap g m r) pl s = some s2 → ∀ H2, Fr [S, d, t, e] H H2 → DAt K S d t e M s2 ks H2 → Q .non H2) ∧
  (runS M (.lap g m r) pl s = none → ∀ H2, Fr [S, d, t, e] H H2 → Kp H H2 → DDry S d t e (40001 + n) H2 → Q .non H2)
def spWalkD (K : PySem.W.Frag) (n : Nat) : Sp := fun vs H Q _ => ∃ G last M S d t e v r plv pl s ks, vs = [v, plv, .ref S] ∧ depL r < n ∧ n ≤ 10 ∧ gdL G last 6 r ∧ Rp K H (encR r) v ∧ Rp K H (.tup (pl.map D.int)) plv ∧
  DAt K S d t e M s ks H ∧ (∀ x ∈ setL r, Sum.inr x ∈ ks) ∧ Ok G last 6 M r.length s ∧ pl.length + n ≤ 50 ∧
  (∀ s2, runL M r pl 0 s = some s2 → ∀ H2, Fr [S, d, t, e] H H2 → DAt K S d t e M s2 ks H2 → Q .non H2) ∧
  (runL M r pl 0 s = none → ∀ H2, Fr [S, d, t, e] H H2 → Kp H H2 → DDry S d t e (40000 + n) H2 → Q .non H2)
section
variable {P : Program} {w : World} {K : PySem.W.Frag} {mg : Str → Option Value} {base : Heap}
abbrev s__law_turns : Stmt := top 25
abbrev N__law_turns : List Str := ["_law_one", "_law_place", "_law_s", "_law_entry"]
theorem sc__law_turns : FnScope N__law_turns ["_law_one", "_law_place", "_law_s"] (defScope s__law_turns) := ⟨rfl, rfl, rfl, by decide +kernel, rfl, by decide +kernel, by decide +kernel⟩
theorem ok_turnsD1 (T : Blt mg) (n k : Nat) (hk : 4 ≤ k) (F : Here K mg "_law_turns" s__law_turns ["_law_one", "_law_place", "_law_s"]) (D__law_value : DefOk P w K mg base CX0 "_law_value" ["_law_part_here", "_law_names_here"] 4 (spReck K 4))
    (D__law_walk : DefOk P w K mg base CX0 "_law_walk" ["_law_row_here", "_law_place", "_law_s"] k (spWalkD K n)) : DefOk P w K mg base CX0 "_law_turns" ["_law_one", "_law_place", "_law_s"] (k + 1) (spTurnsD K n) := by
  refine F.ok sc__law_turns (fun vs H Q E h => ?_) (fun f cdv A outer s H vs Q E hr h => ?_)
  · obtain ⟨_, _, _, _, _, _, _, _, _, _, _, _, _, _, _, rfl, _⟩ := h; rfl
  obtain ⟨G, last, M, S, d, t, e, v, g, m, r, plv, pl, s0, ks, rfl, hd, hn10, hg, hv, hpl, hW, hgk, hks, hO, hlen, qs, qe⟩ := h
  have hu64 := hr.units
  have hu : (cxOf CX0 P w K mg base N__law_turns "_law_turns" (defScope s__law_turns) f cdv A outer s H E).nox.A.units + 1 < cLine := by
    have := hr.units
    show (A.deeper _).units + 1 < cLine
    omega
  have hr__law_value := hr.mono (j := 4) (by omega)
  have hr__law_walk := hr.mono (j := k) (by omega)
  refine ⟨_, (pss_cons (ps_set (i := 3) sc__law_turns.nd rfl (Or.inl rfl) (pe_lst (pa_cons (pv 1) (pa_cons (pe_callD D__law_value hr__law_value pass0 (pa_cons (pe_ix ix_seq (pv 0) pe_int (fun _ _ => rfl)) (pa_cons (pe_dget hu (pv 2) pe_str (fun _ _ => rfl)) pa_nil))) (pa_cons pe_int pa_nil)))))
    (pss_cons (ps_while PassesOwn.never (pt_cmpR op_gt (pe_dget2 hu (pe_dget hu (pv 2) pe_str (fun _ _ => rfl)) (pe_ix ix_seq (pv 0) pe_int (fun _ _ => rfl)) pe_int ⟨rfl, rfl, rfl, rfl⟩) pe_int (nomark _))
    (pss_cons (ps_if (PW.pt (pw_or (pt_cmpR op_ge (pe_dget hu (pv 2) pe_str (fun _ _ => rfl)) (pe_dget hu (pv 2) pe_str (fun _ _ => rfl)) (nomark _)) (pw_or1 (pt_val (pe_dget hu (pv 2) pe_str (fun _ _ => rfl))))))
    (pss_cons (ps_dput hu (pv 2) pe_str pe_bl rfl)
    (pss_one ps_retN))
    pss_nil)
    (pss_cons (ps_dput hu (pv 2) pe_str (pe_op op_plus (pe_dget hu (pv 2) pe_str (fun _ _ => rfl)) pe_int) rfl)
    (pss_cons (ps_asg (pe_op op_plus (pe_ix ix_seq (pv 3) pe_int (fun _ _ => rfl)) pe_int) (pg_sub (pv 3) pe_int set_list))
    (pss_cons (ps_dput hu (pe_dget hu (pv 2) pe_str (fun _ _ => rfl)) (pe_ix ix_seq (pv 0) pe_int (fun _ _ => rfl)) (pe_op op_sub (pe_dget hu (pe_dget hu (pv 2) pe_str (fun _ _ => rfl)) (pe_ix ix_seq (pv 0) pe_int (fun _ _ => rfl)) (fun _ _ => rfl)) pe_int) rfl)
    (pss_one (ps_expr (pe_callD D__law_walk hr__law_walk pass0 (pa_cons (pe_ix ix_seq (pv 0) pe_int (fun _ _ => rfl)) (pa_cons (pv 1) (pa_cons (pv 2) pa_nil)))))))))))
    (pss_one (ps_expr (pe_bm PySem.F.plainAttrs_list PySem.F.slot_list_append PySem.F.type_list_append mt_append (pe_dget hu (pv 2) pe_str (fun _ _ => rfl)) (pa_cons (pe_callTy call_tupleA (by rfl) T.n_tuple (by decide +kernel) (pa_cons (pv 3) pa_nil)) pa_nil)))))), ?_⟩
  obtain ⟨a1, _, rfl, hT1, _, _, rfl, rfl, _, _, rfl, rfl, v1, _, rfl, h1, v2, _, rfl, h2, rfl⟩ := hv
  obtain ⟨kvs, hD, nd, hρ, hkk⟩ := hW.di
  obtain ⟨b, b1, b2, b3⟩ := hO.bits
  walk_at "rx"
  refine rd_dget ?_
  walk_at "rx"
  refine rd_gg hW.ob sk_names ?_
  walk_at "rx"
  refine ⟨_, d, m, kvs, b, rfl, hg.1, by omega, hg.2.1, h1, hD, nd, b1, b2, by rw [hρ]; exact b3, fun H2 f2 => ?_⟩
  rw [hρ]
  walk_at "rx"
  refine rd_newL (by simp) fun q H3 nq f3 eq => ?_
  have nqH : H q = none := f2.free nq
  have n1 : q ≠ S := (ne_of_none hW.ob nqH).symm
  have n2 : q ≠ d := (ne_of_none hD nqH).symm
  have n3 : q ≠ t := (ne_of_none hW.to nqH).symm
  obtain ⟨es0, he0, _⟩ := hW.en
  have n4 : q ≠ e := (ne_of_none he0 nqH).symm
  have nq4 : q ∉ [S, d, t, e] := by simp [n1, n2, n3, n4]
  walk_at "rs"
  with_reducible refine rd_seqc fun N hN => ?_
  refine rd_whileF (fun fu σ H' => ∃ (many : Nat), σ = [some (.ref a1), some plv, some (.ref S), some (.ref q)] ∧ Fr [S, d, t, e] H H' ∧ Kp H H' ∧ H' q = some (.lst [plv, .int (evE s0.ρ m), .int (many : Nat)]) ∧
    ((∃ s', DAt K S d t e M s' ks H' ∧ Ok G last 6 M 1 s' ∧ M + 1 ≤ fu + s'.turns ∧ goLap M g (fun s => runL M r pl 0 s) fu many s' = goLap M g (fun s => runL M r pl 0 s) (M + 1 - s0.turns) 0 s0) ∨
     (DDry S d t e (40000 + n) H' ∧ goLap M g (fun s => runL M r pl 0 s) (M + 1 - s0.turns) 0 s0 = none))) (M + 1 - s0.turns) ⟨0, rfl, (f2.trans f3).nil, (f2.trans f3).kp0, eq, .inl ⟨s0, hW.mono (f2.trans f3), hO, by omega, rfl⟩⟩ fun fu σ H' hσ => ?_
  obtain ⟨many, rfl, f', kp', eq', hcase⟩ := hσ
  rcases hcase with ⟨s', hW', hO', hfu, hgo⟩ | ⟨hDy, hno⟩
  · obtain ⟨kvs', hD', nd', hρ', hkk'⟩ := hW'.di
    have tu' := hO'.tu
    walk_at "rx"
    refine rd_dget2 ?_
    refine rd_dget ?_
    walk_at "rx"
    refine rd_gg hW'.ob sk_names ?_
    refine rd_gd hD' ?_
    walk_at "rx"
    refine rd_gde hD' nd' ?_
    rw [hρ']
    walk_at "rx"
    obtain ⟨fu, rfl⟩ : ∃ j, fu = j + 1 := ⟨fu - 1, by omega⟩
    by_cases c : 0 < s'.ρ g
    · refine ifT (by simpa using c) ?_
      refine ⟨_, fun σ' H' q => ⟨fu, Nat.lt_succ_self _, q⟩, ?_⟩
      walk_at "rx"
      refine rd_dget ?_
      walk_at "rx"
      refine rd_gg hW'.ob sk_turns ?_
      refine rd_dget ?_
      walk_at "rx"
      refine rd_gg hW'.ob sk_most ?_
      walk_at "rx"
      by_cases c2 : s'.turns = M
      · refine ifT (by simp [c2]) ?_
        refine ifT rfl ?_
        walk_at "rx"
        refine rd_dput ?_
        walk_at "rx"
        refine rd_gp hW'.ob (by rw [sizeLine_eq]; show 6 < _; omega) ?_
        walk_at "rx"
        have le := hO'.le
        unfold lenT at le
        have f3 : Fr [S, d, t, e] H' (upd H' S (.dK (putK (sk d t e s'.turns M false) (.inr "dry") (.bl true)))) := (Fr.refl _ H').put (by simp)
        refine qe ?_ _ (f'.trans f3) (kp'.trans (hW'.kp f3)) (hW'.dry (by omega))
        simp only [runS]
        rw [← hgo]
        simp only [goLap, if_pos c, if_pos c2, Option.map_none]
      · refine ifF (by simp; omega) ?_
        walk_at "rx"
        refine rd_dget ?_
        walk_at "rx"
        refine rd_gg hW'.ob sk_dry ?_
        walk_at "rx"
        refine rd_dput ?_
        walk_at "rx"
        refine rd_dget ?_
        walk_at "rx"
        refine rd_gg hW'.ob sk_turns ?_
        walk_at "rx"
        refine rd_gp hW'.ob (by rw [sizeLine_eq]; show 6 < _; omega) ?_
        have e1 : (s'.turns : Int) + 1 = ((s'.turns + 1 : Nat) : Int) := by omega
        rw [e1]
        have hW2 := hW'.turn (n := s'.turns + 1)
        have f3 : Fr [S, d, t, e] H' (upd H' S (.dK (putK (sk d t e s'.turns M false) (.inr "turns") (.int ((s'.turns + 1 : Nat) : Int))))) := (Fr.refl _ H').put (by simp)
        have eq3 := f3.at eq' nq4
        have k3 := hW'.kp f3
        generalize upd H' S (.dK (putK (sk d t e s'.turns M false) (.inr "turns") (.int ((s'.turns + 1 : Nat) : Int)))) = H3 at hW2 f3 eq3 k3 ⊢
        walk_at "rx"
        refine rd_setL eq3 (n := 2) rfl fun H4 f4 k4 e4 => ?_
        have hW4 := hW2.mono1 f4 k4 n1 n2 n3 n4
        obtain ⟨kvs4, hD4, nd4, hρ4, hkk4⟩ := hW4.di
        walk_at "rx"
        refine rd_dput ?_
        walk_at "rx"
        refine rd_dget ?_
        refine rd_dget ?_
        walk_at "rx"
        refine rd_gg hW4.ob sk_names ?_
        have kq4 : Kp H H4 := (kp'.trans k3).trans k4
        walk_at "rx"
        refine rd_gg hD4 (val_some nd4 (by rw [hkk4]; exact hgk)) ?_
        walk_at "rx"
        refine rd_dget ?_
        walk_at "rx"
        refine rd_gg hW4.ob sk_names ?_
        walk_at "rx"
        have kl4 : kvs4.length < sizeLine := by
          have := hW4.kl
          rw [← hkk4, List.length_map] at this
          rw [sizeLine_eq]; omega
        refine rd_gp hD4 kl4 ?_
        rw [hρ4]
        have hW5 := hW4.put (x := g) (v := s'.ρ g - 1) hD4 hgk
        have f5 : Fr [S, d, t, e] H4 (upd H4 d (.dK (putK kvs4 (.inr g) (.int (s'.ρ g - 1))))) := (Fr.refl _ H4).put (by simp)
        have eq5 := f5.at e4 nq4
        have k5 := hW4.kp f5
        show _
        generalize upd H4 d (.dK (putK kvs4 (.inr g) (.int (s'.ρ g - 1)))) = H5 at hW5 f5 eq5 k5 ⊢
        have kq5 : Kp H H5 := kq4.trans k5
        have F5 : Fr [S, d, t, e] H H5 := ((f'.trans f3).then1 f4 nqH).trans f5
        walk_at "rx"
        have hO3 := hO'.turn c c2
        have lw : r.length ≤ 6 := hg.2.2.1
        refine ⟨G, last, M, S, d, t, e, _, r, _, pl, _, ks, rfl, hd, hn10, hg.2.2.2, h2.mono kq5, hpl.mono kq5, hW5, hks, hO3.less (by omega), hlen, fun s2 e2 H6 f6 hW6 => ?_, fun e2 H6 f6 k6 hDy => ?_⟩
        · walk_at "rx"
          refine ⟨many + 1, rfl, F5.trans f6, kq5.trans (hW5.kp f6), ?_, .inl ⟨s2, hW6, (hO3.less (d := 1 + r.length) (by omega)).row hg.2.2.2 e2, ?_, ?_⟩⟩
          · rw [f6.at eq5 nq4]; rfl
          · have := (runL_turns r pl 0 _ s2 (by show s'.turns + 1 ≤ M; omega) e2).1
            have this : s'.turns + 1 ≤ s2.turns := this
            omega
          · rw [← hgo]
            conv => rhs; unfold goLap
            rw [if_pos c, if_neg c2]
            show _ = Option.bind (runL M r pl 0 _) _
            rw [e2]; rfl
        · walk_at "rx"
          refine ⟨many + 1, rfl, F5.trans f6, kq5.trans k6, ?_, .inr ⟨hDy, ?_⟩⟩
          · rw [f6.at eq5 nq4]; rfl
          · rw [← hgo]
            unfold goLap
            rw [if_pos c, if_neg c2]
            show Option.bind (runL M r pl 0 _) _ = none
            rw [e2]; rfl
    · refine ifF (by simpa using c) ?_
      refine hN _ _ ?_
      walk_at "rx"
      refine rd_dget ?_
      walk_at "rx"
      refine rd_gg hW'.ob sk_entries ?_
      obtain ⟨es, he, hes⟩ := hW'.en
      refine rd_tyL he ?_
      walk_at "rx"
      refine rd_tupL (SqL.of eq') fun u H4 nu f4 eu => ?_
      walk_at "rx"
      have hW4 := hW'.mono f4
      have kp4 := kp'.trans f4.kp0
      refine rd_app1 (f4.at he) (by have := hO'.told.2; have l2 := RpL.length hes; rw [List.length_map] at l2; omega) fun H5 f5 k5 e5 => ?_
      walk_at "rx"
      have hu4 : Rp K H5 (encN (pl, evE s0.ρ m, (many : Int))) (.ref u) := by
        refine ⟨u, _, rfl, k5.sq (SqT.of eu), plv, _, rfl, hpl.mono (kp4.trans k5), _, _, rfl, rfl, _, _, rfl, rfl, rfl⟩
      refine qs { s' with ents := s'.ents ++ [(pl, evE s0.ρ m, (many : Int))] } ?_ H5 ((f'.trans f4.nil).trans (fr4 f5 (by simp))) (hW4.ent (f4.at he) (hes.mono f4.kp0) f5 k5 e5 hu4)
      simp only [runS]
      rw [← hgo]
      simp only [goLap, if_neg c, Option.map_some]
  · -- dry already
    obtain ⟨n', m', ob⟩ := hDy.ob
    obtain ⟨kvs', hD', nd'⟩ := hDy.di
    have dryEnd : runS M (.lap g m r) pl s0 = none := by
      simp only [runS]
      rw [hno]; rfl
    walk_at "rx"
    refine rd_dget2 ?_
    refine rd_dget ?_
    walk_at "rx"
    refine rd_gg ob sk_names ?_
    refine rd_gd hD' ?_
    walk_at "rx"
    refine rd_gde hD' nd' ?_
    walk_at "rx"
    refine ite2 (fun hc => ?_) (fun hc => ?_)
    · refine ⟨fun _ _ => False, fun σ' H' q => q.elim, ?_⟩
      walk_at "rx"
      refine rd_dget ?_
      walk_at "rx"
      refine rd_gg ob sk_turns ?_
      refine rd_dget ?_
      walk_at "rx"
      refine rd_gg ob sk_most ?_
      walk_at "rx"
      have f3 : Fr [S, d, t, e] H' (upd H' S (.dK (putK (sk d t e n' m' true) (.inr "dry") (.bl true)))) := (Fr.refl _ H').put (by simp)
      have k3 : Kp H' (upd H' S (.dK (putK (sk d t e n' m' true) (.inr "dry") (.bl true)))) := ((Fr.refl [S] H').put (by simp)).kpM fun a m => by
        rw [List.mem_singleton.mp m]
        exact ⟨_, ob, (fun _ z => by cases z), (fun _ _ z => by cases z)⟩
      refine ite2 (fun _ => ?_) (fun _ => ?_)
      · refine ifT rfl ?_
        walk_at "rx"
        refine rd_dput ?_
        walk_at "rx"
        refine rd_gp ob (by rw [sizeLine_eq]; show 6 < _; omega) ?_
        walk_at "rx"
        exact qe dryEnd _ (f'.trans f3) (kp'.trans k3) ((hDy.again ob).up (by omega))
      · walk_at "rx"
        refine rd_dget ?_
        walk_at "rx"
        refine rd_gg ob sk_dry ?_
        walk_at "rx"
        refine rd_dput ?_
        walk_at "rx"
        refine rd_gp ob (by rw [sizeLine_eq]; show 6 < _; omega) ?_
        walk_at "rx"
        exact qe dryEnd _ (f'.trans f3) (kp'.trans k3) ((hDy.again ob).up (by omega))
    · refine hN _ _ ?_
      walk_at "rx"
      refine rd_dget ?_
      walk_at "rx"
      refine rd_gg ob sk_entries ?_
      obtain ⟨es, he, les⟩ := hDy.en
      refine rd_tyL he ?_
      walk_at "rx"
      refine rd_tupL (SqL.of eq') fun u H4 nu f4 eu => ?_
      walk_at "rx"
      refine rd_app1 (f4.at he) (by rw [sizeLine_eq]; omega) fun H5 f5 k5 e5 => ?_
      walk_at "rx"
      exact qe dryEnd _ ((f'.trans f4.nil).trans (fr4 f5 (by simp))) ((kp'.trans f4.kp0).trans k5) (((hDy.mono f4).ent (f4.at he) les f5 e5).up (by omega))
end
end Lf
namespace Lf
open PySem PySem.Spec PyProof.Rows L2
section
variable {P : Program} {w : World} {K : PySem.W.Frag} {mg : Str → Option Value} {base : Heap}
abbrev s__law_walk : Stmt := top 24
abbrev N__law_walk : List Str := ["_law_row_here", "_law_place", "_law_s", "_law_k", "_law_one"]
theorem sc__law_walk : FnScope N__law_walk ["_law_row_here", "_law_place", "_law_s"] (defScope s__law_walk) := ⟨rfl, rfl, rfl, by decide +kernel, rfl, by decide +kernel, by decide +kernel⟩
theorem ok_walkD1 (T : Blt mg) (n k : Nat) (hk : 4 ≤ k) (F : Here K mg "_law_walk" s__law_walk ["_law_row_here", "_law_place", "_law_s"]) (D__law_value : DefOk P w K mg base CX0 "_law_value" ["_law_part_here", "_law_names_here"] 4 (spReck K 4))
    (D__law_turns : DefOk P w K mg base CX0 "_law_turns" ["_law_one", "_law_place", "_law_s"] k (spTurnsD K n)) : DefOk P w K mg base CX0 "_law_walk" ["_law_row_here", "_law_place", "_law_s"] (k + 1) (spWalkD K (n + 1)) := by
  refine F.ok sc__law_walk (fun vs H Q E h => ?_) (fun f cdv A outer s H vs Q E hr h => ?_)
  · obtain ⟨_, _, _, _, _, _, _, _, _, _, _, _, _, rfl, _⟩ := h; rfl
  obtain ⟨G, last, M, S, d, t, e, v, r, plv, pl, s0, ks, rfl, hd, hn10, hg, hv, hpl, hW, hks, hO, hlen, qs, qe⟩ := h
  have hu64 := hr.units
  have hu : (cxOf CX0 P w K mg base N__law_walk "_law_walk" (defScope s__law_walk) f cdv A outer s H E).nox.A.units + 1 < cLine := by
    have := hr.units
    show (A.deeper _).units + 1 < cLine
    omega
  have hr__law_value := hr.mono (j := 4) (by omega)
  have hr__law_turns := hr.mono (j := k) (by omega)
  refine ⟨_, (pss_one (ps_for PassesOwn.never rfl (pi_range1 (by rfl) T.n_range (pa_cons (pe_callB call_lenA (by rfl) T.n_len PySem.boot_len (pa_cons (pe_ix ix_seq (pv 0) pe_int (fun _ _ => rfl)) pa_nil)) pa_nil)) (pg_name (i := 3) sc__law_walk.nd rfl (Or.inl rfl))
    (pss_cons (ps_set (i := 4) sc__law_walk.nd rfl (Or.inl rfl) (pe_ix ix_seq (pe_ix ix_seq (pv 0) pe_int (fun _ _ => rfl)) (pv 3) (fun _ _ => rfl)))
    (pss_cons (ps_if (pt_val (pe_dget hu (pv 2) pe_str (fun _ _ => rfl)))
    (pss_one ps_retN)
    pss_nil)
    (pss_one (ps_if (pt_cmpR (op_eqA hu64) (pe_ix ix_seq (pv 4) pe_int (fun _ _ => rfl)) pe_str (nomark _))
    (pss_one (ps_expr (pe_bm PySem.F.plainAttrs_list PySem.F.slot_list_append PySem.F.type_list_append mt_append (pe_dget hu (pv 2) pe_str (fun _ _ => rfl)) (pa_cons (pe_callD D__law_value hr__law_value pass0 (pa_cons (pe_ix ix_seq (pv 4) pe_int (fun _ _ => rfl)) (pa_cons (pe_dget hu (pv 2) pe_str (fun _ _ => rfl)) pa_nil))) pa_nil))))
    (pss_one (ps_if (pt_cmpR (op_eqA hu64) (pe_ix ix_seq (pv 4) pe_int (fun _ _ => rfl)) pe_str (nomark _))
    (pss_one (ps_dput hu (pe_dget hu (pv 2) pe_str (fun _ _ => rfl)) (pe_ix ix_seq (pv 4) pe_int (fun _ _ => rfl)) (pe_callD D__law_value hr__law_value pass0 (pa_cons (pe_ix ix_seq (pv 4) pe_int (fun _ _ => rfl)) (pa_cons (pe_dget hu (pv 2) pe_str (fun _ _ => rfl)) pa_nil))) rfl))
    (pss_one (ps_expr (pe_callD D__law_turns hr__law_turns pass0 (pa_cons (pv 4) (pa_cons (pe_op op_plus (pv 1) (pe_tup (pa_cons (pv 3) pa_nil))) (pa_cons (pv 2) pa_nil)))))))))))))), ?_⟩
  obtain ⟨a, _, rfl, hT, _, _, rfl, rfl, _, _, rfl, ⟨ut, us, rfl, hU, hL⟩, rfl⟩ := hv
  obtain ⟨pa, pvs, rfl, hP, hPL⟩ := hpl
  have ul : us.length = r.length := by have := RpL.length hL; rw [this, encL_len]
  have epv := rpl_ints hPL
  have hle := hO.le
  walk_at "rx"
  refine rd_rng1 (by omega) ?_
  refine rd_forR (fun i σ H' => ∃ o3 o4, σ = [some (.ref a), some (.ref pa), some (.ref S), o3, o4] ∧ Fr [S, d, t, e] H H' ∧ Kp H H' ∧
    ((∃ s', DAt K S d t e M s' ks H' ∧ Ok G last 6 M (r.length - i) s' ∧ runL M (r.drop i) pl i s' = runL M r pl 0 s0) ∨ (DDry S d t e (40000 + (n + 1)) H' ∧ runL M r pl 0 s0 = none)))
    ⟨none, none, rfl, Fr.refl _ _, Kp.refl _, .inl ⟨s0, hW, hO, rfl⟩⟩ (fun i σ H' hi hσ => ?_) (fun σ H' hσ => ?_)
  · obtain ⟨o3, o4, rfl, f', kp', hcase⟩ := hσ
    have hi : i < r.length := by omega
    have lt : i < us.length := by omega
    obtain ⟨sm, hsm, hv⟩ := encL_at hL (List.getElem?_eq_getElem lt)
    have hv := hv.mono kp'
    have ai : atI us (0 + (i : Int)) = some us[i] := by
      have z : atI us ((i : Nat) : Int) = some us[i] := atI_nat (List.getElem?_eq_getElem lt)
      have e : (0 : Int) + (i : Int) = (i : Int) := by omega
      rw [e]; exact z
    generalize us[i] = x at hv ai
    have gsm := gd_at hg hsm
    have dsm := dep_at hsm
    have edr : r.drop i = sm :: r.drop (i + 1) := by
      rw [List.drop_eq_getElem_cons hi, (List.getElem?_eq_some_iff.mp hsm).2]
    walk_at "rx"
    refine rd_ixT (kp'.sq hU) ai ?_
    rcases hcase with ⟨s', hW', hO', hrun⟩ | ⟨hDy, hno⟩
    · rw [edr] at hrun
      simp only [runL] at hrun
      have hO2 : Ok G last 6 M ((r.length - (i + 1)) + 1) s' := hO'.less (by omega)
      obtain ⟨kvs, hD, nd, hρ, hkk⟩ := hW'.di
      obtain ⟨b, b1, b2, b3⟩ := hO'.bits
      walk_at "rx"
      refine rd_dget ?_
      walk_at "rx"
      refine rd_gg hW'.ob sk_dry ?_
      walk_at "rx"
      cases sm with
      | say ex =>
        obtain ⟨a1, _, rfl, hT1, _, _, rfl, rfl, v1, _, rfl, h1, rfl⟩ := hv
        walk_at "rx"
        refine rd_dget ?_
        walk_at "rx"
        refine rd_gg hW'.ob sk_told ?_
        refine rd_tyL hW'.to ?_
        walk_at "rx"
        refine rd_dget ?_
        walk_at "rx"
        refine rd_gg hW'.ob sk_names ?_
        walk_at "rx"
        refine ⟨_, d, ex, kvs, b, rfl, gsm.1, by omega, gsm.2, h1, hD, nd, b1, b2, by rw [hρ]; exact b3, fun H2 g2 => ?_⟩
        rw [hρ]
        walk_at "rx"
        have hW2 := hW'.mono g2
        refine rd_app1 hW2.to (by rw [List.length_map]; exact hO'.told.1) fun H3 g3 k3 e3 => ?_
        walk_at "rx"
        exact ⟨_, _, rfl, (f'.trans g2.nil).trans (fr4 g3 (by simp)), (kp'.trans g2.kp0).trans k3, .inl ⟨{ s' with told := s'.told ++ [evE s'.ρ ex] }, hW2.say g3 k3 e3, hO2.stmt gsm (pl := pl ++ [(i : Int)]) rfl, hrun⟩⟩
      | set y ex =>
        obtain ⟨a1, _, rfl, hT1, _, _, rfl, rfl, _, _, rfl, rfl, v1, _, rfl, h1, rfl⟩ := hv
        walk_at "rx"
        refine rd_dput ?_
        walk_at "rx"
        refine rd_dget ?_
        walk_at "rx"
        refine rd_gg hW'.ob sk_names ?_
        walk_at "rx"
        refine ⟨_, d, ex, kvs, b, rfl, gsm.1, by omega, gsm.2.1, h1, hD, nd, b1, b2, by rw [hρ]; exact b3, fun H2 g2 => ?_⟩
        rw [hρ]
        have hW2 := hW'.mono g2
        obtain ⟨kvs2, hD2, nd2, hρ2, hkk2⟩ := hW2.di
        refine rd_dget ?_
        walk_at "rx"
        refine rd_gg hW2.ob sk_names ?_
        walk_at "rx"
        have kl2 : kvs2.length < sizeLine := by
          have := hW2.kl
          rw [← hkk2, List.length_map] at this
          rw [sizeLine_eq]; omega
        refine rd_gp hD2 kl2 ?_
        have hW3 := hW2.put (x := y) (v := evE s'.ρ ex) hD2 (hks y (set_at hsm (by simp [setS])))
        have f4 : Fr [S, d, t, e] H2 (upd H2 d (.dK (putK kvs2 (.inr y) (.int (evE s'.ρ ex))))) := (Fr.refl _ H2).put (by simp)
        walk_at "rx"
        exact ⟨_, _, rfl, (f'.trans g2.nil).trans f4, (kp'.trans g2.kp0).trans (hW2.kp f4), .inl ⟨_, hW3, hO2.stmt gsm (pl := pl ++ [(i : Int)]) rfl, hrun⟩⟩
      | lap g m z =>
        simp only [depS] at dsm
        have hvk := hv
        obtain ⟨a1, _, rfl, hT1, _, _, rfl, rfl, _, _, rfl, rfl, v1, _, rfl, h1, v2, _, rfl, h2, rfl⟩ := hv
        walk_at "rx"
        refine rd_newT (by simp) fun q H2 nq g2 eq2 => ?_
        have kp2 := kp'.trans g2.kp0
        refine rd_plusT (kp2.sq hP) (SqT.of eq2) (by rw [epv, sizeLine_eq]; simp only [List.length_map, List.length_cons, List.length_nil]; omega) fun q3 H3 g3 s3 => ?_
        walk_at "rx"
        have hW3 := (hW'.mono g2).mono g3
        have f5 := (f'.trans g2.nil).trans g3.nil
        have kp3 := kp2.trans g3.kp0
        have hpl3 : Rp K H3 (.tup ((pl ++ [(i : Int)]).map D.int)) (.ref q3) := by
          refine ⟨q3, _, rfl, s3, ?_⟩
          rw [epv]
          have := ints_rpl (K := K) (H := H3) (l := pl ++ [(i : Int)])
          rw [List.map_append (f := V.int)] at this
          have e0 : (0 : Int) + (i : Int) = (i : Int) := by omega
          rw [e0]
          exact this
        refine ⟨G, last, M, S, d, t, e, _, g, m, z, _, pl ++ [(i : Int)], s', ks, rfl, by omega, by omega, gsm, (hvk.mono g2.kp0).mono g3.kp0, hpl3, hW3, hks g (set_at hsm (by simp [setS])), fun x hx => hks x (set_at hsm (by simp [setS, hx])), hO2.less (by omega), by simp only [List.length_append, List.length_cons, List.length_nil]; omega,
          fun s2 e2 H4 f6 hW4 => ?_, fun e2 H4 f6 k6 hDy => ?_⟩
        · walk_at "rx"
          rw [e2, Option.bind_some] at hrun
          exact ⟨_, _, rfl, f5.trans f6, kp3.trans (hW3.kp f6), .inl ⟨s2, hW4, hO2.stmt gsm e2, hrun⟩⟩
        · walk_at "rx"
          rw [e2] at hrun
          exact ⟨_, _, rfl, f5.trans f6, kp3.trans k6, .inr ⟨hDy.up (by omega), hrun.symm⟩⟩
    · obtain ⟨n', m', ob⟩ := hDy.ob
      walk_at "rx"
      refine rd_dget ?_
      walk_at "rx"
      refine rd_gg ob sk_dry ?_
      walk_at "rx"
      exact qe hno H' f' kp' hDy
  · obtain ⟨o3, o4, rfl, f', kp', hcase⟩ := hσ
    have en : ((us.length : Nat) : Int).toNat = r.length := by omega
    rcases hcase with ⟨s', hW', hO', hrun⟩ | ⟨hDy, hno⟩
    · rw [en, List.drop_length] at hrun
      exact qs s' hrun.symm H' f' hW'
    · exact qe hno H' f' kp' hDy
theorem ok_walkD (T : Blt mg) (FW : Here K mg "_law_walk" s__law_walk ["_law_row_here", "_law_place", "_law_s"]) (FT : Here K mg "_law_turns" s__law_turns ["_law_one", "_law_place", "_law_s"]) (D__law_value : DefOk P w K mg base CX0 "_law_value" ["_law_part_here", "_law_names_here"] 4 (spReck K 4)) :
    ∀ n, DefOk P w K mg base CX0 "_law_walk" ["_law_row_here", "_law_place", "_law_s"] (2 * n + 6) (spWalkD K n)
  | 0 => (none_sp FW fun vs H Q E h => by obtain ⟨_, _, _, _, _, _, _, _, _, _, _, _, _, _, h, _⟩ := h; omega).mono (by omega)
  | n + 1 => ok_walkD1 T n (2 * n + 7) (by omega) FW D__law_value (ok_turnsD1 T n (2 * n + 6) (by omega) FT D__law_value (ok_walkD T FW FT D__law_value n))
end
end Lf
namespace Lf
open PySem PySem.Spec PyProof.Rows L2
/-! ### all names, as the law tells them -/
mutual
def allS : Sm → List Str
  | .say e => toldE e
  | .set x e => x :: toldE e
  | .lap g m r => g :: toldE m ++ allL r
def allL : List Sm → List Str
  | [] => []
  | s :: r => allS s ++ allL r
end
mutual
theorem allS_found : ∀ (s : Sm) (x : Str), x ∈ allS s ↔ x ∈ foundS s
  | .say e, x => by simp [allS, foundS]
  | .set y e, x => by simp [allS, foundS]
  | .lap g m r, x => by
    have h := allL_found r x
    simp only [allS, foundS, List.cons_append, List.mem_cons, List.mem_append, mem_srt, h]
theorem allL_found : ∀ (r : List Sm) (x : Str), x ∈ allL r ↔ x ∈ foundL r
  | [], x => by simp [allL, foundL]
  | s :: r, x => by
    have h1 := allS_found s x
    have h2 := allL_found r x
    simp only [allL, foundL, List.mem_append, h1, h2]
end
theorem allL_app : ∀ (a b : List Sm), allL (a ++ b) = allL a ++ allL b
  | [], b => rfl
  | s :: a, b => by simp [allL, allL_app a b]
mutual
theorem allS_len : ∀ {s : Sm}, okS s → (allS s).length ≤ 17 * cntS s
  | .say e, h => by have := told_lt (e := e) h; simp only [allS, cntS]; omega
  | .set x e, h => by have := told_lt (e := e) h; simp only [allS, cntS, List.length_cons]; omega
  | .lap g m r, h => by
    have a := told_lt (e := m) h.1
    have b := allL_len (r := r) h.2
    simp only [allS, cntS, List.length_append, List.length_cons]; omega
theorem allL_len : ∀ {r : List Sm}, okL r → (allL r).length ≤ 17 * cntL r
  | [], _ => Nat.le_refl _
  | s :: r, h => by
    have a := allS_len (s := s) h.1
    have b := allL_len (r := r) h.2
    simp only [allL, cntL, List.length_append]; omega
end
/-- one part of a statement: a name, an expression, a row -/
inductive Pt where
  | nm (x : Str) | ex (e : Ex) | rw (r : List Sm)
def encP : Pt → D
  | .nm x => .str x
  | .ex e => encE e
  | .rw r => encR r
def allP : Pt → List Str
  | .nm x => [x]
  | .ex e => toldE e
  | .rw r => allL r
def fitP (n : Nat) : Pt → Prop
  | .nm _ => 0 < n
  | .ex e => depE e < n ∧ depE e < 5
  | .rw r => 2 * depL r + 6 < n ∧ okL r ∧ cntL r ≤ 200
def spIn (K : PySem.W.Frag) (n : Nat) : Sp := fun vs H Q _ => ∃ v p, vs = [v] ∧ fitP n p ∧ Rp K H (encP p) v ∧ ∀ q H2, H q = none → Fr [] H H2 → H2 q = some (.lst ((allP p).map V.str)) → Q (.ref q) H2
def spAll (K : PySem.W.Frag) (n : Nat) : Sp := fun vs H Q _ => ∃ v r, vs = [v] ∧ 2 * depL r + 5 < n ∧ okL r ∧ cntL r ≤ 200 ∧ Rp K H (encR r) v ∧ ∀ q H2, H q = none → Fr [] H H2 → H2 q = some (.lst ((allL r).map V.str)) → Q (.ref q) H2
/-- the parts of a statement behind its word -/
def ptsS : Sm → List Pt
  | .say e => [.ex e]
  | .set x e => [.nm x, .ex e]
  | .lap g m r => [.nm g, .ex m, .rw r]
def allPs (l : List Pt) : List Str := l.flatMap allP
theorem allPs_S (s : Sm) : allPs (ptsS s) = allS s := by
  cases s <;> simp [allPs, ptsS, allP, allS]
theorem ptsS_fit {s : Sm} {n : Nat} (h : okS s) (hd : 2 * depS s + 4 < n) (hc : cntS s ≤ 200) : ∀ p ∈ ptsS s, fitP n p := by
  intro p hp
  cases s with
  | say e =>
    simp [ptsS] at hp; subst hp
    have h : depE e < 5 := h
    exact ⟨by omega, h⟩
  | set x e =>
    simp [ptsS] at hp
    have h : depE e < 5 := h
    rcases hp with rfl | rfl
    · show 0 < n; omega
    · exact ⟨by omega, h⟩
  | lap g m r =>
    simp [ptsS] at hp
    simp only [depS] at hd
    simp only [cntS] at hc
    have h1 := h.1
    rcases hp with rfl | rfl | rfl
    · show 0 < n; omega
    · exact ⟨by omega, h1⟩
    · exact ⟨by omega, h.2, by omega⟩
theorem encS_pts {K : PySem.W.Frag} {H : Hp} {s : Sm} {v : V} (h : Rp K H (encS s) v) : ∃ a w vs, v = .ref a ∧ SqT K H a (.str w :: vs) ∧ RpL K H ((ptsS s).map encP) vs := by
  cases s with
  | say e =>
    obtain ⟨a, _, rfl, hT, _, _, rfl, rfl, r⟩ := h
    exact ⟨a, _, _, rfl, hT, r⟩
  | set x e =>
    obtain ⟨a, _, rfl, hT, _, _, rfl, rfl, r⟩ := h
    exact ⟨a, _, _, rfl, hT, r⟩
  | lap g m z =>
    obtain ⟨a, _, rfl, hT, _, _, rfl, rfl, r⟩ := h
    exact ⟨a, _, _, rfl, hT, r⟩
theorem pts_at {K : PySem.W.Frag} {H : Hp} : ∀ {l : List Pt} {vs : List V} {i : Nat} {v : V}, RpL K H (l.map encP) vs → vs[i]? = some v → ∃ p, l[i]? = some p ∧ Rp K H (encP p) v
  | [], vs, i, v, h, e => by
    cases (show vs = [] from h)
    simp at e
  | p :: r, vs, i, v, h, e => by
    obtain ⟨u, q, rfl, h1, h2⟩ := h
    cases i with
    | zero =>
      simp at e; subst e
      exact ⟨p, rfl, h1⟩
    | succ i => exact pts_at (l := r) h2 (by simpa using e)
theorem cut_tail (v : V) (vs : List V) : cutV (v :: vs) (some 1) none = vs := by
  unfold cutV
  have e1 : HT.sIx (v :: vs).length 0 (some 1) = 1 := by
    have := HT.sIx_nat (v :: vs).length 0 1
    simpa using this
  rw [e1, HT.sIx_none]
  simp
section
variable {P : Program} {w : World} {K : PySem.W.Frag} {mg : Str → Option Value} {base : Heap}
abbrev s__law_in_part : Stmt := top 27
abbrev N__law_in_part : List Str := ["_law_part_here"]
theorem sc__law_in_part : FnScope N__law_in_part ["_law_part_here"] (defScope s__law_in_part) := ⟨rfl, rfl, rfl, by decide +kernel, rfl, by decide +kernel, by decide +kernel⟩
theorem ok_in1 (T : Blt mg) (n k : Nat) (F : Here K mg "_law_in_part" s__law_in_part ["_law_part_here"]) (D__law_in_part : DefOk P w K mg base CX0 "_law_in_part" ["_law_part_here"] k (spIn K n)) (D__law_all_names : DefOk P w K mg base CX0 "_law_all_names" ["_law_row_here"] k (spAll K n)) :
    DefOk P w K mg base CX0 "_law_in_part" ["_law_part_here"] (k + 1) (spIn K (n + 1)) := by
  refine F.ok sc__law_in_part (fun vs H Q E h => ?_) (fun f cdv A outer s H vs Q E hr h => ?_)
  · obtain ⟨_, _, rfl, _⟩ := h; rfl
  obtain ⟨v, p, rfl, hf, hv, q⟩ := h
  have hu64 := hr.units
  have hr__law_in_part := hr.mono (j := k) (by omega)
  have hr__law_all_names := hr.mono (j := k) (by omega)
  refine ⟨_, (pss_cons (ps_if (pt_val (pe_callB call_isiA (by rfl) T.n_isinstance (by decide +kernel) (pa_cons (pv 0) (pa_cons (pe_tyN (n := "str") (by rfl) T.n_str (by decide +kernel)) pa_nil))))
    (pss_one (ps_ret (pe_lst (pa_cons (pv 0) pa_nil))))
    pss_nil)
    (pss_cons (ps_if (pt_cmpR (op_eqA hu64) (pe_ix ix_seq (pv 0) pe_int (fun _ _ => rfl)) pe_str (nomark _))
    (pss_one (ps_ret (pe_callD D__law_all_names hr__law_all_names pass0 (pa_cons (pv 0) pa_nil))))
    pss_nil)
    (pss_cons (ps_if (pt_cmpR (op_eqA hu64) (pe_ix ix_seq (pv 0) pe_int (fun _ _ => rfl)) pe_str (nomark _))
    (pss_one (ps_ret (pe_lst pa_nil)))
    pss_nil)
    (pss_cons (ps_if (pt_cmpR (op_eqA hu64) (pe_ix ix_seq (pv 0) pe_int (fun _ _ => rfl)) pe_str (nomark _))
    (pss_one (ps_ret (pe_lst (pa_cons (pe_ix ix_seq (pv 0) pe_int (fun _ _ => rfl)) pa_nil))))
    pss_nil)
    (pss_one (ps_ret (pe_op op_plus (pe_callD D__law_in_part hr__law_in_part pass0 (pa_cons (pe_ix ix_seq (pv 0) pe_int (fun _ _ => rfl)) pa_nil)) (pe_callD D__law_in_part hr__law_in_part pass0 (pa_cons (pe_ix ix_seq (pv 0) pe_int (fun _ _ => rfl)) pa_nil))))))))), ?_⟩
  cases p with
  | nm x =>
    cases (show v = .str x from hv)
    walk_at "rx"
    refine rd_isi (.base (.str _)) (k := true) (by decide +kernel) ?_
    walk_at "rx"
    refine rd_newL (by simp) fun l H2 nl f2 el => ?_
    walk_at "rx"
    exact q _ _ nl f2 el
  | ex e =>
    have hf1 : depE e < n + 1 := hf.1
    cases e with
    | num i =>
      obtain ⟨a, _, rfl, hT, _, _, rfl, rfl, _, _, rfl, rfl, rfl⟩ := hv
      walk_at "rx"
      refine rd_isi (ty_tup hT) (k := false) (by decide +kernel) ?_
      walk_at "rx"
      refine rd_newL (by simp) fun p H2 f1 f2 e => ?_
      walk_at "rx"
      exact q _ _ f1 f2 e
    | name x =>
      obtain ⟨a, _, rfl, hT, _, _, rfl, rfl, _, _, rfl, rfl, rfl⟩ := hv
      walk_at "rx"
      refine rd_isi (ty_tup hT) (k := false) (by decide +kernel) ?_
      walk_at "rx"
      refine rd_newL (by simp) fun p H2 f1 f2 e => ?_
      walk_at "rx"
      exact q _ _ f1 f2 e
    | add b c =>
      have b1 := told_siz b; have b2 := toldE_le b
      have c1 := told_siz c; have c2 := toldE_le c
      have hf5 := hf.2
      simp only [depE] at hf1 hf5
      have p1 : 2 ^ depE b ≤ 2 ^ 12 := Nat.pow_le_pow_right (by decide) (by omega)
      have p2 : 2 ^ depE c ≤ 2 ^ 12 := Nat.pow_le_pow_right (by decide) (by omega)
      obtain ⟨a, _, rfl, hT, _, _, rfl, rfl, vb, _, rfl, hb, vc, _, rfl, hc, rfl⟩ := hv
      walk_at "rx"
      refine rd_isi (ty_tup hT) (k := false) (by decide +kernel) ?_
      walk_at "rx"
      refine ⟨_, .ex b, rfl, ⟨by omega, by omega⟩, hb, fun p H2 f1 f2 e => ?_⟩
      walk_at "rx"
      refine ⟨_, .ex c, rfl, ⟨by omega, by omega⟩, hc.mono f2.kp0, fun p2 H3 g1 g2 g3 => ?_⟩
      refine rd_plusL (g2.at e) g3 (by rw [sizeLine_eq]; simp only [List.length_map, allP]; omega) fun p3 H4 k1 k2 k3 => ?_
      walk_at "rx"
      exact q _ _ (f2.free (g2.free k1)) ((f2.trans g2).trans k2) (by rw [k3]; simp [toldE, allP])
    | mul b c =>
      have b1 := told_siz b; have b2 := toldE_le b
      have c1 := told_siz c; have c2 := toldE_le c
      have hf5 := hf.2
      simp only [depE] at hf1 hf5
      have p1 : 2 ^ depE b ≤ 2 ^ 12 := Nat.pow_le_pow_right (by decide) (by omega)
      have p2 : 2 ^ depE c ≤ 2 ^ 12 := Nat.pow_le_pow_right (by decide) (by omega)
      obtain ⟨a, _, rfl, hT, _, _, rfl, rfl, vb, _, rfl, hb, vc, _, rfl, hc, rfl⟩ := hv
      walk_at "rx"
      refine rd_isi (ty_tup hT) (k := false) (by decide +kernel) ?_
      walk_at "rx"
      refine ⟨_, .ex b, rfl, ⟨by omega, by omega⟩, hb, fun p H2 f1 f2 e => ?_⟩
      walk_at "rx"
      refine ⟨_, .ex c, rfl, ⟨by omega, by omega⟩, hc.mono f2.kp0, fun p2 H3 g1 g2 g3 => ?_⟩
      refine rd_plusL (g2.at e) g3 (by rw [sizeLine_eq]; simp only [List.length_map, allP]; omega) fun p3 H4 k1 k2 k3 => ?_
      walk_at "rx"
      exact q _ _ (f2.free (g2.free k1)) ((f2.trans g2).trans k2) (by rw [k3]; simp [toldE, allP])
  | rw r =>
    have hvr := hv
    obtain ⟨a, _, rfl, hT, _, _, rfl, rfl, _, _, rfl, ⟨t, us, rfl, hU, hL⟩, rfl⟩ := hv
    walk_at "rx"
    refine rd_isi (ty_tup hT) (k := false) (by decide +kernel) ?_
    walk_at "rx"
    refine ⟨_, r, rfl, by have := hf.1; omega, hf.2.1, hf.2.2, hvr, fun p H2 f1 f2 e => ?_⟩
    walk_at "rx"
    exact q _ _ f1 f2 e
abbrev s__law_all_names : Stmt := top 26
abbrev N__law_all_names : List Str := ["_law_row_here", "_law_found", "_law_one", "_law_part_here"]
theorem sc__law_all_names : FnScope N__law_all_names ["_law_row_here"] (defScope s__law_all_names) := ⟨rfl, rfl, rfl, by decide +kernel, rfl, by decide +kernel, by decide +kernel⟩
theorem ok_all1 (T : Blt mg) (n k : Nat) (F : Here K mg "_law_all_names" s__law_all_names ["_law_row_here"]) (D__law_in_part : DefOk P w K mg base CX0 "_law_in_part" ["_law_part_here"] k (spIn K n)) :
    DefOk P w K mg base CX0 "_law_all_names" ["_law_row_here"] (k + 1) (spAll K (n + 1)) := by
  refine F.ok sc__law_all_names (fun vs H Q E h => ?_) (fun f cdv A outer s H vs Q E hr h => ?_)
  · obtain ⟨_, _, rfl, _⟩ := h; rfl
  obtain ⟨v, r, rfl, hd, ho, hc, hv, q⟩ := h
  have hu64 := hr.units
  have hr__law_in_part := hr.mono (j := k) (by omega)
  refine ⟨_, (pss_cons (ps_set (i := 1) sc__law_all_names.nd rfl (Or.inl rfl) (pe_lst pa_nil))
    (pss_cons (ps_for PassesOwn.never rfl (pi_tup (pe_ix ix_seq (pv 0) pe_int (fun _ _ => rfl))) (pg_name (i := 2) sc__law_all_names.nd rfl (Or.inl rfl))
    (pss_one (ps_for PassesOwn.never rfl (pi_tup (pe_slice sl_any (pv 2) (po_some pe_int) po_none)) (pg_name (i := 3) sc__law_all_names.nd rfl (Or.inl rfl))
    (pss_one (ps_set (i := 1) sc__law_all_names.nd rfl (Or.inl rfl) (pe_op op_plus (pv 1) (pe_callD D__law_in_part hr__law_in_part pass0 (pa_cons (pv 3) pa_nil))))))))
    (pss_one (ps_ret (pv 1))))), ?_⟩
  obtain ⟨a, _, rfl, hT, _, _, rfl, rfl, _, _, rfl, ⟨t, us, rfl, hU, hL⟩, rfl⟩ := hv
  have al := allL_len ho
  walk_at "rs"
  with_reducible refine rd_seq ?_
  walk_at "rs"
  refine rd_newL (by simp) fun p0 H0 n0 f0 e0 => ?_
  walk_at "rs"
  with_reducible refine rd_seqc fun N hN => ?_
  walk_at "rs"
  refine rd_forT us (fun i σ H' => ∃ p u2 u3, σ = [some (.ref a), some (.ref p), u2, u3] ∧ Fr [] H H' ∧ H p = none ∧ H' p = some (.lst ((allL (r.take i)).map V.str))) ⟨p0, none, none, rfl, f0, n0, e0⟩
    (fun i σ H' _ ⟨p, _, _, _, f, _, _⟩ => f.tup0 hU) (fun i x σ H' hx ⟨p, u2, u3, hσ, f, np, ep⟩ => ?_) (fun σ H' ⟨p, u2, u3, hσ, f, np, ep⟩ => hN _ _ ?_)
  · subst hσ
    obtain ⟨sm, hs, hv⟩ := encL_at hL hx
    have hv := hv.mono f.kp0
    have tk : allL (r.take (i + 1)) = allL (r.take i) ++ allS sm := by
      rw [List.take_add_one, hs, allL_app]; simp [allL]
    have ble : (allL (r.take (i + 1))).length ≤ (allL r).length := by
      have e : allL r = allL (r.take (i + 1)) ++ allL (r.drop (i + 1)) := by rw [← allL_app, List.take_append_drop]
      rw [e, List.length_append]; omega
    have os := okL_at ho hs
    have cs := cnt_at hs
    have ds := dep_at hs
    obtain ⟨b, wd, vs, rfl, hB, hVs⟩ := encS_pts hv
    walk_at "rs"
    refine rd_sl ?_
    walk_at "rs"
    refine rd_part ?_
    walk_at "rs"
    refine rd_parti ?_
    refine rd_nopart ?_
    refine rd_slT hB fun c H1 f1 hC => ?_
    rw [cut_tail] at hC
    walk_at "rs"
    have g1 := f.trans f1
    refine rd_forT vs (fun j σ H'' => ∃ p2 u3, σ = [some (.ref a), some (.ref p2), some (.ref b), u3] ∧ Fr [] H1 H'' ∧ H p2 = none ∧ H'' p2 = some (.lst ((allL (r.take i) ++ allPs ((ptsS sm).take j)).map V.str))) ⟨p, u3, rfl, Fr.refl _ _, np, by simpa [allPs] using f1.at ep⟩
      (fun j σ H'' _ ⟨_, _, _, f2, _, _⟩ => f2.tup0 hC) (fun j y σ H'' hy ⟨p2, u3, hσ, f2, np2, ep2⟩ => ?_) (fun σ H'' ⟨p2, u3, hσ, f2, np2, ep2⟩ => ?_)
    · subst hσ
      obtain ⟨pt, hp, hpv⟩ := pts_at (hVs.mono f1.kp0) hy
      have hpv := hpv.mono f2.kp0
      have fit := ptsS_fit (n := n) os (by omega) (by omega) pt (List.mem_of_getElem? hp)
      have tk2 : allPs ((ptsS sm).take (j + 1)) = allPs ((ptsS sm).take j) ++ allP pt := by
        rw [List.take_add_one, hp]; simp [allPs]
      have ble2 : (allPs ((ptsS sm).take (j + 1))).length ≤ (allS sm).length := by
        rw [← allPs_S]
        have e : allPs (ptsS sm) = allPs ((ptsS sm).take (j + 1)) ++ allPs ((ptsS sm).drop (j + 1)) := by
          unfold allPs
          rw [← List.flatMap_append, List.take_append_drop]
        rw [e, List.length_append]; omega
      rw [tk2, List.length_append] at ble2
      rw [tk, List.length_append] at ble
      walk_at "rs"
      refine ⟨_, pt, rfl, fit, hpv, fun p3 H3 n3 f3 e3 => ?_⟩
      refine rd_plusL (f3.at ep2) e3 (by rw [sizeLine_eq]; simp only [List.length_map, List.length_append]; omega) fun p4 H4 n4 f4 e4 => ?_
      walk_at "rs"
      refine ⟨p4, _, rfl, (f2.trans f3).trans f4, g1.free (f2.free (f3.free n4)), ?_⟩
      rw [e4, tk2]; simp
    · subst hσ
      have lv : vs.length = (ptsS sm).length := by have := RpL.length hVs; rw [this, List.length_map]
      rw [lv, List.take_length, allPs_S] at ep2
      exact ⟨p2, _, _, rfl, g1.trans f2, np2, by rw [ep2, tk]⟩
  · subst hσ
    have ul : us.length = r.length := by have := RpL.length hL; rw [this, encL_len]
    rw [ul, List.take_length] at ep
    walk_at "rs"
    exact q _ _ np f ep
theorem ok_ins (T : Blt mg) (FI : Here K mg "_law_in_part" s__law_in_part ["_law_part_here"]) (FA : Here K mg "_law_all_names" s__law_all_names ["_law_row_here"]) :
    ∀ n, DefOk P w K mg base CX0 "_law_in_part" ["_law_part_here"] n (spIn K n) ∧ DefOk P w K mg base CX0 "_law_all_names" ["_law_row_here"] n (spAll K n)
  | 0 => ⟨none_sp FI fun vs H Q E h => by
      obtain ⟨_, p, _, h, _⟩ := h
      cases p with
      | nm x => exact Nat.lt_irrefl _ h
      | ex e => exact Nat.not_lt_zero _ h.1
      | rw r => exact Nat.not_lt_zero _ h.1, none_sp FA fun vs H Q E h => by obtain ⟨_, _, _, h, _⟩ := h; omega⟩
  | n + 1 => ⟨ok_in1 T n n FI (ok_ins T FI FA n).1 (ok_ins T FI FA n).2, ok_all1 T n n FA (ok_ins T FI FA n).1⟩
end
end Lf
namespace Lf
open PySem PySem.Spec PyProof.Rows L2
theorem rd_disp {σ : L2.St} {H : Hp} {Q : VK} {trs : List (TE × TE)} (q : ∀ p, H p = none → tPairs trs σ (upd H p (.dK [])) fun ps H2 => H2 p = some (.dK []) ∧ ∃ kvs : List (Key × V), ps = kvs.map (fun kv => (kV kv.1, kv.2)) ∧ kvs.length ≤ 15 ∧ Q (.ref p) (upd H2 p (.dK (mergeK [] kvs)))) : tDisp trs σ H Q := q
theorem rd_pcons {σ : L2.St} {H : Hp} {R : List (V × V) → Hp → Prop} {tk tv : TE} {r : List (TE × TE)} (q : tk σ H fun x H1 => tv σ H1 fun y H2 => tPairs r σ H2 fun ps H3 => R ((x, y) :: ps) H3) : tPairs ((tk, tv) :: r) σ H R := q
theorem rd_pnil {σ : L2.St} {H : Hp} {R : List (V × V) → Hp → Prop} (q : R [] H) : tPairs [] σ H R := q
theorem pss_when {X : Cx} {b : List Stmt} {c : Prop} {t : TS} (h : c → PSs X b t) : PSs X b (fun D σ H => c ∧ t D σ H) := ⟨fun pins s σ H D I z => (h z.1).run pins s σ H D I z.2⟩
theorem rd_callS {sp : Sp} {E : L2.St → XK} {tr : TA} {σ : L2.St} {H : Hp} {Q : VK} (q : tr σ H fun vs H1 => sp vs H1 Q (E σ)) : tCallS sp E tr σ H Q := q
def spRanD (K : PySem.W.Frag) : Sp := fun vs H Q _ => ∃ (G : Str → Prop) (last : Str) (M : Nat) (v : V) (r : List Sm) (nd : Addr) (kvs0 : List (L2.Key × V)), vs = [v, .ref nd, .int ((M : Nat) : Int)] ∧ depL r < 4 ∧ okL r ∧ cntL r ≤ 200 ∧ gdL G last 6 r ∧ Rp K H (encR r) v ∧ H nd = some (.dK kvs0) ∧ NmD kvs0 ∧ kvs0.length ≤ 10000 ∧
  (∃ n, Bd G last n (nmOf kvs0) ∧ n + r.length + 6 * M ≤ 33000) ∧
  (∀ s2, runL M r [] 0 (at0 (nmOf kvs0)) = some s2 → ∀ S d t e H2, Fr [] H H2 → H S = none → H d = none → H t = none → H e = none → DAt K S d t e M s2 ((addAll kvs0 (allL r)).map Prod.fst) H2 → Q (.ref S) H2) ∧
  (runL M r [] 0 (at0 (nmOf kvs0)) = none → ∀ S d t e H2, Fr [] H H2 → H S = none → DDry S d t e 50000 H2 → Q (.ref S) H2)
def spProg (K : PySem.W.Frag) (n : Nat) : Sp := fun vs H Q _ => ∃ (h c l : Addr) (xs : List Str) (odd : Bool), vs = [.ref h, .ref l, .bl odd] ∧ Nm7 xs ∧ HAt H h c n ∧ H l = some (.lst (xs.map V.str)) ∧ l ≠ h ∧ l ≠ c ∧
  ∀ v r H2, Fr [h, c] H H2 → HAt H2 h c n → gdL (Gs xs) (lastN xs) 6 r → r.length ≤ 8 → depL r ≤ 3 → cntL r ≤ 80 → Rp K H2 (encR r) v → Q v H2
def spIsDry (K : PySem.W.Frag) : Sp := fun vs H Q _ => ∃ (G : Str → Prop) (last : Str) (M : Nat) (v : V) (r : List Sm) (nd : Addr) (kvs0 : List (L2.Key × V)), vs = [v, .ref nd, .int ((M : Nat) : Int)] ∧ depL r < 4 ∧ okL r ∧ cntL r ≤ 200 ∧ gdL G last 6 r ∧ Rp K H (encR r) v ∧ H nd = some (.dK kvs0) ∧ NmD kvs0 ∧ kvs0.length ≤ 10000 ∧
  (∃ n, Bd G last n (nmOf kvs0) ∧ n + r.length + 6 * M ≤ 33000) ∧ runL M r [] 0 (at0 (nmOf kvs0)) = none ∧ ∀ H2, Fr [] H H2 → Q (.bl true) H2
/-- the errors, as the top has written them -/
structure ErrsTxt (K : PySem.W.Frag) (mg : Str → Option Value) (DC LC BF NF UN : Addr) : Prop where
  lg : mg "LapError" = some (.ref LC)
  ex : PySem.W.exmOne K (.ref DC) (.ref LC) = some true
  ec : ExcC K DC
  gb : mg "BadForm" = some (.ref BF)
  gn : mg "NeedntFall" = some (.ref NF)
  gu : mg "Uneven" = some (.ref UN)
  gd : mg "Dry" = some (.ref DC)
  kb : PySem.W.kitOne K (.ref DC) (.ref BF) = some false
  kn : PySem.W.kitOne K (.ref DC) (.ref NF) = some false
  ku : PySem.W.kitOne K (.ref DC) (.ref UN) = some false
  kd : PySem.W.kitOne K (.ref DC) (.ref DC) = some true
  kv : PySem.W.kitOne K (.ref DC) (.type "ValueError") = some true
  zv : mg "ValueError" = none
theorem rpl_app {K : PySem.W.Frag} {H : Hp} : ∀ {ds es : List D} {vs ws : List V}, RpL K H ds vs → RpL K H es ws → RpL K H (ds ++ es) (vs ++ ws)
  | [], _, vs, _, h, g => by
    cases (show vs = [] from h)
    exact g
  | d :: ds, _, vs, _, h, g => by
    obtain ⟨v, r, rfl, h1, h2⟩ := h
    exact ⟨v, _, rfl, h1, rpl_app h2 g⟩
section
variable {P : Program} {w : World} {K : PySem.W.Frag} {mg : Str → Option Value} {base : Heap} {DC LC BF NF UN : Addr}
abbrev s__law_program : Stmt := top 21
abbrev N__law_program : List Str := ["_law_h", "_law_names_here", "_law_odd", "_law_one"]
theorem sc__law_program : FnScope N__law_program ["_law_h", "_law_names_here", "_law_odd"] (defScope s__law_program) := ⟨rfl, rfl, rfl, by decide +kernel, rfl, by decide +kernel, by decide +kernel⟩
theorem ok_prog (T : Blt mg) (n : Nat) (F : Here K mg "_law_program" s__law_program ["_law_h", "_law_names_here", "_law_odd"]) (D__law_row : DefOk P w K mg base CX0 "_law_row" ["_law_h", "_law_names_here", "_law_depth", "_law_odd"] 12 (spRowD K n 3)) :
    DefOk P w K mg base CX0 "_law_program" ["_law_h", "_law_names_here", "_law_odd"] 13 (spProg K n) := by
  refine F.ok sc__law_program (fun vs H Q E h => ?_) (fun f cdv A outer s H vs Q E hr h => ?_)
  · obtain ⟨_, _, _, _, _, rfl, _⟩ := h; rfl
  obtain ⟨h, c, l, xs, odd, rfl, nm, hat, hl, nlh, nlc, q⟩ := h
  have hr__law_row := hr.mono (j := 12) (by omega)
  refine ⟨_, (pss_cons (ps_set (i := 3) sc__law_program.nd rfl (Or.inl rfl) (pe_callD D__law_row hr__law_row pass0 (pa_cons (pv 0) (pa_cons (pv 1) (pa_cons pe_int (pa_cons (pv 2) pa_nil))))))
    (pss_one (ps_ret (pe_tup (pa_cons pe_str (pa_cons (pe_op op_plus (pe_ix ix_seq (pv 3) pe_int (fun _ _ => rfl)) (pe_ix ix_seq (pe_callD D__law_row hr__law_row pass0 (pa_cons (pv 0) (pa_cons (pv 1) (pa_cons pe_int (pa_cons (pv 2) pa_nil))))) pe_int (fun _ _ => rfl))) pa_nil)))))), ?_⟩
  walk_at "rh"
  refine ⟨h, c, l, xs, 0, odd, rfl, nm, hat, hl, nlh, nlc, by omega, by omega, fun v1 r1 H1 f1 hat1 g1 len1 _ dep1 cnt1 rp1 => ?_⟩
  obtain ⟨ta, _, rfl, hTa, _, _, rfl, rfl, _, _, rfl, ⟨tb, vs1, rfl, hTb, hv1⟩, rfl⟩ := rp1
  have lv1 : vs1.length = r1.length := by have := RpL.length hv1; rw [this, encL_len]
  walk_at "rh"
  refine ⟨h, c, l, xs, 0, odd, rfl, nm, hat1, f1.at2 hl nlh nlc, nlh, nlc, by omega, by omega, fun v2 r2 H2 f2 hat2 g2 len2 _ dep2 cnt2 rp2 => ?_⟩
  obtain ⟨tc, _, rfl, hTc, _, _, rfl, rfl, _, _, rfl, ⟨td, vs2, rfl, hTd, hv2⟩, rfl⟩ := rp2
  have lv2 : vs2.length = r2.length := by have := RpL.length hv2; rw [this, encL_len]
  have k2 := hat1.kp f2
  walk_at "rh"
  refine rd_plusT (k2.sq hTb) hTd (by rw [sizeLine_eq]; omega) fun t6 H6 f6 e6 => ?_
  walk_at "rh"
  refine rd_newT (by simp) fun t7 H7 nt7 f7 e7 => ?_
  walk_at "rh"
  have z : Rp K H6 (.tup (encL (r1 ++ r2))) (.ref t6) := ⟨t6, _, rfl, e6, by rw [encL_app]; exact (rpl_app (hv1.mono k2) hv2).mono f6.kp0⟩
  refine q _ (r1 ++ r2) H7 (((f1.trans f2).trans f6.nil).trans f7.nil) ((hat2.mono f6).mono f7) (gd_app g1 g2) (by rw [List.length_append]; omega) (by rw [depL_app]; omega) (by rw [cntL_app]; omega) (Rp2 e7 (z.mono f7.kp0))
abbrev s__law_ran : Stmt := top 28
abbrev N__law_ran : List Str := ["_law_program_here", "_law_names_here", "_law_most", "_law_s", "_law_name"]
theorem sc__law_ran : FnScope N__law_ran ["_law_program_here", "_law_names_here", "_law_most"] (defScope s__law_ran) := ⟨rfl, rfl, rfl, by decide +kernel, rfl, by decide +kernel, by decide +kernel⟩
theorem ok_ranD (T : Blt mg) (F : Here K mg "_law_ran" s__law_ran ["_law_program_here", "_law_names_here", "_law_most"]) (D__law_all_names : DefOk P w K mg base CX0 "_law_all_names" ["_law_row_here"] 12 (spAll K 12)) (D__law_walk : DefOk P w K mg base CX0 "_law_walk" ["_law_row_here", "_law_place", "_law_s"] 14 (spWalkD K 4)) :
    DefOk P w K mg base CX0 "_law_ran" ["_law_program_here", "_law_names_here", "_law_most"] 15 (spRanD K) := by
  refine F.ok sc__law_ran (fun vs H Q E h => ?_) (fun f cdv A outer s H vs Q E hr h => ?_)
  · obtain ⟨_, _, _, _, _, _, _, rfl, _⟩ := h; rfl
  obtain ⟨G, last, M, v, r, nd, kvs0, rfl, hd, ho, hc, hg, hv, hnd, hnm, hkl, ⟨n0, hB, hn0⟩, qs, qe⟩ := h
  have hu64 := hr.units
  have hu : (cxOf CX0 P w K mg base N__law_ran "_law_ran" (defScope s__law_ran) f cdv A outer s H E).nox.A.units + 1 < cLine := by
    have := hr.units
    show (A.deeper _).units + 1 < cLine
    omega
  have hr__law_all_names := hr.mono (j := 12) (by omega)
  have hr__law_walk := hr.mono (j := 14) (by omega)
  refine ⟨_, (pss_cons (ps_set (i := 3) sc__law_ran.nd rfl (Or.inl rfl) (pe_disp (pps_cons pe_str (pe_callTy call_dictD (by rfl) T.n_dict (by decide +kernel) (pa_cons (pv 1) pa_nil)) (pps_cons pe_str (pe_lst pa_nil) (pps_cons pe_str pe_int (pps_cons pe_str (pv 2) (pps_cons pe_str (pe_lst pa_nil) (pps_cons pe_str pe_bl pps_nil)))))) (by rfl) (by rfl) (fun z => by cases z) (by decide)))
    (pss_cons (ps_for PassesOwn.never rfl (pi_list (pe_callD D__law_all_names hr__law_all_names pass0 (pa_cons (pv 0) pa_nil))) (pg_name (i := 4) sc__law_ran.nd rfl (Or.inl rfl))
    (pss_one (ps_if (pt_cmp (pc_dnotin hu (pv 4) (pe_dget hu (pv 3) pe_str (fun _ _ => rfl))))
    (pss_one (ps_dput hu (pe_dget hu (pv 3) pe_str (fun _ _ => rfl)) (pv 4) pe_int rfl))
    pss_nil)))
    (pss_cons (ps_expr (pe_callD D__law_walk hr__law_walk pass0 (pa_cons (pv 0) (pa_cons (pe_tup pa_nil) (pa_cons (pv 3) pa_nil)))))
    (pss_one (ps_ret (pv 3)))))), ?_⟩
  walk_at "rs"
  with_reducible refine rd_seq ?_
  walk_at "rs"
  refine rd_disp fun S nS => ?_
  have f0 : Fr [] H (upd H S (.dK [])) := (Fr.refl [] H).new nS
  have S0 : upd H S (.dK []) S = some (.dK []) := upd_same
  generalize upd H S (.dK []) = H0 at f0 S0 ⊢
  refine rd_pcons ?_
  walk_at "rs"
  refine ⟨nd, kvs0, rfl, .inl (f0.at hnd), fun d hd0 => ?_⟩
  have nSd : S ≠ d := ne_of_none S0 hd0
  have f1 : Fr [] H0 (upd H0 d (.dK kvs0)) := (Fr.refl [] H0).new hd0
  have d1 : upd H0 d (.dK kvs0) d = some (.dK kvs0) := upd_same
  generalize upd H0 d (.dK kvs0) = H1 at f1 d1 ⊢
  refine rd_pcons ?_
  walk_at "rs"
  refine rd_newL (by simp) fun t H2 nt f2 e2 => ?_
  refine rd_pcons ?_
  walk_at "rs"
  refine rd_pcons ?_
  walk_at "rs"
  refine rd_pcons ?_
  walk_at "rs"
  refine rd_newL (by simp) fun e H3 ne f3 e3 => ?_
  refine rd_pcons ?_
  walk_at "rs"
  refine rd_pnil ?_
  have f03 := (f1.trans f2).trans f3
  refine ⟨f03.at S0, [(.inr "names", .ref d), (.inr "told", .ref t), (.inr "turns", .int 0), (.inr "most", .int (M : Int)), (.inr "entries", .ref e), (.inr "dry", .bl false)], rfl, by show 6 ≤ 15; decide, ?_⟩
  rw [sk_new rfl]
  have tS : S ≠ t := ne_of_none ((f1).at S0) nt
  have eS : S ≠ e := ne_of_none ((f1.trans f2).at S0) ne
  have nte : t ≠ e := ne_of_none e2 ne
  have S4 : upd H3 S (.dK (sk d t e 0 M false)) S = some (.dK (sk d t e 0 M false)) := upd_same
  have d4 : upd H3 S (.dK (sk d t e 0 M false)) d = some (.dK kvs0) := by rw [upd_ne nSd.symm]; exact (f2.trans f3).at d1
  have t4 : upd H3 S (.dK (sk d t e 0 M false)) t = some (.lst []) := by rw [upd_ne tS.symm]; exact f3.at e2
  have e4 : upd H3 S (.dK (sk d t e 0 M false)) e = some (.lst []) := by rw [upd_ne eS.symm]; exact e3
  have f4 : Fr [] H (upd H3 S (.dK (sk d t e 0 M false))) := (f0.trans f03).mut nS
  generalize upd H3 S (.dK (sk d t e 0 M false)) = H4 at S4 d4 t4 e4 f4 ⊢
  have hdH : H d = none := f0.free hd0
  have htH : H t = none := (f0.trans f1).free nt
  have heH : H e = none := ((f0.trans f1).trans f2).free ne
  walk_at "rs"
  with_reducible refine rd_seq ?_
  walk_at "rs"
  refine ⟨_, r, rfl, by omega, ho, hc, hv.mono f4.kp0, fun l H5 nl f5 el => ?_⟩
  walk_at "rs"
  obtain ⟨a1, a2, a3, a4, a5⟩ := addAll_spec (allL r) hnm
  have fl := allL_len ho
  have cnt : ∀ i, (addAll kvs0 ((allL r).take i)).length ≤ 20000 ∧ NmD (addAll kvs0 ((allL r).take i)) := fun i => by
    obtain ⟨b1, b2, b3, b4, b5⟩ := addAll_spec ((allL r).take i) hnm
    refine ⟨?_, b1⟩
    have : ((allL r).take i).length ≤ (allL r).length := by rw [List.length_take]; omega
    omega
  refine rd_forL ((allL r).map V.str) (fun i σ H' => ∃ u, σ = [some v, some (.ref nd), some (.int ((M : Nat) : Int)), some (.ref S), u] ∧ Fr [d] H5 H' ∧ H' d = some (.dK (addAll kvs0 ((allL r).take i)))) ⟨none, rfl, Fr.refl _ _, f5.at d4⟩
    (fun i σ H' _ ⟨_, _, f', d'⟩ => SqL.of (f'.at el (by simpa using ne_of el (f5.at d4) (by intro z; cases z)))) (fun i x σ H' hx hσ => ?_) (fun σ H' hσ => ?_)
  · obtain ⟨u, rfl, f', d'⟩ := hσ
    rw [List.getElem?_map, Option.map_eq_some_iff] at hx
    obtain ⟨y, hy, rfl⟩ := hx
    have ty : (allL r).take (i + 1) = (allL r).take i ++ [y] := by rw [List.take_add_one, hy]; rfl
    have ey : addAll kvs0 ((allL r).take (i + 1)) = addN (addAll kvs0 ((allL r).take i)) y := by rw [ty]; unfold addAll; rw [List.foldl_append]; rfl
    have S' : H' S = some (.dK (sk d t e 0 M false)) := f'.at (f5.at S4) (by simpa using nSd)
    walk_at "rs"
    refine rd_dnin ?_
    walk_at "rs"
    refine rd_dget ?_
    walk_at "rs"
    refine rd_gg S' sk_names ?_
    refine rd_gn d' ?_
    by_cases c : (valV (addAll kvs0 ((allL r).take i)) (.inr y)).isSome = true
    · refine ⟨_, rfl, ?_⟩
      refine ifF (by rw [c]; rfl) ?_
      walk_at "rs"
      refine ⟨_, rfl, f', ?_⟩
      rw [ey]; unfold addN; rw [if_pos c]; exact d'
    · refine ⟨_, rfl, ?_⟩
      refine ifT (by simp only [Bool.not_eq_true] at c; rw [c]; rfl) ?_
      walk_at "rs"
      refine rd_dput ?_
      walk_at "rs"
      refine rd_dget ?_
      walk_at "rs"
      refine rd_gg S' sk_names ?_
      walk_at "rs"
      refine rd_gp d' (by have := (cnt i).1; rw [sizeLine_eq]; omega) ?_
      walk_at "rs"
      refine ⟨_, rfl, f'.put (by simp), ?_⟩
      rw [upd_same, ey]; unfold addN; rw [if_neg c]
  · obtain ⟨u, rfl, f', d'⟩ := hσ
    rw [List.length_map, List.take_length] at d'
    have fH : Fr [] H H' := ((f4.trans f5).nil (M := [d]) |>.trans f').drop hdH
    have S' : H' S = some (.dK (sk d t e 0 M false)) := f'.at (f5.at S4) (by simpa using nSd)
    have t' : H' t = some (.lst []) := f'.at (f5.at t4) (by simpa using ne_of (f5.at t4) (f5.at d4) (by intro z; cases z))
    have e' : H' e = some (.lst []) := f'.at (f5.at e4) (by simpa using ne_of (f5.at e4) (f5.at d4) (by intro z; cases z))
    walk_at "rs"
    with_reducible refine rd_seq ?_
    walk_at "rs"
    refine rd_newT (by simp) fun z H6 nz f6 ez => ?_
    walk_at "rs"
    have hW : DAt K S d t e M (at0 (nmOf kvs0)) ((addAll kvs0 (allL r)).map Prod.fst) H6 := ⟨f6.at S', ⟨_, f6.at d', a1, a2, rfl⟩, f6.at t', ⟨[], f6.at e', rfl⟩, nte, nSd, by rw [List.length_map]; omega⟩
    have fH6 := fH.trans f6
    have free4 : ∀ a ∈ [S, d, t, e], H a = none := by
      simp only [List.mem_cons, List.not_mem_nil, or_false, forall_eq_or_imp, forall_eq]
      exact ⟨nS, hdH, htH, heH⟩
    refine ⟨G, last, M, S, d, t, e, v, r, _, [], at0 (nmOf kvs0), _, rfl, hd, by omega, hg, hv.mono fH6.kp0, ⟨z, _, rfl, SqT.of ez, rfl⟩, hW, fun x hx => a4 x ((allL_found r x).mpr (setL_found r x hx)), ⟨Nat.zero_le _, ⟨n0, hB, by show n0 + r.length + 6 * (M - 0) ≤ 33000; omega⟩, by show 0 + 0 + r.length + 6 * (M - 0) ≤ 33000; omega⟩, by simp,
      fun s2 e2 H7 f7 hW7 => ?_, fun e2 H7 f7 k7 hDy => ?_⟩
    · walk_at "rs"
      exact qs s2 e2 S d t e H7 (fH6.then f7 free4) nS hdH htH heH hW7
    · walk_at "rs"
      exact qe e2 S d t e H7 (fH6.then f7 free4) nS (hDy.up (by omega))
abbrev s__law_is_dry : Stmt := top 29
abbrev N__law_is_dry : List Str := ["_law_program_here", "_law_names_here", "_law_most", "e"]
theorem sc__law_is_dry : FnScope N__law_is_dry ["_law_program_here", "_law_names_here", "_law_most"] (defScope s__law_is_dry) := ⟨rfl, rfl, rfl, by decide +kernel, rfl, by decide +kernel, by decide +kernel⟩
theorem ok_isDry (T : Blt mg) (L : ErrsTxt K mg DC LC BF NF UN) (F : Here K mg "_law_is_dry" s__law_is_dry ["_law_program_here", "_law_names_here", "_law_most"]) (D_ran : DefOk P w K mg base (L2.CX P w) "ran" ["program", "names", "most"] 15 (spRan K DC)) :
    DefOk P w K mg base CX0 "_law_is_dry" ["_law_program_here", "_law_names_here", "_law_most"] 16 (spIsDry K) := by
  refine F.ok sc__law_is_dry (fun vs H Q E h => ?_) (fun f cdv A outer s H vs Q E hr h => ?_)
  · obtain ⟨_, _, _, _, _, _, _, rfl, _⟩ := h; rfl
  obtain ⟨G, last, M, v, r, nd, kvs0, rfl, hd, ho, hc, hg, hv, hnd, hnm, hkl, hB, hno, q⟩ := h
  have hr_ran := hr.mono (j := 15) (by omega)
  refine ⟨_, pss_cons (ps_try_as (i := 3) rfl rfl sc__law_is_dry.nd rfl rfl ⟨rfl, by decide, .inl L.lg⟩ takes0
      (fun W pn xe tk _ => pss_one (ps_expr (pe_callSD D_ran hr_ran (fun σ => passAt tk σ) (pa_cons (pv 0) (pa_cons (pv 1) (pa_cons (pv 2) pa_nil))))))
      (fun a oe cls d pn hz hf => pss_when (c := cls = .ref DC ∧ d = none) fun hc =>
        have hz' : Zc (.ref DC) none oe := by rw [← hc.1, ← hc.2]; exact hz
        pss_cons (ps_if (PW.pt (pw_or (pt_val (pe_callB (call_isE L.ec hz' hf) (by rfl) T.n_isinstance (by decide +kernel) (pa_cons (pv 3) (pa_cons (pe_glob (v := .ref BF) rfl L.gb rfl) pa_nil)))) (pw_or (pt_val (pe_callB (call_isE L.ec hz' hf) (by rfl) T.n_isinstance (by decide +kernel) (pa_cons (pv 3) (pa_cons (pe_glob (v := .ref NF) rfl L.gn rfl) pa_nil))))
            (pw_or1 (pt_val (pe_callB (call_isE L.ec hz' hf) (by rfl) T.n_isinstance (by decide +kernel) (pa_cons (pv 3) (pa_cons (pe_glob (v := .ref UN) rfl L.gu rfl) pa_nil))))))))
          (pss_one (ps_ret pe_bl)) pss_nil)
        (pss_one (ps_ret (pe_and (pe_callB (call_isE L.ec hz' hf) (by rfl) T.n_isinstance (by decide +kernel) (pa_cons (pv 3) (pa_cons (pe_glob (v := .ref DC) rfl L.gd rfl) pa_nil)))
          (pe_one (pe_callB (call_isE L.ec hz' hf) (by rfl) T.n_isinstance (by decide +kernel) (pa_cons (pv 3) (pa_cons (pe_tyN (n := "ValueError") (by rfl) L.zv (by decide +kernel)) pa_nil)))))))))
    (pss_one (ps_ret pe_bl)), ?_⟩
  refine rd_seq ?_
  refine rd_drop ?_
  refine rd_callS ?_
  walk_at "rh"
  refine ⟨G, last, M, v, r, nd, kvs0, rfl, hd, ho, hc, hg, hv, hnd, hnm, hkl, hB, (fun s2 e2 => by rw [hno] at e2; cases e2), fun _ H2 f2 => ?_⟩
  refine ⟨true, L.ex, fun _ a0 ha => ?_, fun z => nomatch z⟩
  refine ⟨⟨rfl, rfl⟩, ?_⟩
  walk_at "rh"
  refine ⟨_, .ref BF, false, rfl, (fun u z => z), L.kb, ?_⟩
  walk_at "rh"
  refine ifF rfl ?_
  walk_at "rh"
  refine ⟨_, .ref NF, false, rfl, (fun u z => z), L.kn, ?_⟩
  walk_at "rh"
  refine ifF rfl ?_
  walk_at "rh"
  refine ⟨_, .ref UN, false, rfl, (fun u z => z), L.ku, ?_⟩
  walk_at "rh"
  refine ifF rfl ?_
  walk_at "rh"
  refine ⟨_, .ref DC, true, rfl, (fun u z => z), L.kd, ?_⟩
  walk_at "rh"
  refine ifT rfl ?_
  walk_at "rh"
  refine ⟨_, .type "ValueError", true, rfl, (fun u z => z), L.kv, ?_⟩
  walk_at "rh"
  exact q H2 f2
end
end Lf
namespace Lf
open PySem PySem.Spec PyProof.Rows L2
def spLaw (K : PySem.W.Frag) : Sp := fun vs H Q _ => ∃ (a : Addr) (ns : List Int), vs = [.ref a] ∧ SqL K H a (ns.map V.int) ∧ ns.length ≤ 63 ∧ ∀ H', Q (.bl true) H'
theorem keys_le {α : Type} [DecidableEq α] {ms ys : List α} (nd : ys.Nodup) (h : ∀ k ∈ ys, k ∈ ms) : ys.length ≤ ms.length := by
  induction ys generalizing ms with
  | nil => simp
  | cons x r ih =>
    have a := List.nodup_cons.mp nd
    have e := ih (ms := ms.erase x) a.2 fun k hk => (List.mem_erase_of_ne (by rintro rfl; exact a.1 hk)).2 (h k (List.mem_cons_of_mem _ hk))
    have m := h x List.mem_cons_self
    rw [List.length_erase_of_mem m] at e
    have := List.length_pos_of_mem m
    simp only [List.length_cons]
    omega
theorem addN_mem {kvs : List (L2.Key × V)} {x : Str} {k : L2.Key} (h : k ∈ (addN kvs x).map Prod.fst) : k ∈ kvs.map Prod.fst ∨ k = Sum.inr x := by
  unfold addN at h
  split at h
  · exact .inl h
  · rename_i c
    have e : valV kvs (.inr x) = none := by
      cases q : valV kvs (.inr x) with
      | none => rfl
      | some v => rw [q] at c; exact absurd rfl c
    rw [putK_new _ e, List.map_append] at h
    rcases List.mem_append.mp h with z | z
    · exact .inl z
    · exact .inr (by simpa using z)
theorem addAll_mem : ∀ (ms : List Str) {kvs : List (L2.Key × V)} {k : L2.Key}, k ∈ (addAll kvs ms).map Prod.fst → k ∈ kvs.map Prod.fst ∨ ∃ x ∈ ms, k = Sum.inr x
  | [], kvs, k, h => .inl h
  | m :: ms, kvs, k, h => by
    rcases addAll_mem ms (kvs := addN kvs m) h with z | ⟨x, hx, e⟩
    · rcases addN_mem z with z | z
      · exact .inl z
      · exact .inr ⟨m, List.mem_cons_self, z⟩
    · exact .inr ⟨x, List.mem_cons_of_mem _ hx, e⟩
/-- the same names, in whatever order -/
theorem dict_same2 {ks ls : List (L2.Key × V)} (nk : (ks.map Prod.fst).Nodup) (nl : (ls.map Prod.fst).Nodup) (t : TxtK ks) (hk : NmD ks) (hl : NmD ls) (e : ∀ k, k ∈ ks.map Prod.fst ↔ k ∈ ls.map Prod.fst) (en : nmOf ks = nmOf ls) :
    ks.length = ls.length ∧ ∀ p ∈ ks, valV ls p.1 = some p.2 ∧ flatB p.2 = true := by
  refine ⟨?_, fun p hp => ?_⟩
  · have a := keys_le nk fun k h => (e k).mp h
    have b := keys_le nl fun k h => (e k).mpr h
    rw [List.length_map, List.length_map] at a b
    omega
  · have m : p.1 ∈ ks.map Prod.fst := List.mem_map_of_mem hp
    obtain ⟨x, ex⟩ := t p.1 m
    have v1 := val_of_mem nk hp
    rw [ex] at v1 m
    have v2 := val_some hk m
    have v3 := val_some hl ((e _).mp m)
    rw [v1] at v2
    obtain ⟨k, v⟩ := p
    simp only at ex
    subst ex
    cases v2
    rw [v3, en]
    exact ⟨rfl, rfl⟩
section
variable {P : Program} {w : World} {K : PySem.W.Frag} {mg : Str → Option Value} {base : Heap} {DC : Addr}
abbrev s_law : Stmt := top 30
abbrev N_law : List Str := ["_law_script", "_law_h", "_law_names_here", "_law_program_here", "_law_inputs_here", "_law_s", "_law_handed", "_law_most", "_law_found", "_law_row_here"]
theorem sc_law : FnScope N_law ["_law_script"] (defScope s_law) := ⟨rfl, rfl, rfl, by decide +kernel, rfl, by decide +kernel, by decide +kernel⟩
theorem ok_law (T : Blt mg) (D__law_next : ∀ n, DefOk P w K mg base CX0 "_law_next" ["_law_h", "_law_many"] 1 (spNext n)) (D__law_names : ∀ n, DefOk P w K mg base CX0 "_law_names" ["_law_h"] 2 (spNames7 n)) (D__law_program : ∀ n, DefOk P w K mg base CX0 "_law_program" ["_law_h", "_law_names_here", "_law_odd"] 13 (spProg K n))
    (D__law_inputs : ∀ n, DefOk P w K mg base CX0 "_law_inputs" ["_law_h", "_law_names_here"] 2 (spInputs n)) (D__law_ran : DefOk P w K mg base CX0 "_law_ran" ["_law_program_here", "_law_names_here", "_law_most"] 15 (spRanD K)) (D_ran : DefOk P w K mg base (L2.CX P w) "ran" ["program", "names", "most"] 15 (spRan K DC))
    (D__law_is_dry : DefOk P w K mg base CX0 "_law_is_dry" ["_law_program_here", "_law_names_here", "_law_most"] 16 (spIsDry K))
    {fa : Addr} {fd : FuncData} (F : Fun K "law" "law" s_law fa fd) : FnOk P w K mg base CX0 17 fa fd ["_law_script"] (spLaw K) := by
  refine F.ok sc_law (fun vs H Q E h => ?_) (fun cdv A outer s H vs Q E hr h => ?_)
  · obtain ⟨_, _, rfl, _⟩ := h; rfl
  obtain ⟨a, ns, rfl, hS, hlen, q⟩ := h
  have hu64 := hr.units
  have hu0 := hr.units0
  have hu : (cxOf CX0 P w K mg base N_law "law" (defScope s_law) fa cdv A outer s H E).nox.A.units + 1 < cLine := by
    have := hr.units
    show (A.deeper _).units + 1 < cLine
    omega
  have hr__law_next := hr.mono (j := 1) (by decide)
  have hr__law_names := hr.mono (j := 2) (by decide)
  have hr__law_program := hr.mono (j := 13) (by decide)
  have hr__law_inputs := hr.mono (j := 2) (by decide)
  have hr__law_ran := hr.mono (j := 15) (by decide)
  have hr_ran := hr.mono (j := 15) (by decide)
  have hr__law_is_dry := hr.mono (j := 16) (by decide)
  have D__law_next := D__law_next ns.length
  have D__law_names := D__law_names ns.length
  have D__law_program := D__law_program ns.length
  have D__law_inputs := D__law_inputs ns.length
  refine ⟨_, (pss_cons (ps_set (i := 1) sc_law.nd rfl (Or.inl rfl) (pe_lst (pa_cons pe_int (pa_cons (pe_callTy call_listA (by rfl) T.n_list (by decide +kernel) (pa_cons (pv 0) pa_nil)) (pa_cons pe_int pa_nil)))))
    (pss_cons (ps_set (i := 2) sc_law.nd rfl (Or.inl rfl) (pe_callD D__law_names hr__law_names pass0 (pa_cons (pv 1) pa_nil)))
    (pss_cons (ps_set (i := 3) sc_law.nd rfl (Or.inl rfl) (pe_callD D__law_program hr__law_program pass0 (pa_cons (pv 1) (pa_cons (pv 2) (pa_cons pe_bl pa_nil)))))
    (pss_cons (ps_set (i := 4) sc_law.nd rfl (Or.inl rfl) (pe_callD D__law_inputs hr__law_inputs pass0 (pa_cons (pv 1) (pa_cons (pv 2) pa_nil))))
    (pss_cons (ps_set (i := 5) sc_law.nd rfl (Or.inl rfl) (pe_callD D__law_ran hr__law_ran pass0 (pa_cons (pv 3) (pa_cons (pv 4) (pa_cons pe_int pa_nil)))))
    (pss_cons (ps_if (pt_val (pe_dget hu (pv 5) pe_str (fun _ _ => rfl)))
    (pss_one (ps_ret (pe_callD D__law_is_dry hr__law_is_dry pass0 (pa_cons (pv 3) (pa_cons (pv 4) (pa_cons pe_int pa_nil))))))
    pss_nil)
    (pss_cons (ps_set (i := 6) sc_law.nd rfl (Or.inl rfl) (pe_callTy call_dictD (by rfl) T.n_dict (by decide +kernel) (pa_cons (pv 4) pa_nil)))
    (pss_cons (ps_for PassesOwn.never rfl (pi_list (pe_lst (pa_cons (pe_dget hu (pv 5) pe_str (fun _ _ => rfl)) (pa_cons (pe_op op_plus (pe_op op_plus (pe_dget hu (pv 5) pe_str (fun _ _ => rfl)) pe_int) (pe_callD D__law_next hr__law_next pass0 (pa_cons (pv 1) (pa_cons pe_int pa_nil)))) pa_nil)))) (pg_name (i := 7) sc_law.nd rfl (Or.inl rfl))
    (pss_cons (ps_set (i := 8) sc_law.nd rfl (Or.inl rfl) (pe_callD D_ran hr_ran passL (pa_cons (pv 3) (pa_cons (pv 6) (pa_cons (pv 7) pa_nil)))))
    (pss_cons (ps_if (PW.pt (pw_or (pt_not (pt_val (pe_callB call_isiA (by rfl) T.n_isinstance (by decide +kernel) (pa_cons (pv 8) (pa_cons (pe_tyN (n := "tuple") (by rfl) T.n_tuple (by decide +kernel)) pa_nil))))) (pw_or (pt_cmpR (op_neA hu64) (pe_callB call_lenA (by rfl) T.n_len PySem.boot_len (pa_cons (pv 8) pa_nil)) pe_int (nomark _)) (pw_or1 (pt_cmpR (op_ne_dictA hu0) (pv 6) (pv 4) (nomark _))))))
    (pss_one (ps_ret pe_bl))
    pss_nil)
    (pss_cons (ps_if (PW.pt (pw_or (pt_cmpR (op_neA hu64) (pe_ix ix_seq (pv 8) pe_int (fun _ _ => rfl)) (pe_dget hu (pv 5) pe_str (fun _ _ => rfl)) (nomark _)) (pw_or (pt_cmpR (op_ne_dictA hu0) (pe_ix ix_seq (pv 8) pe_int (fun _ _ => rfl)) (pe_dget hu (pv 5) pe_str (fun _ _ => rfl)) (nomark _)) (pw_or (pt_cmpR (op_neA hu64) (pe_ix ix_seq (pv 8) pe_int (fun _ _ => rfl)) (pe_dget hu (pv 5) pe_str (fun _ _ => rfl)) (nomark _)) (pw_or1 (pt_cmpR (op_neA hu64) (pe_ix ix_seq (pv 8) pe_int (fun _ _ => rfl)) (pe_dget hu (pv 5) pe_str (fun _ _ => rfl)) (nomark _)))))))
    (pss_one (ps_ret pe_bl))
    pss_nil)
    (pss_cons (ps_if (PW.pt (pw_or (pt_not (pt_val (pe_callB call_isiA (by rfl) T.n_isinstance (by decide +kernel) (pa_cons (pe_ix ix_seq (pv 8) pe_int (fun _ _ => rfl)) (pa_cons (pe_tyN (n := "list") (by rfl) T.n_list (by decide +kernel)) pa_nil))))) (pw_or (pt_not (pt_val (pe_callB call_isiA (by rfl) T.n_isinstance (by decide +kernel) (pa_cons (pe_ix ix_seq (pv 8) pe_int (fun _ _ => rfl)) (pa_cons (pe_tyN (n := "list") (by rfl) T.n_list (by decide +kernel)) pa_nil))))) (pw_or1 (pt_val (pe_callB call_isiA (by rfl) T.n_isinstance (by decide +kernel) (pa_cons (pe_ix ix_seq (pv 8) pe_int (fun _ _ => rfl)) (pa_cons (pe_tyN (n := "bool") (by rfl) T.n_bool (by decide +kernel)) pa_nil))))))))
    (pss_one (ps_ret pe_bl))
    pss_nil)
    (pss_cons (ps_for PassesOwn.never rfl (pi_list (pe_lst (pa_cons (pe_ix ix_seq (pv 8) pe_int (fun _ _ => rfl)) (pa_cons (pe_ix ix_seq (pv 8) pe_int (fun _ _ => rfl)) pa_nil)))) (pg_name (i := 9) sc_law.nd rfl (Or.inl rfl))
    (pss_one (ps_expr (pe_bm PySem.F.plainAttrs_list PySem.F.slot_list_append PySem.F.type_list_append mt_append (pv 9) (pa_cons pe_int pa_nil)))))
    (pss_one (ps_dput hu (pe_ix ix_seq (pv 8) pe_int (fun _ _ => rfl)) pe_str pe_int rfl))))))))
    (pss_one (ps_ret (pe_or (pe_cmpR (op_eqA hu64) (pe_dget hu (pv 5) pe_str (fun _ _ => rfl)) pe_int (nomark _)) (pe_one (pe_callD D__law_is_dry hr__law_is_dry pass0 (pa_cons (pv 3) (pa_cons (pv 4) (pa_cons (pe_op op_sub (pe_dget hu (pv 5) pe_str (fun _ _ => rfl)) pe_int) pa_nil)))))))))))))))), ?_⟩
  walk_at "rh"
  refine rd_list hS fun c H1 fc f1 ec => ?_
  walk_at "rh"
  refine rd_newL (by simp) fun h H2 fh f2 eh => ?_
  have ec2 := f2.at ec
  have ne : h ≠ c := (ne_of_none ec fh).symm
  have hat : HAt H2 h c ns.length := ⟨ne, 31, 0, ns, eh, ec2, by decide, rfl⟩
  walk_at "rh"
  refine ⟨h, c, rfl, hat, fun l xs H3 nl hl7 hnd hok f3 hat3 el => ?_⟩
  have nm : Nm7 xs := ⟨hl7, hnd, fun x hx => (hok x hx).2⟩
  have ⟨nlh, nlc⟩ := hat.new nl
  walk_at "rh"
  refine ⟨h, c, l, xs, true, rfl, nm, hat3, el, nlh, nlc, fun v r H4 f4 hat4 gr len dep cnt rp => ?_⟩
  walk_at "rh"
  refine ⟨h, c, l, xs, rfl, nm, hat4, f4.at2 el nlh nlc, nlh, nlc, fun d0 kvs0 H5 nd0 f5 hat5 e5 nm0 tx0 no0 len0 bd0 => ?_⟩
  have rp5 := rp.mono (hat4.kp f5)
  walk_at "rh"
  refine ⟨Gs xs, lastN xs, 5000, _, r, d0, kvs0, rfl, by omega, gd_ok gr, by omega, gr, rp5, e5, nm0, by omega, ⟨0, bd0, by omega⟩, fun s1 run1 S d t e H6 f6 nS nd nt nE hW => ?_, fun run1 S d t e H6 f6 nS hDy => ?_⟩
  rotate_left
  · obtain ⟨n', m', ob⟩ := hDy.ob
    walk_at "rh"
    refine rd_dget ?_
    walk_at "rh"
    refine rd_gg ob sk_dry ?_
    walk_at "rh"
    refine ifT rfl ?_
    walk_at "rh"
    exact ⟨Gs xs, lastN xs, 5000, _, r, d0, kvs0, rfl, by omega, gd_ok gr, by omega, gr, rp5.mono f6.kp0, f6.at e5, nm0, by omega, ⟨0, bd0, by omega⟩, run1, fun H7 _ => q H7⟩
  have tu1 := (runL_turns r [] 0 _ s1 (Nat.zero_le _) run1).2
  obtain ⟨kvsS, hDS, nmS, rhoS, keyS⟩ := hW.di
  obtain ⟨esS, heS, resS⟩ := hW.en
  have e6 := f6.at e5
  have hat6 := hat5.mono f6
  walk_at "rh"
  refine rd_dget ?_
  walk_at "rh"
  refine rd_gg hW.ob sk_dry ?_
  walk_at "rh"
  refine ifF rfl ?_
  walk_at "rh"
  refine ⟨d0, kvs0, rfl, .inl e6, fun d1 nd1 => ?_⟩
  have f7 : Fr [] H6 (upd H6 d1 (.dK kvs0)) := (Fr.refl [] H6).new nd1
  have e7 : upd H6 d1 (.dK kvs0) d1 = some (.dK kvs0) := upd_same
  generalize upd H6 d1 (.dK kvs0) = H7 at f7 e7 ⊢
  have hW7 := hW.mono f7
  have hat7 := hat6.mono f7
  walk_at "rs"
  with_reducible refine rd_seqc fun N hN => ?_
  walk_at "rs"
  refine rd_dget ?_
  walk_at "rs"
  refine rd_gg hW7.ob sk_turns ?_
  walk_at "rs"
  refine rd_dget ?_
  walk_at "rs"
  refine rd_gg hW7.ob sk_turns ?_
  walk_at "rs"
  walk_at "nx"
  intro z H8 z0 z1 f8 k8 hat8
  walk_at "rs"
  refine rd_newL (by simp) fun ml H9 nml f9 eml => ?_
  have ⟨nSh, nSc⟩ := hat5.new nS
  have ⟨ndh, ndc⟩ := hat5.new nd
  have ⟨nth, ntc⟩ := hat5.new nt
  have ⟨neh, nec⟩ := hat5.new nE
  have ⟨n0h, n0c⟩ := (hat4.new nd0)
  have ⟨n1h, n1c⟩ := hat6.new nd1
  -- what stands from here on
  have S9 := f9.at (f8.at2 (f7.at hW.ob) nSh nSc)
  have d9 := f9.at (f8.at2 (f7.at hDS) ndh ndc)
  have t9 := f9.at (f8.at2 (f7.at hW.to) nth ntc)
  have en9 := f9.at (f8.at2 (f7.at heS) neh nec)
  have i9 := f9.at (f8.at2 (f7.at e6) n0h n0c)
  have h9 := f9.at (f8.at2 e7 n1h n1c)
  have k69 : Kp H6 H9 := (f7.kp0.trans (hat7.kp f8)).trans f9.kp0
  have res9 := resS.mono k69
  have rp9 := (rp5.mono f6.kp0).mono k69
  have noS : (kvsS.map Prod.fst).Nodup ∧ TxtK kvsS := by
    obtain ⟨z1, z2⟩ := addAll_keys (allL r) no0 tx0
    refine ⟨by rw [keyS]; exact z1, fun k hk => z2 k (by rw [← keyS]; exact hk)⟩
  clear hat hat3 hat4 hat5 hat6 hat7 hW hW7 hDS heS resS rp5 rp e5 e6 e7 el f1 f2 f3 f4 f5 f6 f7 f8 f9 ec ec2 eh fc fh nl k8
  walk_at "rs"
  refine rd_forL [V.int (s1.turns : Int), V.int ((s1.turns : Int) + 1 + z)] (fun _ σ H' => ∃ (u7 u8 u9 : Option V), σ = [some (.ref a), some (.ref h), some (.ref l), some v, some (.ref d0), some (.ref S), some (.ref d1), u7, u8, u9] ∧ Fr [] H9 H') ⟨_, _, _, rfl, Fr.refl _ _⟩
    (fun i σ H' _ hσ => ?_) (fun i x σ H10 hx hσ => ?_) (fun σ H' hσ => ?_)
  · obtain ⟨u7, u8, u9, _, f'⟩ := hσ
    exact SqL.of (f'.at eml)
  · obtain ⟨u7, u8, u9, rfl, f10⟩ := hσ
    obtain ⟨M, rfl, hM1, hM2⟩ : ∃ M : Nat, x = V.int (M : Int) ∧ s1.turns ≤ M ∧ M ≤ 5009 := by
      match i, hx with
      | 0, hx => exact ⟨s1.turns, (Option.some.inj hx).symm, Nat.le_refl _, by omega⟩
      | 1, hx => exact ⟨s1.turns + 1 + z.toNat, by rw [← Option.some.inj hx]; congr 1; omega, by omega, by omega⟩
      | i + 2, hx => simp at hx
    have more := runL_more (N := M) (Nat.zero_le _) run1 hM1
    walk_at "rs"
    with_reducible refine rd_seq ?_
    walk_at "rs"
    refine ⟨Gs xs, lastN xs, M, _, r, d1, kvs0, rfl, by omega, gd_ok gr, by omega, gr, rp9.mono f10.kp0, f10.at h9, nm0, by omega, ⟨0, bd0, by omega⟩, fun s2 run2 fq t2 d2 en2 kvs2 es2 H11 f11 nfq nd2 nt2 nen2 nte eq2 ed2 nm2 rho2 key2 et2 ee2 res2 => ?_, fun run2 _ _ => by rw [more] at run2; cases run2⟩
    have e2 : s2 = s1 := (Option.some.inj (more.symm.trans run2)).symm
    subst e2
    have f911 := f10.trans f11
    have no2 : (kvs2.map Prod.fst).Nodup ∧ TxtK kvs2 := by
      obtain ⟨z1, z2⟩ := addAll_keys (srt (foundL r)) no0 tx0
      refine ⟨by rw [key2]; exact z1, fun k hk => z2 k (by rw [← key2]; exact hk)⟩
    have S11 := f911.at S9
    have same1 := dict_same no0 tx0 nm0 nm0 rfl rfl
    obtain ⟨aS1, aS2, aS3, aS4, aS5⟩ := addAll_spec (allL r) nm0
    obtain ⟨a21, a22, a23, a24, a25⟩ := addAll_spec (srt (foundL r)) nm0
    have same2 := dict_same2 no2.1 noS.1 no2.2 nm2 nmS (fun k => by
      rw [key2, keyS]
      constructor
      · intro hk
        rcases addAll_mem _ hk with hk | ⟨x, hx, rfl⟩
        · exact aS5 _ hk
        · exact aS4 x ((allL_found r x).mpr (mem_srt.mp hx))
      · intro hk
        rcases addAll_mem _ hk with hk | ⟨x, hx, rfl⟩
        · exact a25 _ hk
        · exact a24 x (mem_srt.mpr ((allL_found r x).mp hx))) (rho2.trans rhoS.symm)
    walk_at "rs"
    with_reducible refine rd_seq ?_
    walk_at "rs"
    refine rd_isi (ty_tup (SqT.of eq2)) (k := true) (by decide +kernel) ?_
    walk_at "rs"
    refine ifF rfl ?_
    walk_at "rs"
    refine ifF (by simp) ?_
    walk_at "rs"
    refine ⟨d1, d0, kvs0, kvs0, rfl, rfl, f911.at h9, f911.at i9, same1.1, same1.2, ?_⟩
    walk_at "rs"
    refine ifF rfl ?_
    walk_at "rh"
    refine rd_dget ?_
    walk_at "rh"
    refine rd_gg S11 sk_told ?_
    refine rd_neSame (d := .list (s2.told.map PyData.int)) (.lst (SqL.of et2) (dp_ints _)) (.lst (SqL.of (f911.at t9)) (dp_ints _)) (lay_I _) ?_
    walk_at "rh"
    refine ifF rfl ?_
    walk_at "rh"
    refine rd_dget ?_
    walk_at "rh"
    refine rd_gg S11 sk_names ?_
    refine ⟨d2, d, kvs2, kvsS, rfl, rfl, ed2, f911.at d9, same2.1, same2.2, ?_⟩
    walk_at "rh"
    refine ifF rfl ?_
    walk_at "rh"
    refine rd_dget ?_
    walk_at "rh"
    refine rd_gg S11 sk_turns ?_
    walk_at "rh"
    refine ifF (by simp) ?_
    walk_at "rh"
    refine rd_dget ?_
    walk_at "rh"
    refine rd_gg S11 sk_entries ?_
    refine rd_neSame (d := .list (s2.ents.map pdN)) (.lst (SqL.of ee2) (dp_encNs res2)) (.lst (SqL.of (f911.at en9)) (dp_encNs (res9.mono f911.kp0))) (lay_N _) ?_
    walk_at "rh"
    refine ifF rfl ?_
    walk_at "rh"
    refine rd_isi (ty_list (SqL.of et2)) (k := true) (by decide +kernel) ?_
    walk_at "rh"
    refine ifF rfl ?_
    walk_at "rh"
    refine rd_isi (ty_list (SqL.of ee2)) (k := true) (by decide +kernel) ?_
    walk_at "rh"
    refine ifF rfl ?_
    walk_at "rh"
    refine rd_isi (.base (.int _)) (k := false) (by decide +kernel) ?_
    walk_at "rh"
    refine ifF rfl ?_
    walk_at "rs"
    with_reducible refine rd_seqc fun N2 hN2 => ?_
    walk_at "rs"
    refine rd_newL (by simp) fun ml2 H12 nml2 f12 eml2 => ?_
    have nmt : ml2 ≠ t2 := (ne_of_none et2 nml2).symm
    have nme : ml2 ≠ en2 := (ne_of_none ee2 nml2).symm
    have le1 : lenT s2 + 6 * (5000 - s2.turns) ≤ 0 + 0 + r.length + 6 * (5000 - 0) := runL_len r [] 0 _ s2 gr (Nat.zero_le _) run1
    have l2 := RpL.length res2
    rw [List.length_map] at l2
    unfold lenT at le1
    walk_at "rs"
    refine rd_forL [V.ref t2, V.ref en2] (fun i σ H' => ∃ u9, σ = [some (.ref a), some (.ref h), some (.ref l), some v, some (.ref d0), some (.ref S), some (.ref d1), some (.int (M:Int)), some (.ref fq), u9] ∧ Fr [t2, en2] H12 H' ∧ Kp H12 H' ∧
        (∃ ys, H' t2 = some (.lst ys) ∧ ys.length ≤ 40000 + i) ∧ ∃ ys, H' en2 = some (.lst ys) ∧ ys.length ≤ 40000 + i)
      ⟨_, rfl, Fr.refl _ _, Kp.refl _, ⟨_, f12.at et2, by rw [List.length_map]; omega⟩, ⟨_, f12.at ee2, by omega⟩⟩ (fun i σ H' _ hσ => ?_) (fun i x σ H' hx hσ => ?_) (fun σ H' hσ => ?_)
    · obtain ⟨_, _, f', _⟩ := hσ
      exact SqL.of (f'.at eml2 (by simp [nmt, nme]))
    · obtain ⟨u9, rfl, f', k', ⟨ys, ey, ly⟩, ⟨zs, ez, lz⟩⟩ := hσ
      match i, hx with
      | 0, hx =>
        cases (Option.some.inj hx)
        walk_at "rs"
        refine rd_app1 ey (by rw [sizeLine_eq]; omega) fun H13 f13 k13 e13 => ?_
        walk_at "rs"
        exact ⟨_, rfl, f'.trans (f13.wk (by simp)), k'.trans k13, ⟨_, e13, by simp; omega⟩, ⟨_, f13.at1 ez nte.symm, by omega⟩⟩
      | 1, hx =>
        cases (Option.some.inj hx)
        walk_at "rs"
        refine rd_app1 ez (by rw [sizeLine_eq]; omega) fun H13 f13 k13 e13 => ?_
        walk_at "rs"
        exact ⟨_, rfl, f'.trans (f13.wk (by simp)), k'.trans k13, ⟨_, f13.at1 ey nte, by omega⟩, ⟨_, e13, by simp; omega⟩⟩
      | i + 2, hx => simp at hx
    · obtain ⟨u9, rfl, f', k', ⟨ys, ey, ly⟩, ⟨zs, ez, lz⟩⟩ := hσ
      refine hN2 _ _ ?_
      have n2t : d2 ≠ t2 := ne_of ed2 et2 (by intro z; cases z)
      have n2e : d2 ≠ en2 := ne_of ed2 ee2 (by intro z; cases z)
      have d2' := f'.at (f12.at ed2) (by simp [n2t, n2e])
      have k11 : Kp H11 H' := f12.kp0.trans k'
      have lk2 : kvs2.length < sizeLine := by
        have := congrArg List.length key2
        rw [List.length_map, List.length_map] at this
        have sl := srt_len (foundL r)
        have fl := foundL_len (gd_ok gr)
        rw [sizeLine_eq]; omega
      walk_at "rs"
      refine rd_dput ?_
      walk_at "rs"
      refine rd_gp d2' lk2 ?_
      have ff : Fr [] H9 H' := (f911.trans f12).then f' (by
        simp only [List.mem_cons, List.not_mem_nil, or_false, forall_eq_or_imp, forall_eq]
        exact ⟨f10.free nt2, f10.free nen2⟩)
      walk_at "rs"
      exact ⟨_, _, _, rfl, ff.mut (f10.free nd2)⟩
  · obtain ⟨u7, u8, u9, rfl, f10⟩ := hσ
    refine hN _ _ ?_
    walk_at "rh"
    refine rd_dget ?_
    walk_at "rh"
    refine rd_gg (f10.at S9) sk_turns ?_
    walk_at "rh"
    by_cases ht : s1.turns = 0
    · refine ifT (by rw [ht]; rfl) ?_
      exact q _
    · refine ifF (by simp; omega) ?_
      walk_at "rh"
      refine rd_dget ?_
      walk_at "rh"
      refine rd_gg (f10.at S9) sk_turns ?_
      walk_at "rh"
      have em : (s1.turns : Int) - 1 = ((s1.turns - 1 : Nat) : Int) := by omega
      have dry := runL_dry (N := s1.turns - 1) (Nat.zero_le _) run1 (Nat.zero_le _) (by omega)
      exact ⟨Gs xs, lastN xs, s1.turns - 1, _, r, d0, kvs0, by rw [em]; rfl, by omega, gd_ok gr, by omega, gr, rp9.mono f10.kp0, f10.at i9, nm0, by omega, ⟨0, bd0, by omega⟩, dry, fun H7 _ => q H7⟩
end
end Lf
namespace Lf
open PySem PySem.Spec PyProof.Rows L2
section
variable {P : Program} {w : World} {K : PySem.W.Frag} {mg : Str → Option Value} {base : Heap} {C DC LC BF NF UN : Addr}
theorem ok_lapRow (T : Blt mg) (n : Nat) (FL : Here K mg "_law_lap" s__law_lap ["_law_h", "_law_names_here", "_law_depth", "_law_odd"]) (FR : Here K mg "_law_row" s__law_row ["_law_h", "_law_names_here", "_law_depth", "_law_odd"]) (X : DefOk P w K mg base CX0 "_law_next" ["_law_h", "_law_many"] 1 (spNext n))
    (A : DefOk P w K mg base CX0 "_law_part" ["_law_h", "_law_some", "_law_deep"] 4 (spPart K n 3)) (M : DefOk P w K mg base CX0 "_law_measure" ["_law_h", "_law_guard", "_law_calm"] 2 (spMeas K n)) (GR : DefOk P w K mg base CX0 "_law_grow" ["_law_h", "_law_low", "_law_some"] 2 (spGrow K n)) :
    ∀ j, DefOk P w K mg base CX0 "_law_row" ["_law_h", "_law_names_here", "_law_depth", "_law_odd"] (2 * j + 6) (spRowD K n j)
  | 0 => ok_rowD T n 0 5 (by omega) FR X A GR ((none_sp FL fun vs H Q E h => by obtain ⟨_, _, _, _, _, _, _, _, _, _, _, _, h1, h2, _⟩ := h; omega).mono (by omega))
  | j + 1 => ok_rowD T n (j + 1) (2 * j + 7) (by omega) FR X A GR (ok_lapD T n j (2 * j + 6) (by omega) FL X M (ok_lapRow T n FL FR X A M GR j))
/-- everything together -/
theorem glue (T : Blt mg) (F_names_told : Here K mg "names_told" s_names_told ["part"]) (F_names_of : Here K mg "names_of" s_names_of ["row"]) (F_reckoned : Here K mg "reckoned" s_reckoned ["part", "names"]) (F_ran : Here K mg "ran" s_ran ["program", "names", "most"])
    (F__law_next : Here K mg "_law_next" s__law_next ["_law_h", "_law_many"]) (F__law_names : Here K mg "_law_names" s__law_names ["_law_h"]) (F__law_part : Here K mg "_law_part" s__law_part ["_law_h", "_law_some", "_law_deep"]) (F__law_measure : Here K mg "_law_measure" s__law_measure ["_law_h", "_law_guard", "_law_calm"])
    (F__law_lap : Here K mg "_law_lap" s__law_lap ["_law_h", "_law_names_here", "_law_depth", "_law_odd"]) (F__law_grow : Here K mg "_law_grow" s__law_grow ["_law_h", "_law_low", "_law_some"]) (F__law_row : Here K mg "_law_row" s__law_row ["_law_h", "_law_names_here", "_law_depth", "_law_odd"])
    (F__law_inputs : Here K mg "_law_inputs" s__law_inputs ["_law_h", "_law_names_here"]) (F__law_program : Here K mg "_law_program" s__law_program ["_law_h", "_law_names_here", "_law_odd"]) (F__law_value : Here K mg "_law_value" s__law_value ["_law_part_here", "_law_names_here"])
    (F__law_walk : Here K mg "_law_walk" s__law_walk ["_law_row_here", "_law_place", "_law_s"]) (F__law_turns : Here K mg "_law_turns" s__law_turns ["_law_one", "_law_place", "_law_s"]) (F__law_all_names : Here K mg "_law_all_names" s__law_all_names ["_law_row_here"]) (F__law_in_part : Here K mg "_law_in_part" s__law_in_part ["_law_part_here"])
    (F__law_ran : Here K mg "_law_ran" s__law_ran ["_law_program_here", "_law_names_here", "_law_most"]) (F__law_is_dry : Here K mg "_law_is_dry" s__law_is_dry ["_law_program_here", "_law_names_here", "_law_most"])
    (W : WTxt K C) (HI : HereI K mg C "Walk" "Walk.__init__" s_Walk___init__ ["self", "names", "most"]) (HR : HereM K C "row" "Walk.row" s_Walk_row ["self", "row", "place"]) (HL : HereM K C "lap" "Walk.lap" s_Walk_lap ["self", "one", "place"]) (XD : ErrTxt K mg "Dry" DC) (L : ErrsTxt K mg DC LC BF NF UN)
    {fa : Addr} {fd : FuncData} (F : Fun K "law" "law" s_law fa fd) : FnOk P w K mg base CX0 17 fa fd ["_law_script"] (spLaw K) := by
  have NT := ok_told (P := P) (w := w) (base := base) T F_names_told 5
  have NO := ok_names (P := P) (w := w) (base := base) T F_names_of NT 4
  have RE := ok_reck (P := P) (w := w) (base := base) T F_reckoned 4
  have WR := ok_row (P := P) (w := w) (base := base) T W XD HR HL RE 4
  have RA := ok_ran (P := P) (w := w) (base := base) (DC := DC) T W F_ran (ok_init T W HI) NO WR
  have N := fun n => ok_next (P := P) (w := w) (base := base) n T F__law_next
  have R := fun n => ok_lapRow (P := P) (w := w) (base := base) T n F__law_lap F__law_row (N n) (ok_part T n F__law_part (N n) 3) (ok_meas T n F__law_measure (N n)) (ok_grow T n F__law_grow (N n)) 3
  have VA := ok_value (P := P) (w := w) (base := base) T F__law_value 4
  have WD := ok_walkD (P := P) (w := w) (base := base) T F__law_walk F__law_turns VA 4
  have RD := ok_ranD (P := P) (w := w) (base := base) T F__law_ran (ok_ins T F__law_in_part F__law_all_names 12).2 WD
  exact ok_law T N (fun n => ok_names7 T n F__law_names (N n)) (fun n => ok_prog T n F__law_program (R n)) (fun n => ok_inputs T n F__law_inputs (N n)) RD RA (ok_isDry T L F__law_is_dry RA) F
end
end Lf
namespace Lf
open PySem PySem.Spec PyProof.Rows L2
theorem exm_self {K : PySem.W.Frag} {S : Addr} (h1 : PySem.W.subIn K (.ref S) (.type "BaseException") = some true) (h2 : PySem.W.isClsIn K S = true) (h3 : PySem.W.typeIn K (.ref S) = some (.type "type")) (h4 : PySem.W.subIn K (.ref S) (.ref S) = some true) :
    PySem.W.exmOne K (.ref S) (.ref S) = some true := by
  have e1 : (PySem.W.subIn K (.ref S) (.type "BaseException") == some true) = true := by rw [h1] <;> rfl
  have e2 : ((PySem.W.clsIn K S).isSome && PySem.W.typeIn K (.ref S) == some (.type "type")) = true := by
    have h2' : (PySem.W.clsIn K S).isSome = true := h2
    rw [h2', h3] <;> rfl
  show (if (PySem.W.subIn K (.ref S) (.type "BaseException") == some true) = true then (if ((PySem.W.clsIn K S).isSome && PySem.W.typeIn K (.ref S) == some (.type "type")) = true then PySem.W.subIn K (.ref S) (.ref S) else none) else none) = some true
  rw [if_pos e1, if_pos e2]
  exact h4
theorem all_mk {l : PySem.W.OpenLaw} {w : World} {K : PySem.W.Frag} {h : Heap} {mg : Str → Option Value} {fa f0 f1 f2 f3 f4 f5 f6 f7 f8 f9 f10 f11 f12 f13 f14 f15 f16 f17 f18 f19 f20 : Addr} (X : K.In h) (G : h.Ns mainGlobals mg) (hfa : mg "law" = some (.ref fa))
    {od0 an0 : Option Addr} {sl0 : Array (Option Value)} {oc0 kV0 dc0 pm0 cd0 ct0 : Value}
    (a0 : PySem.W.nsIn K mainGlobals "names_told" = some (some (.ref f0))) (l0 : K.lookup f0 = some ⟨oc0, od0, .func (PySem.W.fnOf "names_told" "names_told" (defArgs s_names_told) (defBody s_names_told) (defScope s_names_told) .none kV0 dc0 pm0 an0 cd0 ct0), sl0⟩) (c0 : PySem.W.codeIn K cd0 "names_told" = true) (k0 : PySem.W.keepIn K (.ref f0) = true)
    {od1 an1 : Option Addr} {sl1 : Array (Option Value)} {oc1 kV1 dc1 pm1 cd1 ct1 : Value}
    (a1 : PySem.W.nsIn K mainGlobals "names_of" = some (some (.ref f1))) (l1 : K.lookup f1 = some ⟨oc1, od1, .func (PySem.W.fnOf "names_of" "names_of" (defArgs s_names_of) (defBody s_names_of) (defScope s_names_of) .none kV1 dc1 pm1 an1 cd1 ct1), sl1⟩) (c1 : PySem.W.codeIn K cd1 "names_of" = true) (k1 : PySem.W.keepIn K (.ref f1) = true)
    {od2 an2 : Option Addr} {sl2 : Array (Option Value)} {oc2 kV2 dc2 pm2 cd2 ct2 : Value}
    (a2 : PySem.W.nsIn K mainGlobals "reckoned" = some (some (.ref f2))) (l2 : K.lookup f2 = some ⟨oc2, od2, .func (PySem.W.fnOf "reckoned" "reckoned" (defArgs s_reckoned) (defBody s_reckoned) (defScope s_reckoned) .none kV2 dc2 pm2 an2 cd2 ct2), sl2⟩) (c2 : PySem.W.codeIn K cd2 "reckoned" = true) (k2 : PySem.W.keepIn K (.ref f2) = true)
    {od3 an3 : Option Addr} {sl3 : Array (Option Value)} {oc3 kV3 dc3 pm3 cd3 ct3 : Value}
    (a3 : PySem.W.nsIn K mainGlobals "ran" = some (some (.ref f3))) (l3 : K.lookup f3 = some ⟨oc3, od3, .func (PySem.W.fnOf "ran" "ran" (defArgs s_ran) (defBody s_ran) (defScope s_ran) .none kV3 dc3 pm3 an3 cd3 ct3), sl3⟩) (c3 : PySem.W.codeIn K cd3 "ran" = true) (k3 : PySem.W.keepIn K (.ref f3) = true)
    {od4 an4 : Option Addr} {sl4 : Array (Option Value)} {oc4 kV4 dc4 pm4 cd4 ct4 : Value}
    (a4 : PySem.W.nsIn K mainGlobals "_law_next" = some (some (.ref f4))) (l4 : K.lookup f4 = some ⟨oc4, od4, .func (PySem.W.fnOf "_law_next" "_law_next" (defArgs s__law_next) (defBody s__law_next) (defScope s__law_next) .none kV4 dc4 pm4 an4 cd4 ct4), sl4⟩) (c4 : PySem.W.codeIn K cd4 "_law_next" = true) (k4 : PySem.W.keepIn K (.ref f4) = true)
    {od5 an5 : Option Addr} {sl5 : Array (Option Value)} {oc5 kV5 dc5 pm5 cd5 ct5 : Value}
    (a5 : PySem.W.nsIn K mainGlobals "_law_names" = some (some (.ref f5))) (l5 : K.lookup f5 = some ⟨oc5, od5, .func (PySem.W.fnOf "_law_names" "_law_names" (defArgs s__law_names) (defBody s__law_names) (defScope s__law_names) .none kV5 dc5 pm5 an5 cd5 ct5), sl5⟩) (c5 : PySem.W.codeIn K cd5 "_law_names" = true) (k5 : PySem.W.keepIn K (.ref f5) = true)
    {od6 an6 : Option Addr} {sl6 : Array (Option Value)} {oc6 kV6 dc6 pm6 cd6 ct6 : Value}
    (a6 : PySem.W.nsIn K mainGlobals "_law_part" = some (some (.ref f6))) (l6 : K.lookup f6 = some ⟨oc6, od6, .func (PySem.W.fnOf "_law_part" "_law_part" (defArgs s__law_part) (defBody s__law_part) (defScope s__law_part) .none kV6 dc6 pm6 an6 cd6 ct6), sl6⟩) (c6 : PySem.W.codeIn K cd6 "_law_part" = true) (k6 : PySem.W.keepIn K (.ref f6) = true)
    {od7 an7 : Option Addr} {sl7 : Array (Option Value)} {oc7 kV7 dc7 pm7 cd7 ct7 : Value}
    (a7 : PySem.W.nsIn K mainGlobals "_law_measure" = some (some (.ref f7))) (l7 : K.lookup f7 = some ⟨oc7, od7, .func (PySem.W.fnOf "_law_measure" "_law_measure" (defArgs s__law_measure) (defBody s__law_measure) (defScope s__law_measure) .none kV7 dc7 pm7 an7 cd7 ct7), sl7⟩) (c7 : PySem.W.codeIn K cd7 "_law_measure" = true) (k7 : PySem.W.keepIn K (.ref f7) = true)
    {od8 an8 : Option Addr} {sl8 : Array (Option Value)} {oc8 kV8 dc8 pm8 cd8 ct8 : Value}
    (a8 : PySem.W.nsIn K mainGlobals "_law_lap" = some (some (.ref f8))) (l8 : K.lookup f8 = some ⟨oc8, od8, .func (PySem.W.fnOf "_law_lap" "_law_lap" (defArgs s__law_lap) (defBody s__law_lap) (defScope s__law_lap) .none kV8 dc8 pm8 an8 cd8 ct8), sl8⟩) (c8 : PySem.W.codeIn K cd8 "_law_lap" = true) (k8 : PySem.W.keepIn K (.ref f8) = true)
    {od9 an9 : Option Addr} {sl9 : Array (Option Value)} {oc9 kV9 dc9 pm9 cd9 ct9 : Value}
    (a9 : PySem.W.nsIn K mainGlobals "_law_grow" = some (some (.ref f9))) (l9 : K.lookup f9 = some ⟨oc9, od9, .func (PySem.W.fnOf "_law_grow" "_law_grow" (defArgs s__law_grow) (defBody s__law_grow) (defScope s__law_grow) .none kV9 dc9 pm9 an9 cd9 ct9), sl9⟩) (c9 : PySem.W.codeIn K cd9 "_law_grow" = true) (k9 : PySem.W.keepIn K (.ref f9) = true)
    {od10 an10 : Option Addr} {sl10 : Array (Option Value)} {oc10 kV10 dc10 pm10 cd10 ct10 : Value}
    (a10 : PySem.W.nsIn K mainGlobals "_law_row" = some (some (.ref f10))) (l10 : K.lookup f10 = some ⟨oc10, od10, .func (PySem.W.fnOf "_law_row" "_law_row" (defArgs s__law_row) (defBody s__law_row) (defScope s__law_row) .none kV10 dc10 pm10 an10 cd10 ct10), sl10⟩) (c10 : PySem.W.codeIn K cd10 "_law_row" = true) (k10 : PySem.W.keepIn K (.ref f10) = true)
    {od11 an11 : Option Addr} {sl11 : Array (Option Value)} {oc11 kV11 dc11 pm11 cd11 ct11 : Value}
    (a11 : PySem.W.nsIn K mainGlobals "_law_inputs" = some (some (.ref f11))) (l11 : K.lookup f11 = some ⟨oc11, od11, .func (PySem.W.fnOf "_law_inputs" "_law_inputs" (defArgs s__law_inputs) (defBody s__law_inputs) (defScope s__law_inputs) .none kV11 dc11 pm11 an11 cd11 ct11), sl11⟩) (c11 : PySem.W.codeIn K cd11 "_law_inputs" = true) (k11 : PySem.W.keepIn K (.ref f11) = true)
    {od12 an12 : Option Addr} {sl12 : Array (Option Value)} {oc12 kV12 dc12 pm12 cd12 ct12 : Value}
    (a12 : PySem.W.nsIn K mainGlobals "_law_program" = some (some (.ref f12))) (l12 : K.lookup f12 = some ⟨oc12, od12, .func (PySem.W.fnOf "_law_program" "_law_program" (defArgs s__law_program) (defBody s__law_program) (defScope s__law_program) .none kV12 dc12 pm12 an12 cd12 ct12), sl12⟩) (c12 : PySem.W.codeIn K cd12 "_law_program" = true) (k12 : PySem.W.keepIn K (.ref f12) = true)
    {od13 an13 : Option Addr} {sl13 : Array (Option Value)} {oc13 kV13 dc13 pm13 cd13 ct13 : Value}
    (a13 : PySem.W.nsIn K mainGlobals "_law_value" = some (some (.ref f13))) (l13 : K.lookup f13 = some ⟨oc13, od13, .func (PySem.W.fnOf "_law_value" "_law_value" (defArgs s__law_value) (defBody s__law_value) (defScope s__law_value) .none kV13 dc13 pm13 an13 cd13 ct13), sl13⟩) (c13 : PySem.W.codeIn K cd13 "_law_value" = true) (k13 : PySem.W.keepIn K (.ref f13) = true)
    {od14 an14 : Option Addr} {sl14 : Array (Option Value)} {oc14 kV14 dc14 pm14 cd14 ct14 : Value}
    (a14 : PySem.W.nsIn K mainGlobals "_law_walk" = some (some (.ref f14))) (l14 : K.lookup f14 = some ⟨oc14, od14, .func (PySem.W.fnOf "_law_walk" "_law_walk" (defArgs s__law_walk) (defBody s__law_walk) (defScope s__law_walk) .none kV14 dc14 pm14 an14 cd14 ct14), sl14⟩) (c14 : PySem.W.codeIn K cd14 "_law_walk" = true) (k14 : PySem.W.keepIn K (.ref f14) = true)
    {od15 an15 : Option Addr} {sl15 : Array (Option Value)} {oc15 kV15 dc15 pm15 cd15 ct15 : Value}
    (a15 : PySem.W.nsIn K mainGlobals "_law_turns" = some (some (.ref f15))) (l15 : K.lookup f15 = some ⟨oc15, od15, .func (PySem.W.fnOf "_law_turns" "_law_turns" (defArgs s__law_turns) (defBody s__law_turns) (defScope s__law_turns) .none kV15 dc15 pm15 an15 cd15 ct15), sl15⟩) (c15 : PySem.W.codeIn K cd15 "_law_turns" = true) (k15 : PySem.W.keepIn K (.ref f15) = true)
    {od16 an16 : Option Addr} {sl16 : Array (Option Value)} {oc16 kV16 dc16 pm16 cd16 ct16 : Value}
    (a16 : PySem.W.nsIn K mainGlobals "_law_all_names" = some (some (.ref f16))) (l16 : K.lookup f16 = some ⟨oc16, od16, .func (PySem.W.fnOf "_law_all_names" "_law_all_names" (defArgs s__law_all_names) (defBody s__law_all_names) (defScope s__law_all_names) .none kV16 dc16 pm16 an16 cd16 ct16), sl16⟩) (c16 : PySem.W.codeIn K cd16 "_law_all_names" = true) (k16 : PySem.W.keepIn K (.ref f16) = true)
    {od17 an17 : Option Addr} {sl17 : Array (Option Value)} {oc17 kV17 dc17 pm17 cd17 ct17 : Value}
    (a17 : PySem.W.nsIn K mainGlobals "_law_in_part" = some (some (.ref f17))) (l17 : K.lookup f17 = some ⟨oc17, od17, .func (PySem.W.fnOf "_law_in_part" "_law_in_part" (defArgs s__law_in_part) (defBody s__law_in_part) (defScope s__law_in_part) .none kV17 dc17 pm17 an17 cd17 ct17), sl17⟩) (c17 : PySem.W.codeIn K cd17 "_law_in_part" = true) (k17 : PySem.W.keepIn K (.ref f17) = true)
    {od18 an18 : Option Addr} {sl18 : Array (Option Value)} {oc18 kV18 dc18 pm18 cd18 ct18 : Value}
    (a18 : PySem.W.nsIn K mainGlobals "_law_ran" = some (some (.ref f18))) (l18 : K.lookup f18 = some ⟨oc18, od18, .func (PySem.W.fnOf "_law_ran" "_law_ran" (defArgs s__law_ran) (defBody s__law_ran) (defScope s__law_ran) .none kV18 dc18 pm18 an18 cd18 ct18), sl18⟩) (c18 : PySem.W.codeIn K cd18 "_law_ran" = true) (k18 : PySem.W.keepIn K (.ref f18) = true)
    {od19 an19 : Option Addr} {sl19 : Array (Option Value)} {oc19 kV19 dc19 pm19 cd19 ct19 : Value}
    (a19 : PySem.W.nsIn K mainGlobals "_law_is_dry" = some (some (.ref f19))) (l19 : K.lookup f19 = some ⟨oc19, od19, .func (PySem.W.fnOf "_law_is_dry" "_law_is_dry" (defArgs s__law_is_dry) (defBody s__law_is_dry) (defScope s__law_is_dry) .none kV19 dc19 pm19 an19 cd19 ct19), sl19⟩) (c19 : PySem.W.codeIn K cd19 "_law_is_dry" = true) (k19 : PySem.W.keepIn K (.ref f19) = true)
    {od20 an20 : Option Addr} {sl20 : Array (Option Value)} {oc20 kV20 dc20 pm20 cd20 ct20 : Value}
    (a20 : PySem.W.nsIn K mainGlobals "law" = some (some (.ref f20))) (l20 : K.lookup f20 = some ⟨oc20, od20, .func (PySem.W.fnOf "law" "law" (defArgs s_law) (defBody s_law) (defScope s_law) .none kV20 dc20 pm20 an20 cd20 ct20), sl20⟩) (c20 : PySem.W.codeIn K cd20 "law" = true) (k20 : PySem.W.keepIn K (.ref f20) = true)
    {K0 : Addr} (wg0 : PySem.W.nsIn K mainGlobals "Walk" = some (some (.ref K0)))
    {fm0_0 : Addr}
    {odm0_0 anm0_0 : Option Addr} {slm0_0 : Array (Option Value)} {ocm0_0 kVm0_0 dcm0_0 pmm0_0 cdm0_0 ctm0_0 : Value}
    (am0_0 : PySem.W.findIn K (.ref K0) "__init__" = some (some (.ref fm0_0))) (im0_0 : PySem.W.isFn K (.ref fm0_0) = true) (lm0_0 : K.lookup fm0_0 = some ⟨ocm0_0, odm0_0, .func (PySem.W.fnOf "__init__" "Walk.__init__" (defArgs s_Walk___init__) (defBody s_Walk___init__) (defScope s_Walk___init__) .none kVm0_0 dcm0_0 pmm0_0 anm0_0 cdm0_0 ctm0_0), slm0_0⟩) (cm0_0 : PySem.W.codeIn K cdm0_0 "Walk.__init__" = true) (km0_0 : PySem.W.keepIn K (.ref fm0_0) = true)
    {fm0_1 : Addr}
    {odm0_1 anm0_1 : Option Addr} {slm0_1 : Array (Option Value)} {ocm0_1 kVm0_1 dcm0_1 pmm0_1 cdm0_1 ctm0_1 : Value}
    (am0_1 : PySem.W.findIn K (.ref K0) "row" = some (some (.ref fm0_1))) (im0_1 : PySem.W.isFn K (.ref fm0_1) = true) (lm0_1 : K.lookup fm0_1 = some ⟨ocm0_1, odm0_1, .func (PySem.W.fnOf "row" "Walk.row" (defArgs s_Walk_row) (defBody s_Walk_row) (defScope s_Walk_row) .none kVm0_1 dcm0_1 pmm0_1 anm0_1 cdm0_1 ctm0_1), slm0_1⟩) (cm0_1 : PySem.W.codeIn K cdm0_1 "Walk.row" = true) (km0_1 : PySem.W.keepIn K (.ref fm0_1) = true)
    {fm0_2 : Addr}
    {odm0_2 anm0_2 : Option Addr} {slm0_2 : Array (Option Value)} {ocm0_2 kVm0_2 dcm0_2 pmm0_2 cdm0_2 ctm0_2 : Value}
    (am0_2 : PySem.W.findIn K (.ref K0) "lap" = some (some (.ref fm0_2))) (im0_2 : PySem.W.isFn K (.ref fm0_2) = true) (lm0_2 : K.lookup fm0_2 = some ⟨ocm0_2, odm0_2, .func (PySem.W.fnOf "lap" "Walk.lap" (defArgs s_Walk_lap) (defBody s_Walk_lap) (defScope s_Walk_lap) .none kVm0_2 dcm0_2 pmm0_2 anm0_2 cdm0_2 ctm0_2), slm0_2⟩) (cm0_2 : PySem.W.codeIn K cdm0_2 "Walk.lap" = true) (km0_2 : PySem.W.keepIn K (.ref fm0_2) = true)
    (pg0 : PySem.W.plainGet K K0 Str.empty = true) (hd0 : PySem.W.hasDictIn K K0 = true) (po0 : PySem.W.plainOver K K0 = true) (sa0 : PySem.W.findIn K (.ref K0) "__setattr__" = some (some (.builtin "object.__setattr__"))) (mk0 : PySem.W.makesIn K K0 = true) (kc0 : PySem.W.keepIn K (.ref K0) = true)
    (n0_0 : PySem.W.findIn K (.ref K0) "names" = some none)
    (n0_1 : PySem.W.findIn K (.ref K0) "most" = some none)
    (n0_2 : PySem.W.findIn K (.ref K0) "told" = some none)
    (n0_3 : PySem.W.findIn K (.ref K0) "turns" = some none)
    (n0_4 : PySem.W.findIn K (.ref K0) "entries" = some none)
    {X0 : Addr} (xa0 : PySem.W.nsIn K mainGlobals "Dry" = some (some (.ref X0))) (xx0 : PySem.W.excIn K X0 [.type "ValueError", .type "Exception", .type "BaseException", .type "object"] "ValueError.__new__" = true) (xk0 : PySem.W.keepIn K (.ref X0) = true)
    (xb0 : PySem.W.subIn K (.ref X0) (.type "BaseException") = some true) (xt0 : PySem.W.typeIn K (.ref X0) = some (.type "type")) (xi0 : PySem.W.isClsIn K X0 = true) (xs0 : PySem.W.subIn K (.ref X0) (.ref X0) = some true)
    {LC BF NF UN : Addr}
    (yl : PySem.W.nsIn K mainGlobals "LapError" = some (some (.ref LC)))
    (yb : PySem.W.nsIn K mainGlobals "BadForm" = some (some (.ref BF)))
    (yn : PySem.W.nsIn K mainGlobals "NeedntFall" = some (some (.ref NF)))
    (yu : PySem.W.nsIn K mainGlobals "Uneven" = some (some (.ref UN)))
    (yls : PySem.W.subIn K (.ref LC) (.type "BaseException") = some true)
    (yld : PySem.W.hasDictIn K LC = true)
    (ylt : PySem.W.typeIn K (.ref LC) = some (.type "type"))
    (ylx : PySem.W.subIn K (.ref X0) (.ref LC) = some true)
    (ye1 : PySem.W.findIn K (.ref X0) "__getattribute__" = some (some (.builtin "BaseException.__getattribute__")))
    (ye2 : PySem.W.findIn K (.ref X0) "__getattr__" = some none)
    (ye4 : PySem.W.hasDictIn K X0 = true)
    (ye5 : PySem.W.findIn K (.ref X0) "__class__" = some (some (.builtin "object.__class__")))
    (ye6 : PySem.W.specialIn K (.builtin "object.__class__") "__get__" = some (some (.builtin "getset_descriptor.__get__")))
    (ye7 : PySem.W.takesIn K (.builtin "object.__class__") = some true)
    (ye8 : PySem.W.mroIn K X0 (.type "object") = some true)
    (yk1 : PySem.W.kitOne K (.ref X0) (.ref BF) = some false)
    (yk2 : PySem.W.kitOne K (.ref X0) (.ref NF) = some false)
    (yk3 : PySem.W.kitOne K (.ref X0) (.ref UN) = some false)
    (yk4 : PySem.W.kitOne K (.ref X0) (.ref X0) = some true)
    (yk5 : PySem.W.kitOne K (.ref X0) (.type "ValueError") = some true)
    (yzv : PySem.W.nsIn K mainGlobals "ValueError" = some none)
    (z_abs : PySem.W.nsIn K mainGlobals "abs" = some none)
    (z_len : PySem.W.nsIn K mainGlobals "len" = some none)
    (z_max : PySem.W.nsIn K mainGlobals "max" = some none)
    (z_min : PySem.W.nsIn K mainGlobals "min" = some none)
    (z_list : PySem.W.nsIn K mainGlobals "list" = some none)
    (z_range : PySem.W.nsIn K mainGlobals "range" = some none)
    (z_isinstance : PySem.W.nsIn K mainGlobals "isinstance" = some none)
    (z_tuple : PySem.W.nsIn K mainGlobals "tuple" = some none)
    (z_int : PySem.W.nsIn K mainGlobals "int" = some none)
    (z_bool : PySem.W.nsIn K mainGlobals "bool" = some none)
    (z_str : PySem.W.nsIn K mainGlobals "str" = some none)
    (z_dict : PySem.W.nsIn K mainGlobals "dict" = some none)
    (z_sorted : PySem.W.nsIn K mainGlobals "sorted" = some none)
    (z_set : PySem.W.nsIn K mainGlobals "set" = some none)
    (z_enumerate : PySem.W.nsIn K mainGlobals "enumerate" = some none)
    (z_reversed : PySem.W.nsIn K mainGlobals "reversed" = some none)
    (z_sum : PySem.W.nsIn K mainGlobals "sum" = some none)
    (z_all : PySem.W.nsIn K mainGlobals "all" = some none)
    (z_any : PySem.W.nsIn K mainGlobals "any" = some none)
    : ∃ fd : FuncData, (∀ (s : Shared) (v : Value), BindsTo s fd ⟨[v], []⟩ [("_law_script", v)]) ∧ ∀ base : Heap, K.In base → base.Ns mainGlobals mg → FnOk l.prog w K mg base CX0 17 fa fd ["_law_script"] (spLaw K) := by
  have e := hfa.symm.trans (PySem.W.mg_of X G a20)
  cases e
  have T : Blt mg := ⟨PySem.W.mg_none_of X G z_abs, PySem.W.mg_none_of X G z_len, PySem.W.mg_none_of X G z_max, PySem.W.mg_none_of X G z_min, PySem.W.mg_none_of X G z_list, PySem.W.mg_none_of X G z_range, PySem.W.mg_none_of X G z_isinstance, PySem.W.mg_none_of X G z_tuple, PySem.W.mg_none_of X G z_int, PySem.W.mg_none_of X G z_bool, PySem.W.mg_none_of X G z_str, PySem.W.mg_none_of X G z_dict, PySem.W.mg_none_of X G z_sorted, PySem.W.mg_none_of X G z_set, PySem.W.mg_none_of X G z_enumerate, PySem.W.mg_none_of X G z_reversed, PySem.W.mg_none_of X G z_sum, PySem.W.mg_none_of X G z_all, PySem.W.mg_none_of X G z_any⟩
  have F0 : Here K mg "names_told" s_names_told ["part"] := here_mk (st := s_names_told) X G a0 l0 c0 k0 (fun us hl => match us, hl with | [_], _ => rfl)
  have F1 : Here K mg "names_of" s_names_of ["row"] := here_mk (st := s_names_of) X G a1 l1 c1 k1 (fun us hl => match us, hl with | [_], _ => rfl)
  have F2 : Here K mg "reckoned" s_reckoned ["part", "names"] := here_mk (st := s_reckoned) X G a2 l2 c2 k2 (fun us hl => match us, hl with | [_, _], _ => rfl)
  have F3 : Here K mg "ran" s_ran ["program", "names", "most"] := here_mk (st := s_ran) X G a3 l3 c3 k3 (fun us hl => match us, hl with | [_, _, _], _ => rfl)
  have F4 : Here K mg "_law_next" s__law_next ["_law_h", "_law_many"] := here_mk (st := s__law_next) X G a4 l4 c4 k4 (fun us hl => match us, hl with | [_, _], _ => rfl)
  have F5 : Here K mg "_law_names" s__law_names ["_law_h"] := here_mk (st := s__law_names) X G a5 l5 c5 k5 (fun us hl => match us, hl with | [_], _ => rfl)
  have F6 : Here K mg "_law_part" s__law_part ["_law_h", "_law_some", "_law_deep"] := here_mk (st := s__law_part) X G a6 l6 c6 k6 (fun us hl => match us, hl with | [_, _, _], _ => rfl)
  have F7 : Here K mg "_law_measure" s__law_measure ["_law_h", "_law_guard", "_law_calm"] := here_mk (st := s__law_measure) X G a7 l7 c7 k7 (fun us hl => match us, hl with | [_, _, _], _ => rfl)
  have F8 : Here K mg "_law_lap" s__law_lap ["_law_h", "_law_names_here", "_law_depth", "_law_odd"] := here_mk (st := s__law_lap) X G a8 l8 c8 k8 (fun us hl => match us, hl with | [_, _, _, _], _ => rfl)
  have F9 : Here K mg "_law_grow" s__law_grow ["_law_h", "_law_low", "_law_some"] := here_mk (st := s__law_grow) X G a9 l9 c9 k9 (fun us hl => match us, hl with | [_, _, _], _ => rfl)
  have F10 : Here K mg "_law_row" s__law_row ["_law_h", "_law_names_here", "_law_depth", "_law_odd"] := here_mk (st := s__law_row) X G a10 l10 c10 k10 (fun us hl => match us, hl with | [_, _, _, _], _ => rfl)
  have F11 : Here K mg "_law_inputs" s__law_inputs ["_law_h", "_law_names_here"] := here_mk (st := s__law_inputs) X G a11 l11 c11 k11 (fun us hl => match us, hl with | [_, _], _ => rfl)
  have F12 : Here K mg "_law_program" s__law_program ["_law_h", "_law_names_here", "_law_odd"] := here_mk (st := s__law_program) X G a12 l12 c12 k12 (fun us hl => match us, hl with | [_, _, _], _ => rfl)
  have F13 : Here K mg "_law_value" s__law_value ["_law_part_here", "_law_names_here"] := here_mk (st := s__law_value) X G a13 l13 c13 k13 (fun us hl => match us, hl with | [_, _], _ => rfl)
  have F14 : Here K mg "_law_walk" s__law_walk ["_law_row_here", "_law_place", "_law_s"] := here_mk (st := s__law_walk) X G a14 l14 c14 k14 (fun us hl => match us, hl with | [_, _, _], _ => rfl)
  have F15 : Here K mg "_law_turns" s__law_turns ["_law_one", "_law_place", "_law_s"] := here_mk (st := s__law_turns) X G a15 l15 c15 k15 (fun us hl => match us, hl with | [_, _, _], _ => rfl)
  have F16 : Here K mg "_law_all_names" s__law_all_names ["_law_row_here"] := here_mk (st := s__law_all_names) X G a16 l16 c16 k16 (fun us hl => match us, hl with | [_], _ => rfl)
  have F17 : Here K mg "_law_in_part" s__law_in_part ["_law_part_here"] := here_mk (st := s__law_in_part) X G a17 l17 c17 k17 (fun us hl => match us, hl with | [_], _ => rfl)
  have F18 : Here K mg "_law_ran" s__law_ran ["_law_program_here", "_law_names_here", "_law_most"] := here_mk (st := s__law_ran) X G a18 l18 c18 k18 (fun us hl => match us, hl with | [_, _, _], _ => rfl)
  have F19 : Here K mg "_law_is_dry" s__law_is_dry ["_law_program_here", "_law_names_here", "_law_most"] := here_mk (st := s__law_is_dry) X G a19 l19 c19 k19 (fun us hl => match us, hl with | [_, _, _], _ => rfl)
  exact ⟨_, fun s v => .of_eq rfl, fun base _ _ => glue T F0 F1 F2 F3 F4 F5 F6 F7 F8 F9 F10 F11 F12 F13 F14 F15 F16 F17 F18 F19 ⟨⟨pg0, hd0, po0, sa0⟩, n0_0, n0_1, n0_2, n0_3, n0_4⟩ (hereI_mk (st := s_Walk___init__) (ps := ["self", "names", "most"]) X G wg0 mk0 kc0 am0_0 im0_0 lm0_0 cm0_0 km0_0 (fun us hl => match us, hl with | [_, _, _], _ => rfl)) (hereM_mk (st := s_Walk_row) (ps := ["self", "row", "place"]) am0_1 im0_1 lm0_1 cm0_1 km0_1 (fun us hl => match us, hl with | [_, _, _], _ => rfl)) (hereM_mk (st := s_Walk_lap) (ps := ["self", "one", "place"]) am0_2 im0_2 lm0_2 cm0_2 km0_2 (fun us hl => match us, hl with | [_, _, _], _ => rfl)) ⟨PySem.W.mg_of X G xa0, xx0, xk0, xb0, xt0, exm_self xb0 xi0 xt0 xs0⟩ ⟨PySem.W.mg_of X G yl, PySem.W.exm_ref yls yld ylt ylx, ⟨ye1, ye2, xb0, ye4, ye5, ye6, ye7, ye8⟩, PySem.W.mg_of X G yb, PySem.W.mg_of X G yn, PySem.W.mg_of X G yu, PySem.W.mg_of X G xa0, yk1, yk2, yk3, yk4, yk5, PySem.W.mg_none_of X G yzv⟩ (fun_mk (st := s_law) l20 c20 k20)⟩
end Lf
open PySem PySem.W PyProof.Rows
set_option maxRecDepth 100000 in
set_option maxHeartbeats 0 in
theorem PySem.Challenge.cw_lapfold_k07_runs_holds : PySem.Challenge.rw_lapfold_k07_runs.Holds := by
  w_on; o_law; k_head; (case hw => w_witness2)
  k_fill
  refine L2.walk_of (l := PySem.Challenge.rw_lapfold_k07_runs) (n := 63) (k := 17) (x := "_law_script") (CX := fun _ => L2.CX0) (sp := fun w => Lf.spLaw _) rfl (by decide) rfl ⟨rfl, by decide, by decide⟩ (fun w h Y => PySem.W.kIn_of Y) ?F (fun _ _ a ns hl _ hS => ⟨a, ns, rfl, hS, hl, fun _ => rfl⟩) fun _ _ _ _ _ z => z
  case F =>
    intro w mg fa h KX G hmg
    refine' Lf.all_mk KX G hmg ?a0 ?l0 ?c0 ?k0 ?a1 ?l1 ?c1 ?k1 ?a2 ?l2 ?c2 ?k2 ?a3 ?l3 ?c3 ?k3 ?a4 ?l4 ?c4 ?k4 ?a5 ?l5 ?c5 ?k5 ?a6 ?l6 ?c6 ?k6 ?a7 ?l7 ?c7 ?k7 ?a8 ?l8 ?c8 ?k8 ?a9 ?l9 ?c9 ?k9 ?a10 ?l10 ?c10 ?k10 ?a11 ?l11 ?c11 ?k11 ?a12 ?l12 ?c12 ?k12 ?a13 ?l13 ?c13 ?k13 ?a14 ?l14 ?c14 ?k14 ?a15 ?l15 ?c15 ?k15 ?a16 ?l16 ?c16 ?k16 ?a17 ?l17 ?c17 ?k17 ?a18 ?l18 ?c18 ?k18 ?a19 ?l19 ?c19 ?k19 ?a20 ?l20 ?c20 ?k20 ?wg0 ?am0_0 ?im0_0 ?lm0_0 ?cm0_0 ?km0_0 ?am0_1 ?im0_1 ?lm0_1 ?cm0_1 ?km0_1 ?am0_2 ?im0_2 ?lm0_2 ?cm0_2 ?km0_2 ?pg0 ?hd0 ?po0 ?sa0 ?mk0 ?kc0 ?n0_0 ?n0_1 ?n0_2 ?n0_3 ?n0_4 ?xa0 ?xx0 ?xk0 ?xb0 ?xt0 ?xi0 ?xs0 ?yl ?yb ?yn ?yu ?yls ?yld ?ylt ?ylx ?ye1 ?ye2 ?ye4 ?ye5 ?ye6 ?ye7 ?ye8 ?yk1 ?yk2 ?yk3 ?yk4 ?yk5 ?yzv ?z_abs ?z_len ?z_max ?z_min ?z_list ?z_range ?z_isinstance ?z_tuple ?z_int ?z_bool ?z_str ?z_dict ?z_sorted ?z_set ?z_enumerate ?z_reversed ?z_sum ?z_all ?z_any
    (case a0 => k_is)
    (case l0 => k_is)
    (case c0 => k_is)
    (case k0 => k_is)
    (case a1 => k_is)
    (case l1 => k_is)
    (case c1 => k_is)
    (case k1 => k_is)
    (case a2 => k_is)
    (case l2 => k_is)
    (case c2 => k_is)
    (case k2 => k_is)
    (case a3 => k_is)
    (case l3 => k_is)
    (case c3 => k_is)
    (case k3 => k_is)
    (case a4 => k_is)
    (case l4 => k_is)
    (case c4 => k_is)
    (case k4 => k_is)
    (case a5 => k_is)
    (case l5 => k_is)
    (case c5 => k_is)
    (case k5 => k_is)
    (case a6 => k_is)
    (case l6 => k_is)
    (case c6 => k_is)
    (case k6 => k_is)
    (case a7 => k_is)
    (case l7 => k_is)
    (case c7 => k_is)
    (case k7 => k_is)
    (case a8 => k_is)
    (case l8 => k_is)
    (case c8 => k_is)
    (case k8 => k_is)
    (case a9 => k_is)
    (case l9 => k_is)
    (case c9 => k_is)
    (case k9 => k_is)
    (case a10 => k_is)
    (case l10 => k_is)
    (case c10 => k_is)
    (case k10 => k_is)
    (case a11 => k_is)
    (case l11 => k_is)
    (case c11 => k_is)
    (case k11 => k_is)
    (case a12 => k_is)
    (case l12 => k_is)
    (case c12 => k_is)
    (case k12 => k_is)
    (case a13 => k_is)
    (case l13 => k_is)
    (case c13 => k_is)
    (case k13 => k_is)
    (case a14 => k_is)
    (case l14 => k_is)
    (case c14 => k_is)
    (case k14 => k_is)
    (case a15 => k_is)
    (case l15 => k_is)
    (case c15 => k_is)
    (case k15 => k_is)
    (case a16 => k_is)
    (case l16 => k_is)
    (case c16 => k_is)
    (case k16 => k_is)
    (case a17 => k_is)
    (case l17 => k_is)
    (case c17 => k_is)
    (case k17 => k_is)
    (case a18 => k_is)
    (case l18 => k_is)
    (case c18 => k_is)
    (case k18 => k_is)
    (case a19 => k_is)
    (case l19 => k_is)
    (case c19 => k_is)
    (case k19 => k_is)
    (case a20 => k_is)
    (case l20 => k_is)
    (case c20 => k_is)
    (case k20 => k_is)
    (case wg0 => k_is)
    (case am0_0 => k_is)
    (case im0_0 => k_is)
    (case lm0_0 => k_is)
    (case cm0_0 => k_is)
    (case km0_0 => k_is)
    (case am0_1 => k_is)
    (case im0_1 => k_is)
    (case lm0_1 => k_is)
    (case cm0_1 => k_is)
    (case km0_1 => k_is)
    (case am0_2 => k_is)
    (case im0_2 => k_is)
    (case lm0_2 => k_is)
    (case cm0_2 => k_is)
    (case km0_2 => k_is)
    (case pg0 => k_is)
    (case hd0 => k_is)
    (case po0 => k_is)
    (case sa0 => k_is)
    (case mk0 => k_is)
    (case kc0 => k_is)
    (case n0_0 => k_is)
    (case n0_1 => k_is)
    (case n0_2 => k_is)
    (case n0_3 => k_is)
    (case n0_4 => k_is)
    (case xa0 => k_is)
    (case xx0 => k_exc)
    (case xk0 => k_is)
    (case xb0 => k_is)
    (case xt0 => k_is)
    (case xi0 => k_is)
    (case xs0 => first | rfl | k_is)
    (case yl => k_is)
    (case yb => k_is)
    (case yn => k_is)
    (case yu => k_is)
    (case yls => k_is)
    (case yld => k_is)
    (case ylt => k_is)
    (case ylx => k_is)
    (case ye1 => k_is)
    (case ye2 => k_is)
    (case ye4 => k_is)
    (case ye5 => k_is)
    (case ye6 => first | k_is | rfl)
    (case ye7 => first | k_is | rfl)
    (case ye8 => k_is)
    (case yk1 => first | k_is | rfl)
    (case yk2 => first | k_is | rfl)
    (case yk3 => first | k_is | rfl)
    (case yk4 => first | k_is | rfl)
    (case yk5 => first | k_is | rfl)
    (case yzv => k_is)
    (case z_abs => k_is)
    (case z_len => k_is)
    (case z_max => k_is)
    (case z_min => k_is)
    (case z_list => k_is)
    (case z_range => k_is)
    (case z_isinstance => k_is)
    (case z_tuple => k_is)
    (case z_int => k_is)
    (case z_bool => k_is)
    (case z_str => k_is)
    (case z_dict => k_is)
    (case z_sorted => k_is)
    (case z_set => k_is)
    (case z_enumerate => k_is)
    (case z_reversed => k_is)
    (case z_sum => k_is)
    (case z_all => k_is)
    (case z_any => k_is)
#print axioms PySem.Challenge.cw_lapfold_k07_runs_holds
