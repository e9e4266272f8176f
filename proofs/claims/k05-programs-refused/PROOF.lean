import PyProof.Rows.All
import Wide.All
import OpenK.AllK
import Wide.FinOn
import HandS.ForMost
import HandS.ForExc
import HandS.Flow
import HandS.Style
import HandS.Wide
import HandS.IsInst
import HandS.TupAny
import HandS.TupMul
import HandS.NoneIn
import HandS.SetFor
import HandS.Strs
import PyProof.Rows.SortShellAny
import KE.KDictKeyed
import KE.KDictItemsList
import KE.GoesMore
import HandS.More
import KE.KEqNest
import HandS.DictComp
import HandS.ExcIs
import PySem.Challenge.RW_lapfold_k05_programs_refused
set_option Elab.async false
set_option maxRecDepth 100000
set_option maxHeartbeats 4000000
/-! Lf.base: own words over the hand layer: operators of any kind, calls by standing defs, frames, deep data. -/
namespace Lf
open PySem PySem.Spec PyProof.Rows L2
/-! ### operators, by whatever kind the values are -/
section
variable {X : Cx}
theorem opr_or {f : Value → Value → Sem Value} {r1 r2 : R2} (h1 : OpR X f r1) (h2 : OpR X f r2) : OpR X f (fun x y H Q => r1 x y H Q ∨ r2 x y H Q) := by
  intro pins s σ H x y v u Q I rx ry h
  rcases h with h | h
  · exact h1 pins s σ H x y v u Q I rx ry h
  · exact h2 pins s σ H x y v u Q I rx ry h
def rAddI : R2 := rI0 fun i j => .int (i + j)
def rAddS : R2 := fun x y H Q => ∃ i j, x = .str i ∧ y = .str j ∧ i.length + j.length ≤ sizeLine ∧ Q (.str (i ++ j)) H
def rPlus (K : PySem.W.Frag) : R2 := fun x y H Q => rAddI x y H Q ∨ rAddS x y H Q ∨ rCat x y H Q ∨ rCatA K x y H Q
theorem op_plus : OpR X (binaryOp .Add) (rPlus X.K) := opr_or op_add (opr_or op_add_str (opr_or op_cat op_catA))
def rMulS : R2 := rI CMul fun i j => .int (i * j)
def rMulW : R2 := rI CMulW fun i j => .int (i * j)
theorem op_mulS : OpR X (binaryOp .Mult) rMulS := op_mul
def rTimes (K : PySem.W.Frag) : R2 := fun x y H Q => rMulS x y H Q ∨ rMulW x y H Q ∨ rRep x y H Q ∨ rRepT K x y H Q
theorem op_timesA : OpR X (binaryOp .Mult) (rTimes X.K) := opr_or op_mul (opr_or op_mulW (opr_or op_rep op_repT))
def rEqA (K : PySem.W.Frag) : R2 := fun x y H Q => rEq x y H Q ∨ rEqD K x y H Q
def rNeA (K : PySem.W.Frag) : R2 := fun x y H Q => rNe x y H Q ∨ rNeD K x y H Q
theorem op_eqA (hu : X.A.units + 64 < cLine) : OpR X (compareOp .Eq) (rEqA X.K) := opr_or op_eq (op_eqD hu)
theorem op_neA (hu : X.A.units + 64 < cLine) : OpR X (compareOp .NotEq) (rNeA X.K) := opr_or op_ne (op_neD hu)
def rLenA (K : PySem.W.Frag) : List V → Hp → VK → Prop := fun xs H Q => ∃ x n, xs = [x] ∧ LenV K x H n ∧ Q (.int n) H
theorem call_lenA : CallR X (.builtin "len") (rLenA X.K) := call_len
def rAbs : List V → Hp → VK → Prop := fun xs H Q => ∃ i, xs = [.int i] ∧ Q (.int (if i < 0 then -i else i)) H
theorem call_absA : CallR X (.builtin "abs") rAbs := call_abs
def rMax2 : List V → Hp → VK → Prop := fun xs H Q => ∃ i j, xs = [.int i, .int j] ∧ Q (.int (if j > i then j else i)) H
theorem call_max2A (hc : X.calm = true) : CallR X (.builtin "max") rMax2 := call_max2 hc
theorem call_isiA : CallR X (.builtin "isinstance") (rIsi X.K) := call_isi
def rTupleOf (K : PySem.W.Frag) : List V → Hp → VK → Prop := fun xs H Q => ∃ p ys, xs = [.ref p] ∧ ((SqL K H p ys ∧ ∀ l, H l = none → Q (.ref l) (upd H l (.tup ys))) ∨ (SqT K H p ys ∧ Q (.ref p) H))
theorem call_tupleA : CallR X (.type "tuple") (rTupleOf X.K) := call_tuple_of
def rIntC : List V → Hp → VK → Prop := fun xs H Q => (∃ i, xs = [.int i] ∧ Q (.int i) H) ∨ ∃ k, xs = [.bl k] ∧ Q (.int (if k then 1 else 0)) H
theorem call_intA : CallR X (.type "int") rIntC := call_int1
def rListOf (K : PySem.W.Frag) : List V → Hp → VK → Prop := fun xs H Q => ∃ p ys, xs = [.ref p] ∧ (SqL K H p ys ∨ SqT K H p ys) ∧ ∀ l, H l = none → Q (.ref l) (upd H l (.lst ys))
theorem call_listA : CallR X (.type "list") (rListOf X.K) := call_list_of
end
section
variable {X : Cx}
theorem pe_tyN {x : Str} {p : Pos} {n : String} (hg : Gl X x) (hm : X.mg x = none) (hv : bootBuiltins x = some (.type n)) (hn : x ≠ "__name__" := by decide) (hdb : (x == ("__debug__" : Str)) = false := by decide) : PE X (.Name x p) (tC (.ty n)) :=
  pe_bltn (v := .ty n) hg hm hv rfl hn hdb
end
/-! ### frames: all that stood stands, but for what lies at M -/
def Fr (M : List Addr) (H H' : Hp) : Prop := ∀ b o, H b = some o → b ∉ M → H' b = some o
section
variable {M N : List Addr} {H H1 H2 : Hp} {a b p q : Addr} {o u : HO} {K : PySem.W.Frag} {xs : List V}
theorem Fr.refl (M : List Addr) (H : Hp) : Fr M H H := fun _ _ h _ => h
theorem Fr.trans (h1 : Fr M H H1) (h2 : Fr M H1 H2) : Fr M H H2 := fun b o h n => h2 b o (h1 b o h n) n
theorem Fr.wk (h : Fr N H H1) (s : ∀ a, a ∈ N → a ∈ M) : Fr M H H1 := fun b o e n => h b o e fun z => n (s b z)
theorem Fr.nil (h : Fr [] H H1) : Fr M H H1 := h.wk fun _ z => absurd z (by simp)
theorem Fr.of_same (h : Same H H1) : Fr M H H1 := fun b o e _ => h b o e
theorem Fr.same (h : Fr [] H H1) : Same H H1 := fun b o e => h b o e (by simp)
theorem Fr.new (h : Fr M H H1) (e : H1 p = none) : Fr M H (upd H1 p o) := fun b u q n => by
  have z := h b u q n
  rw [upd_ne (ne_of_none z e)]; exact z
theorem Fr.put (h : Fr M H H1) (e : p ∈ M) : Fr M H (upd H1 p o) := fun b u q n => by
  have z := h b u q n
  have c : b ≠ p := by intro c; subst c; exact n e
  rw [upd_ne c]; exact z
/-- a place that was free at H may change -/
theorem Fr.mut (h : Fr M H H1) (e : H p = none) : Fr M H (upd H1 p o) := fun b u q n => by
  rw [upd_ne (ne_of_none q e)]; exact h b u q n
/-- places that were free at H are forgotten -/
theorem Fr.drop (h : Fr (p :: M) H H1) (e : H p = none) : Fr M H H1 := fun b u q n => h b u q (by
  intro z
  rcases List.mem_cons.mp z with z | z
  · exact ne_of_none q e z
  · exact n z)
theorem Fr.free (h : Fr [] H H1) (e : H1 p = none) : H p = none := h.same.free e
theorem Fr.freeM (h : Fr M H H1) (e : H1 p = none) (hp : p ∉ M) : H p = none := by
  cases q : H p with
  | none => rfl
  | some o => rw [h p o q hp] at e; cases e
/-- then places that were free at H change -/
theorem Fr.then (h : Fr M H H1) (g : Fr N H1 H2) (e : ∀ a ∈ N, H a = none) : Fr M H H2 := fun b o q n => g b o (h b o q n) fun z => ne_of_none q (e b z) rfl
theorem Fr.then1 (h : Fr M H H1) (g : Fr [p] H1 H2) (e : H p = none) : Fr M H H2 := h.then g (by simpa using e)
theorem Fr.at (h : Fr M H H1) (e : H p = some o) (hp : p ∉ M := by simp) : H1 p = some o := h p o e hp
theorem Fr.at2 {h c : Addr} (f : Fr [h, c] H H1) (e : H p = some o) (n1 : p ≠ h) (n2 : p ≠ c) : H1 p = some o := f.at e (by simp [n1, n2])
theorem Fr.at1 {h : Addr} (f : Fr [h] H H1) (e : H p = some o) (n1 : p ≠ h) : H1 p = some o := f.at e (by simp [n1])
/-- the changed places are lists, not tuples: tuples stay -/
def Lists (M : List Addr) (H : Hp) : Prop := ∀ a ∈ M, ∃ xs, H a = some (.lst xs)
theorem Fr.tup (h : Fr M H H1) (l : ∀ a ∈ M, ∀ xs o, H a ≠ some (.tup xs) ∧ H a ≠ some (.frz o (.tup xs))) (s : SqT K H a xs) : SqT K H1 a xs := by
  rcases s with (s | ⟨o, s⟩) | s
  · exact .inl (.inl (h _ _ s fun z => (l a z xs (⟨.none, none, .seq #[] 0, #[]⟩)).1 s))
  · exact .inl (.inr ⟨o, h _ _ s fun z => (l a z xs o).2 s⟩)
  · exact .inr s
theorem Fr.tup0 (h : Fr [] H H1) (s : SqT K H a xs) : SqT K H1 a xs := h.tup (fun _ z => absurd z (by simp)) s
theorem Fr.seq0 (h : Fr [] H H1) (s : SqL K H a xs) : SqL K H1 a xs := h.same.seq s
end
/-! ### the built-ins' names are the built-ins' -/
structure Blt (mg : Str → Option Value) : Prop where
  n_abs : mg "abs" = none
  n_len : mg "len" = none
  n_max : mg "max" = none
  n_min : mg "min" = none
  n_list : mg "list" = none
  n_range : mg "range" = none
  n_isinstance : mg "isinstance" = none
  n_tuple : mg "tuple" = none
  n_int : mg "int" = none
  n_bool : mg "bool" = none
  n_str : mg "str" = none
  n_dict : mg "dict" = none
  n_sorted : mg "sorted" = none
  n_set : mg "set" = none
  n_enumerate : mg "enumerate" = none
  n_reversed : mg "reversed" = none
  n_sum : mg "sum" = none
  n_all : mg "all" = none
  n_any : mg "any" = none
/-! ### defs that stand, by their promise -/
structure DefOk (P : Program) (w : World) (K : PySem.W.Frag) (mg : Str → Option Value) (base : Heap) (CX : CXT) (x : Str) (ps : List Str) (k : Nat) (sp : Sp) : Prop where
  ex : ∃ (f : Addr) (fd : FuncData), FnOk P w K mg base CX k f fd ps sp ∧ PySem.W.keepIn K (.ref f) = true ∧ Binds K fd ps [] ∧ mg x = some (.ref f)
section
variable {X : Cx} {CX : CXT} {k : Nat} {ps : List Str} {sp : Sp} {E : XK} {x : Str} {p pos : Pos} {e : Expr} {es : List Expr} {t : TA}
theorem pe_callD (F : DefOk X.prog X.w X.K X.mg X.base CX x ps k sp) (hr : Room k X.A) (hx : Passes CX X E) (ha : PA X (e :: es) t) (hg : Gl X x := by rfl) (hdb : (x == ("__debug__" : Str)) = false := by decide)
    (he : starEach (e :: es) X.env = (false, eval e X.env) :: starEach es X.env := by rfl) (hpl : (backTo pos (starEach es X.env)).any (·.1) = false := by rfl) : PE X (.Call (.Name x p) (e :: es) [] pos) (tCall sp [] E t) := by
  obtain ⟨f, fd, F, hk, hb, hm⟩ := F.ex
  exact pe_call F hr hg hm hk hb .nil hx ha hdb he hpl
theorem pe_callD0 (F : DefOk X.prog X.w X.K X.mg X.base CX x ps k sp) (hr : Room k X.A) (hx : Passes CX X E) (hg : Gl X x := by rfl) (hdb : (x == ("__debug__" : Str)) = false := by decide) : PE X (.Call (.Name x p) [] [] pos) (tCall sp [] E tNil) := by
  obtain ⟨f, fd, F, hk, hb, hm⟩ := F.ex
  exact pe_call0 F hr hg hm hk hb .nil hx hdb
end
/-- the def st stands at the name x -/
structure Here (K : PySem.W.Frag) (mg : Str → Option Value) (x : Str) (st : Stmt) (ps : List Str) : Prop where
  ex : ∃ (f : Addr) (fd : FuncData), Fun K x x st f fd ∧ mg x = some (.ref f) ∧ Binds K fd ps []
section
variable {P : Program} {w : World} {K : PySem.W.Frag} {mg : Str → Option Value} {base : Heap}
theorem Here.ok {x : Str} {st : Stmt} {N ps : List Str} {k : Nat} {sp : Sp} (F : Here K mg x st ps) (S : FnScope N ps (defScope st)) (len : ∀ vs H Q E, sp vs H Q E → vs.length = ps.length)
    (hbody : ∀ (f : Addr) (cdv : Value) (A : Around) (outer : List Env) (s : Shared) (H : Hp) (vs : List V) (Q : VK) (E : XK), Room k (A.deeper (envOfC x (defScope st) s.heap.objs.size f cdv)) → sp vs H Q E →
      ∃ t, PSs (cxOf CX0 P w K mg base N x (defScope st) f cdv A outer s H E).nox (defBody st) t ∧ t { nx := fun _ H' => Q .non H', rt := Q } (start N vs) H) : DefOk P w K mg base CX0 x ps (k + 1) sp := by
  obtain ⟨f, fd, F, hm, hb⟩ := F.ex
  exact ⟨f, fd, F.ok S len (hbody f), F.kp, hb, hm⟩
theorem DefOk.mono {CX : CXT} {x : Str} {ps : List Str} {j k : Nat} {sp : Sp} (F : DefOk P w K mg base CX x ps j sp) (h : j ≤ k) : DefOk P w K mg base CX x ps k sp := by
  obtain ⟨f, fd, F, r⟩ := F.ex
  exact ⟨f, fd, F.mono h, r⟩
theorem DefOk.imp {CX : CXT} {x : Str} {ps : List Str} {k : Nat} {sp sp' : Sp} (F : DefOk P w K mg base CX x ps k sp) (h : ∀ vs H Q E, sp' vs H Q E → sp vs H Q E) : DefOk P w K mg base CX x ps k sp' := by
  obtain ⟨f, fd, F, r⟩ := F.ex
  exact ⟨f, fd, F.imp h, r⟩
theorem here_mk {h : Heap} {x : Str} {st : Stmt} {ps : List Str} {f : Addr} {oc : Value} {od an : Option Addr} {osl : Array (Option Value)} {kV doc pm cdv ct : Value} (X : K.In h) (G : h.Ns mainGlobals mg)
    (a : PySem.W.nsIn K mainGlobals x = some (some (.ref f)))
    (l : K.lookup f = some ⟨oc, od, .func (PySem.W.fnOf x x (defArgs st) (defBody st) (defScope st) .none kV doc pm an cdv ct), osl⟩)
    (c : PySem.W.codeIn K cdv x = true) (k : PySem.W.keepIn K (.ref f) = true)
    (hb : ∀ (us : List Value), us.length = ps.length → bindArgs (PySem.W.fnOf x x (defArgs st) (defBody st) (defScope st) .none kV doc pm an cdv ct) ⟨us, []⟩ = pure (ps.zip us)) : Here K mg x st ps :=
  ⟨f, _, fun_mk (st := st) l c k, PySem.W.mg_of X G a, Binds.all hb⟩
end
/-! ### deep data that never changes -/
inductive D where
  | non | bl (b : Bool) | int (i : Int) | str (x : Str) | tup (ds : List D)
mutual
def Rp (K : PySem.W.Frag) (H : Hp) : D → V → Prop
  | .non, v => v = .non
  | .bl b, v => v = .bl b
  | .int i, v => v = .int i
  | .str x, v => v = .str x
  | .tup ds, v => ∃ a vs, v = .ref a ∧ SqT K H a vs ∧ RpL K H ds vs
def RpL (K : PySem.W.Frag) (H : Hp) : List D → List V → Prop
  | [], vs => vs = []
  | d :: ds, vs => ∃ v r, vs = v :: r ∧ Rp K H d v ∧ RpL K H ds r
end
/-- tuples stay -/
def Kp (H H' : Hp) : Prop := ∀ a xs, Rd H a (.tup xs) → Rd H' a (.tup xs)
section
variable {M : List Addr} {H H1 H2 : Hp} {a p q : Addr} {K : PySem.W.Frag} {xs : List V} {o : HO}
theorem Kp.refl (H : Hp) : Kp H H := fun _ _ h => h
theorem Kp.trans (h : Kp H H1) (g : Kp H1 H2) : Kp H H2 := fun a xs s => g a xs (h a xs s)
theorem Kp.sq (h : Kp H H1) (s : SqT K H a xs) : SqT K H1 a xs := by
  rcases s with s | s
  · exact .inl (h _ _ s)
  · exact .inr s
theorem Fr.kp0 (h : Fr [] H H1) : Kp H H1 := fun _ _ s => by
  rcases s with s | ⟨o, s⟩
  · exact .inl (h.at s)
  · exact .inr ⟨o, h.at s⟩
theorem Fr.kpL (h : Fr [p] H H1) (e : H p = some (.lst xs)) : Kp H H1 := fun a ys s => by
  rcases s with s | ⟨o, s⟩
  · exact .inl (h.at s (by simp; rintro rfl; rw [e] at s; cases s))
  · exact .inr ⟨o, h.at s (by simp; rintro rfl; rw [e] at s; cases s)⟩
theorem Fr.kpL2 {ys : List V} (h : Fr [p, q] H H1) (e : H p = some (.lst xs)) (e2 : H q = some (.lst ys)) : Kp H H1 := fun a ys s => by
  rcases s with s | ⟨o, s⟩
  · exact .inl (h.at s (by simp; constructor <;> (rintro rfl; simp_all)))
  · exact .inr ⟨o, h.at s (by simp; constructor <;> (rintro rfl; simp_all))⟩
theorem Same.kp (h : Same H H1) : Kp H H1 := (Fr.of_same (M := []) h).kp0
mutual
theorem Rp.mono (k : Kp H H1) : ∀ {d : D} {v : V}, Rp K H d v → Rp K H1 d v
  | .non, _, h => h
  | .bl _, _, h => h
  | .int _, _, h => h
  | .str _, _, h => h
  | .tup _, _, ⟨a, vs, e, s, r⟩ => ⟨a, vs, e, k.sq s, RpL.mono k r⟩
theorem RpL.mono (k : Kp H H1) : ∀ {ds : List D} {vs : List V}, RpL K H ds vs → RpL K H1 ds vs
  | [], _, h => h
  | _ :: _, _, ⟨v, r, e, h, t⟩ => ⟨v, r, e, Rp.mono k h, RpL.mono k t⟩
end
theorem RpL.length : ∀ {ds : List D} {vs : List V}, RpL K H ds vs → vs.length = ds.length
  | [], _, h => by cases h; rfl
  | _ :: _, _, ⟨_, r, e, _, t⟩ => by cases e; simp [RpL.length t]
end
end Lf
namespace Lf
open PySem PySem.Spec PyProof.Rows L2
/-! ### readings, step by step: each rule keeps what follows as one function -/
section
variable {K : PySem.W.Frag} {σ : L2.St} {H H1 : Hp} {Q : VK} {R : Bool → Hp → Prop} {S : L2.St → Hp → Prop} {L : List V → Hp → Prop} {ta tb tc te : TE} {tt tu : TT} {v x y : V} {a b p : Addr} {D : Ends} {xs ys : List V} {t u : TS} {i j : Int} {tr : TA}
def IsB (x : V) (H : Hp) (R : Bool → Hp → Prop) : Prop := ∃ k, x = .bl k ∧ R k H
def AndB (x : V) (te : TE) (σ : L2.St) (H : Hp) (Q : VK) : Prop := ∃ c, x = .bl c ∧ if c = true then te σ H Q else Q (.bl false) H
def OrB (x : V) (te : TE) (σ : L2.St) (H : Hp) (Q : VK) : Prop := ∃ c, x = .bl c ∧ if c = true then Q (.bl true) H else te σ H Q
def NotB (x : V) (H : Hp) (Q : VK) : Prop := ∃ c, x = .bl c ∧ Q (.bl (!c)) H
def NewT (xs : List V) (H : Hp) (Q : VK) : Prop := xs.length ≤ sizeLine ∧ ∀ p, H p = none → Q (.ref p) (upd H p (.tup xs))
def NewL (xs : List V) (H : Hp) (Q : VK) : Prop := xs.length ≤ sizeLine ∧ ∀ p, H p = none → Q (.ref p) (upd H p (.lst xs))
def Two (k l : Nat) (vs : List V) (σ : L2.St) (H : Hp) (S : L2.St → Hp → Prop) : Prop := ∃ v w, vs = [v, w] ∧ S ((σ.set k (some v)).set l (some w)) H
theorem rd_var {k : Nat} (h : σ[k]? = some (some v)) (q : Q v H) : tVar k σ H Q := ⟨v, h, q⟩
theorem rd_c (q : Q v H) : tC v σ H Q := q
theorem rd_op {r : R2} (q : ta σ H fun x H1 => tb σ H1 fun y H2 => r x y H2 Q) : tOp r ta tb σ H Q := q
theorem rd_un {r : V → Hp → VK → Prop} (q : ta σ H fun x H1 => r x H1 Q) : tUn r ta σ H Q := q
theorem rd_test (q : te σ H fun x H' => IsB x H' R) : tTest te σ H R := q
theorem rd_b (q : te σ H fun x H' => IsB x H' R) : tB te σ H R := q
theorem rd_isb {c : Bool} (q : R c H) : IsB (.bl c) H R := ⟨c, rfl, q⟩
theorem rd_and (q : tt σ H fun c H1 => if c = true then tu σ H1 R else R false H1) : tAnd tt tu σ H R := q
theorem rd_or (q : tt σ H fun c H1 => if c = true then R true H1 else tu σ H1 R) : tOr tt tu σ H R := q
theorem rd_not (q : tt σ H fun c H1 => R (!c) H1) : tNot tt σ H R := q
theorem rd_andV (q : ta σ H fun x H1 => AndB x tb σ H1 Q) : tAndV ta tb σ H Q := q
theorem rd_orV (q : ta σ H fun x H1 => OrB x tb σ H1 Q) : tOrV ta tb σ H Q := q
theorem rd_andb {c : Bool} (q : if c = true then te σ H Q else Q (.bl false) H) : AndB (.bl c) te σ H Q := ⟨c, rfl, q⟩
theorem rd_orb {c : Bool} (q : if c = true then Q (.bl true) H else te σ H Q) : OrB (.bl c) te σ H Q := ⟨c, rfl, q⟩
theorem rd_notV (q : ta σ H fun x H1 => NotB x H1 Q) : tNotV ta σ H Q := q
theorem rd_notb {c : Bool} (q : Q (.bl (!c)) H) : NotB (.bl c) H Q := ⟨c, rfl, q⟩
theorem rd_ife (q : tt σ H fun c H1 => if c = true then ta σ H1 Q else tb σ H1 Q) : tIf tt ta tb σ H Q := q
theorem rd_seq (q : t { D with nx := u D } σ H) : tSeq t u D σ H := q
theorem rd_seqc (h : ∀ N : L2.St → Hp → Prop, (∀ σ H, u D σ H → N σ H) → t { D with nx := N } σ H) : tSeq t u D σ H := h (u D) fun _ _ x => x
theorem rd_drop (q : te σ H fun _ H1 => D.nx σ H1) : tDrop te D σ H := q
theorem rd_ret (q : te σ H D.rt) : tRet te D σ H := q
theorem rd_retN (q : D.rt .non H) : tRetN D σ H := q
theorem rd_next (q : D.nx σ H) : tNext D σ H := q
theorem rd_break (q : D.bk σ H) : tBreak D σ H := q
theorem rd_cont (q : D.ct σ H) : tCont D σ H := q
theorem rd_if (q : tt σ H fun b H1 => if b = true then t D σ H1 else u D σ H1) : tIfS tt t u D σ H := q
theorem rd_asg {g : TG} (q : te σ H fun x H1 => g x σ H1 D.nx) : tAsg te g D σ H := q
theorem rd_gname {k : Nat} (q : S (σ.set k (some v)) H) : gName k v σ H S := q
theorem rd_gtup {n : Nat} {g : TGs} (h : SqT K H a xs) (hl : xs.length = n) (q : g xs σ H S) : gTup K n g (.ref a) σ H S := ⟨a, xs, rfl, h, hl, q⟩
theorem rd_gnil (q : S σ H) : gNil [] σ H S := ⟨rfl, q⟩
theorem rd_gcons {g : TG} {gs : TGs} (q : g v σ H fun σ' H' => gs xs σ' H' S) : gCons g gs (v :: xs) σ H S := ⟨v, xs, rfl, q⟩
theorem rd_gsub {to ti : TE} {ts : TSet} (q : to σ H fun o H1 => ti σ H1 fun i H2 => ts o i v H2 fun H3 => S σ H3) : gSub to ti ts v σ H S := q
theorem rd_par {k l : Nat} (q : tr σ H fun vs H1 => Two k l vs σ H1 D.nx) : tPar k l tr D σ H := q
theorem rd_two {k l : Nat} (q : S ((σ.set k (some x)).set l (some y)) H) : Two k l [x, y] σ H S := ⟨x, y, rfl, q⟩
theorem rd_nil (q : L [] H) : tNil σ H L := q
theorem rd_cons (q : ta σ H fun x H1 => tr σ H1 fun xs H2 => L (x :: xs) H2) : tCons ta tr σ H L := q
theorem rd_cb {r : List V → Hp → VK → Prop} (q : tr σ H fun vs H1 => r vs H1 Q) : tCB r tr σ H Q := q
theorem rd_call {sp : Sp} {E : XK} (q : tr σ H fun vs H1 => sp (vs ++ []) H1 Q E) : tCall sp [] E tr σ H Q := q
theorem rd_tup (q : tr σ H fun xs H1 => NewT xs H1 Q) : tTup tr σ H Q := q
theorem rd_lst (q : tr σ H fun xs H1 => NewL xs H1 Q) : tLst tr σ H Q := q
theorem rd_newT (hl : xs.length ≤ 1000) (q : ∀ p H2, H p = none → Fr [] H H2 → H2 p = some (.tup xs) → Q (.ref p) H2) : NewT xs H Q :=
  ⟨Nat.le_of_lt (small1000 hl), fun p hp => q p _ hp ((Fr.refl [] H).new hp) upd_same⟩
theorem rd_newL (hl : xs.length ≤ 1000) (q : ∀ p H2, H p = none → Fr [] H H2 → H2 p = some (.lst xs) → Q (.ref p) H2) : NewL xs H Q :=
  ⟨Nat.le_of_lt (small1000 hl), fun p hp => q p _ hp ((Fr.refl [] H).new hp) upd_same⟩
/-! operators by values -/
theorem rd_I0 {g : Int → Int → V} (q : Q (g i j) H) : rI0 g (.int i) (.int j) H Q := ⟨i, j, rfl, rfl, q⟩
theorem rd_I {C : Int → Int → Prop} {g : Int → Int → V} (c : C i j) (q : Q (g i j) H) : rI C g (.int i) (.int j) H Q := ⟨i, j, rfl, rfl, c, q⟩
theorem rd_plusI (q : Q (.int (i + j)) H) : rPlus K (.int i) (.int j) H Q := .inl ⟨i, j, rfl, rfl, q⟩
theorem rd_plusS {s z : Str} (h : s.length + z.length ≤ sizeLine) (q : Q (.str (s ++ z)) H) : rPlus K (.str s) (.str z) H Q := .inr (.inl ⟨s, z, rfl, rfl, h, q⟩)
theorem rd_plusL (ha : H a = some (.lst xs)) (hb : H b = some (.lst ys)) (h : xs.length + ys.length ≤ sizeLine) (q : ∀ p H2, H p = none → Fr [] H H2 → H2 p = some (.lst (xs ++ ys)) → Q (.ref p) H2) : rPlus K (.ref a) (.ref b) H Q :=
  .inr (.inr (.inl ⟨a, b, xs, ys, rfl, rfl, ha, hb, h, fun p hp => q p _ hp ((Fr.refl [] H).new hp) upd_same⟩))
theorem rd_plusT (ha : SqT K H a xs) (hb : SqT K H b ys) (h : xs.length + ys.length ≤ sizeLine) (q : ∀ p H2, Fr [] H H2 → SqT K H2 p (xs ++ ys) → Q (.ref p) H2) : rPlus K (.ref a) (.ref b) H Q :=
  .inr (.inr (.inr ⟨a, b, xs, ys, rfl, rfl, ha, hb, h, fun e => q b H (Fr.refl _ _) (by subst e; exact hb), fun _ e => q a H (Fr.refl _ _) (by subst e; rw [List.append_nil]; exact ha), fun _ _ p hp => q p _ ((Fr.refl [] H).new hp) (SqT.of upd_same)⟩))
theorem rd_mulL (h : -(2 ^ 64) < i ∧ i < 2 ^ 64) (q : Q (.int (i * j)) H) : rTimes K (.int i) (.int j) H Q := .inl ⟨i, j, rfl, rfl, .inl h, q⟩
theorem rd_mulR (h : -(2 ^ 64) < j ∧ j < 2 ^ 64) (q : Q (.int (i * j)) H) : rTimes K (.int i) (.int j) H Q := .inl ⟨i, j, rfl, rfl, .inr h, q⟩
theorem rd_mulW (m n : Nat) (hi : i.natAbs < 2 ^ m) (hj : j.natAbs < 2 ^ n) (h : m + n ≤ 900000) (q : Q (.int (i * j)) H) : rTimes K (.int i) (.int j) H Q :=
  .inr (.inl ⟨i, j, rfl, rfl, wide_mul (a := m + 1) (b := n + 1) (Nat.lt_of_lt_of_le hi (Nat.pow_le_pow_right (by decide) (Nat.le_succ _))) (Nat.lt_of_lt_of_le hj (Nat.pow_le_pow_right (by decide) (Nat.le_succ _))) (Nat.succ_pos _) (Nat.succ_pos _) (by omega), q⟩)
theorem rd_eqS (h : scal x y = true) (q : Q (.bl (decide (x = y))) H) : rEqA K x y H Q := .inl ⟨h, q⟩
theorem rd_neS (h : scal x y = true) (q : Q (.bl (!decide (x = y))) H) : rNeA K x y H Q := .inl ⟨h, q⟩
theorem rd_eqD {d e : PyData} (h1 : Dp K H x d) (h2 : Dp K H y e) (s1 : SeqAt.shaped d = true) (s2 : SeqAt.shaped e = true) (q : Q (.bl (PyData.eqv d e)) H) : rEqA K x y H Q := .inr ⟨d, e, h1, h2, s1, s2, q⟩
theorem rd_neD {d e : PyData} (h1 : Dp K H x d) (h2 : Dp K H y e) (s1 : SeqAt.shaped d = true) (s2 : SeqAt.shaped e = true) (q : Q (.bl (!PyData.eqv d e)) H) : rNeA K x y H Q := .inr ⟨d, e, h1, h2, s1, s2, q⟩
theorem rd_ixT (h : SqT K H p xs) (ha : atI xs i = some v) (q : Q v H) : rIx K (.ref p) (.int i) H Q := .inr (.inl ⟨p, xs, i, v, rfl, rfl, h, ha, q⟩)
theorem rd_ixK {H0 : Hp} (h : SqT K H0 p xs) (k : Kp H0 H) (ha : atI xs i = some v) (q : Q v H) : rIx K (.ref p) (.int i) H Q := rd_ixT (k.sq h) ha q
theorem rd_lenK {H0 : Hp} (h : SqT K H0 p xs) (k : Kp H0 H) (q : Q (.int xs.length) H) : rLenA K [.ref p] H Q := ⟨_, _, rfl, .inr ⟨xs, k.sq h, rfl⟩, q⟩
theorem rd_gtupK {H0 : Hp} {n : Nat} {g : TGs} (h : SqT K H0 a xs) (k : Kp H0 H) (hl : xs.length = n) (q : g xs σ H S) : gTup K n g (.ref a) σ H S := rd_gtup (k.sq h) hl q
theorem rd_ixL (h : SqL K H p xs) (ha : atI xs i = some v) (q : Q v H) : rIx K (.ref p) (.int i) H Q := .inl ⟨p, xs, i, v, rfl, rfl, h, ha, q⟩
theorem rd_ixH (h : H p = some (.lst xs)) (ha : atI xs i = some v) (q : Q v H) : rIx K (.ref p) (.int i) H Q := .inl ⟨p, xs, i, v, rfl, rfl, SqL.of h, ha, q⟩
theorem rd_ixS {z : Str} {c : Nat} (h : z.length ≤ 1000) (ha : atI z.cps.toList i = some c) (q : Q (.str ⟨#[c]⟩) H) : rIx K (.str z) (.int i) H Q := .inr (.inr ⟨z, i, c, rfl, rfl, Nat.le_of_lt (small1000 h), ha, q⟩)
theorem rd_lenL (h : SqL K H p xs) (q : Q (.int xs.length) H) : rLenA K [.ref p] H Q := ⟨_, _, rfl, .inl ⟨xs, h, rfl⟩, q⟩
theorem rd_lenH (h : H p = some (.lst xs)) (q : Q (.int xs.length) H) : rLenA K [.ref p] H Q := ⟨_, _, rfl, .inl ⟨xs, SqL.of h, rfl⟩, q⟩
theorem rd_lenT (h : SqT K H p xs) (q : Q (.int xs.length) H) : rLenA K [.ref p] H Q := ⟨_, _, rfl, .inr ⟨xs, h, rfl⟩, q⟩
theorem rd_lenS {z : Str} (h : z.length ≤ sizeLine) (q : Q (.int z.length) H) : rLenA K [.str z] H Q := ⟨_, _, rfl, ⟨h, rfl⟩, q⟩
theorem rd_setL {k : Int} {n : Nat} {T : Hp → Prop} (h : H p = some (.lst xs)) (hn : ixN xs.length k = some n) (q : ∀ H2, Fr [p] H H2 → Kp H H2 → H2 p = some (.lst (xs.set n v)) → T H2) : rSetL (.ref p) (.int k) v H T :=
  ⟨p, xs, k, n, rfl, rfl, h, hn, q _ ((Fr.refl [p] H).put (by simp)) (((Fr.refl [p] H).put (by simp)).kpL h) upd_same⟩
theorem rd_list (h : SqL K H p xs) (q : ∀ l H2, H l = none → Fr [] H H2 → H2 l = some (.lst xs) → Q (.ref l) H2) : rListOf K [.ref p] H Q := ⟨p, xs, rfl, .inl h, fun l hl => q l _ hl ((Fr.refl [] H).new hl) upd_same⟩
theorem rd_listT (h : SqT K H p xs) (q : ∀ l H2, H l = none → Fr [] H H2 → H2 l = some (.lst xs) → Q (.ref l) H2) : rListOf K [.ref p] H Q := ⟨p, xs, rfl, .inr h, fun l hl => q l _ hl ((Fr.refl [] H).new hl) upd_same⟩
theorem rd_bm {T : String} {r : V → List V → Hp → VK → Prop} {to : TE} (q : to σ H fun x H1 => tyV K T x H1 ∧ tr σ H1 fun xs H2 => r x xs H2 Q) : tBM K T r to tr σ H Q := q
theorem rd_tyL {G : Prop} (h : H a = some (.lst xs)) (q : G) : tyV K "list" (.ref a) H ∧ G := ⟨Or.inl ⟨rfl, _, SqL.of h⟩, q⟩
theorem rd_app (h : H a = some (.lst xs)) (hl : xs.length ≤ 1000) (q : ∀ H2, Fr [a] H H2 → Kp H H2 → H2 a = some (.lst (xs ++ [v])) → Q .non H2) : rAppend (.ref a) [v] H Q :=
  ⟨a, xs, v, rfl, rfl, h, small1000 hl, q _ ((Fr.refl [a] H).put (by simp)) (((Fr.refl [a] H).put (by simp)).kpL h) upd_same⟩
theorem rd_abs (q : Q (.int (if i < 0 then -i else i)) H) : rAbs [.int i] H Q := ⟨i, rfl, q⟩
theorem rd_neg {g : Int → V} (q : Q (g i) H) : rU g (.int i) H Q := ⟨i, rfl, q⟩
theorem rd_max2 (q : Q (.int (if j > i then j else i)) H) : rMax2 [.int i, .int j] H Q := ⟨i, j, rfl, q⟩
theorem rd_tupL (h : SqL K H p xs) (q : ∀ l H2, H l = none → Fr [] H H2 → H2 l = some (.tup xs) → Q (.ref l) H2) : rTupleOf K [.ref p] H Q := ⟨p, xs, rfl, .inl ⟨h, fun l hl => q l _ hl ((Fr.refl [] H).new hl) upd_same⟩⟩
theorem rd_tupT (h : SqT K H p xs) (q : Q (.ref p) H) : rTupleOf K [.ref p] H Q := ⟨p, xs, rfl, .inr ⟨h, q⟩⟩
theorem rd_inT (h : SqT K H p xs) (hx : flatV x = true) (ha : xs.all flatV = true) (q : Q (.bl (inV x xs)) H) : rIn K false x (.ref p) H Q := ⟨p, xs, rfl, .inr h, hx, ha, q⟩
theorem rd_inL (h : SqL K H p xs) (hx : flatV x = true) (ha : xs.all flatV = true) (q : Q (.bl (inV x xs)) H) : rIn K false x (.ref p) H Q := ⟨p, xs, rfl, .inl h, hx, ha, q⟩
theorem rd_isi {n m : String} {k : Bool} (h : TyX K H x (.type n)) (hk : kitB n m = some k) (q : Q (.bl k) H) : rIsi K [x, .ty m] H Q := ⟨x, .ty m, _, _, k, rfl, .ty m, h, kit_ty hk, q⟩
theorem ty_list (h : SqL K H a xs) : TyX K H (.ref a) (.type "list") := by
  rcases h with (h | ⟨o, h⟩) | ⟨o, its, n, h, hc, _⟩
  · exact .base (.lst h)
  · exact .base (.frz h)
  · exact .kList h hc
theorem ty_tup (h : SqT K H a xs) : TyX K H (.ref a) (.type "tuple") := by
  rcases h with (h | ⟨o, h⟩) | ⟨o, its, n, h, hc, _⟩
  · exact .base (.tup h)
  · exact .fTuple h
  · exact .kTuple h hc
theorem ifT {b : Bool} {A B : Prop} (h : b = true) (q : A) : if b = true then A else B := by rw [if_pos h]; exact q
theorem ifF {b : Bool} {A B : Prop} (h : b = false) (q : B) : if b = true then A else B := by rw [if_neg (by rw [h]; decide)]; exact q
theorem rd_for {wi : TI} {g : TG} {tb : TS} (q : wi σ H fun J H1 => ∃ W : Nat → Nat → L2.St → Hp → Prop, (∃ m, W 0 m σ H1) ∧ ∀ i m σ H, W i m σ H →
    (J.stop i H ∧ D.nx σ H) ∨ (J.go i H ∧ ∃ N : L2.St → Hp → Prop, (∀ σ' H', N σ' H' → ∃ m', m' < m ∧ W (i + 1) m' σ' H') ∧ ∀ x H', J.yld i H x H' → g x σ H' fun σ2 H2 => tb { D with nx := N, ct := N, bk := D.nx } σ2 H2)) : tFor wi g tb D σ H := q
theorem rd_intI (q : Q (.int i) H) : rIntC [.int i] H Q := .inl ⟨i, rfl, q⟩
theorem rd_intB {k : Bool} (q : Q (.int (if k then 1 else 0)) H) : rIntC [.bl k] H Q := .inr ⟨k, rfl, q⟩
theorem rd_gunl {n : Nat} {g : TGs} (h : SqL K H a xs) (hl : xs.length = n) (q : g xs σ H S) : gUnl K n g (.ref a) σ H S := ⟨a, xs, rfl, h, hl, q⟩
/-! what a for walks, what a comprehension walks -/
def Rng1 (vs : List V) (H : Hp) (W : It → Hp → Prop) : Prop := ∃ j : Int, vs = [.int j] ∧ -(2 ^ 62) ≤ j ∧ j < 2 ^ 62 ∧ W (Itr 0 j.toNat) H
def Rng2 (vs : List V) (H : Hp) (W : It → Hp → Prop) : Prop := ∃ i j : Int, vs = [.int i, .int j] ∧ (-(2 ^ 62) ≤ i ∧ i < 2 ^ 62 ∧ -(2 ^ 62) ≤ j ∧ j < 2 ^ 62) ∧ W (Itr i (j - i).toNat) H
def IsLi (K : PySem.W.Frag) (x : V) (H : Hp) (W : It → Hp → Prop) : Prop := ∃ a, x = .ref a ∧ (∃ xs, SqL K H a xs) ∧ W (Itl K a) H
def IsTu (K : PySem.W.Frag) (x : V) (H : Hp) (W : It → Hp → Prop) : Prop := ∃ a, x = .ref a ∧ (∃ xs, SqT K H a xs) ∧ W (Itt K a) H
theorem rd_irng1 {W : It → Hp → Prop} (q : tr σ H fun vs H1 => Rng1 vs H1 W) : iRng1 tr σ H W := q
theorem rd_irng2 {W : It → Hp → Prop} (q : tr σ H fun vs H1 => Rng2 vs H1 W) : iRng2 tr σ H W := q
theorem rd_rng1 {W : It → Hp → Prop} (h : -(2 ^ 62) ≤ j ∧ j < 2 ^ 62) (q : W (Itr 0 j.toNat) H) : Rng1 [.int j] H W := ⟨j, rfl, h.1, h.2, q⟩
theorem rd_rng2 {W : It → Hp → Prop} (h : -(2 ^ 62) ≤ i ∧ i < 2 ^ 62 ∧ -(2 ^ 62) ≤ j ∧ j < 2 ^ 62) (q : W (Itr i (j - i).toNat) H) : Rng2 [.int i, .int j] H W := ⟨i, j, rfl, h, q⟩
theorem rd_ilist {W : It → Hp → Prop} (q : te σ H fun x H1 => IsLi K x H1 W) : iList K te σ H W := q
theorem rd_ituple {W : It → Hp → Prop} (q : te σ H fun x H1 => IsTu K x H1 W) : iTup K te σ H W := q
theorem rd_isli {W : It → Hp → Prop} (h : SqL K H a xs) (q : W (Itl K a) H) : IsLi K (.ref a) H W := ⟨a, rfl, ⟨xs, h⟩, q⟩
theorem rd_istu {W : It → Hp → Prop} (h : SqT K H a xs) (q : W (Itt K a) H) : IsTu K (.ref a) H W := ⟨a, rfl, ⟨xs, h⟩, q⟩
theorem rd_istuK {H0 : Hp} {W : It → Hp → Prop} (h : SqT K H0 a xs) (k : Kp H0 H) (q : W (Itt K a) H) : IsTu K (.ref a) H W := rd_istu (k.sq h) q
/-- the loop over J, W being still to be found -/
def ForT (J : It) (g : TG) (tb : TS) (D : Ends) (σ : L2.St) (H : Hp) : Prop := ∃ W : Nat → Nat → L2.St → Hp → Prop, (∃ m, W 0 m σ H) ∧ ∀ i m σ H, W i m σ H →
    (J.stop i H ∧ D.nx σ H) ∨ (J.go i H ∧ ∃ N : L2.St → Hp → Prop, (∀ σ' H', N σ' H' → ∃ m', m' < m ∧ W (i + 1) m' σ' H') ∧ ∀ x H', J.yld i H x H' → g x σ H' fun σ2 H2 => tb { D with nx := N, ct := N, bk := D.nx } σ2 H2)
theorem rd_fort {wi : TI} {g : TG} {tb : TS} (q : wi σ H fun J H1 => ForT J g tb D σ H1) : tFor wi g tb D σ H := q
theorem rd_forR {n : Nat} {g : TG} {tb : TS} (Pv : Nat → L2.St → Hp → Prop) (h0 : Pv 0 σ H)
    (hs : ∀ k σ H, k < n → Pv k σ H → g (.int (i + k)) σ H fun σ2 H2 => tb { D with nx := Pv (k + 1), ct := Pv (k + 1), bk := D.nx } σ2 H2) (hd : ∀ σ H, Pv n σ H → D.nx σ H) : ForT (Itr i n) g tb D σ H := for_range Pv h0 hs hd
theorem rd_forL {g : TG} {tb : TS} (xs : List V) (Pv : Nat → L2.St → Hp → Prop) (h0 : Pv 0 σ H) (hl : ∀ k σ H, k ≤ xs.length → Pv k σ H → SqL K H a xs)
    (hs : ∀ k x σ H, xs[k]? = some x → Pv k σ H → g x σ H fun σ2 H2 => tb { D with nx := Pv (k + 1), ct := Pv (k + 1), bk := D.nx } σ2 H2) (hd : ∀ σ H, Pv xs.length σ H → D.nx σ H) : ForT (Itl K a) g tb D σ H := for_list Pv h0 hl hs hd
theorem rd_forT {g : TG} {tb : TS} (xs : List V) (Pv : Nat → L2.St → Hp → Prop) (h0 : Pv 0 σ H) (hl : ∀ k σ H, k ≤ xs.length → Pv k σ H → SqT K H a xs)
    (hs : ∀ k x σ H, xs[k]? = some x → Pv k σ H → g x σ H fun σ2 H2 => tb { D with nx := Pv (k + 1), ct := Pv (k + 1), bk := D.nx } σ2 H2) (hd : ∀ σ H, Pv xs.length σ H → D.nx σ H) : ForT (Itt K a) g tb D σ H := for_tup Pv h0 hl hs hd
def LcEnd (D : Addr) (P : Hp → Prop) (y : V) (H4 : Hp) : Prop := ∃ acc, H4 D = some (.lst acc) ∧ acc.length < sizeLine ∧ P (upd H4 D (.lst (acc ++ [y])))
def LcIn (tt : TT) (te : TE) (vs : List Nat) (σ : L2.St) (D : Addr) (P : Hp → Prop) (σ2 : L2.St) (H2 : Hp) : Prop := wipe σ2 vs = wipe σ vs ∧ tt σ2 H2 fun b H3 => if b = true then te σ2 H3 fun y H4 => LcEnd D P y H4 else P H3
def LcT (J : It) (g : TG) (tt : TT) (te : TE) (vs : List Nat) (σ : L2.St) (H1 : Hp) (Q : VK) : Prop := ∀ D, H1 D = none → ∃ W : Nat → Nat → Hp → Prop, (∃ m, W 0 m (upd H1 D (.lst []))) ∧ ∀ i m H, W i m H →
  (J.stop i H ∧ Q (.ref D) H) ∨ (J.go i H ∧ ∃ Nx : Hp → Prop, (∀ H', Nx H' → ∃ m', m' < m ∧ W (i + 1) m' H') ∧ ∀ x H', J.yld i H x H' → g x (wipe σ vs) H' fun σ2 H2 => LcIn tt te vs σ D Nx σ2 H2)
theorem rd_lc {wi : TI} {g : TG} {vs : List Nat} (q : wi σ H fun J H1 => LcT J g tt te vs σ H1 Q) : tLc wi g tt te vs σ H Q := q
/-- a word over what is made so far -/
abbrev LcP (D : Addr) (Pv : Nat → List V → Hp → Prop) (i : Nat) : Hp → Prop := fun H => ∃ acc, H D = some (.lst acc) ∧ Pv i acc H
theorem rd_lcR {n : Nat} {g : TG} {vs : List Nat} (q : ∀ D H1, H D = none → Fr [] H H1 → H1 D = some (.lst []) → ∃ Pv : Nat → List V → Hp → Prop, Pv 0 [] H1 ∧
    (∀ k acc H', k < n → H' D = some (.lst acc) → Pv k acc H' → g (.int (i + k)) (wipe σ vs) H' fun σ2 H2 => LcIn tt te vs σ D (LcP D Pv (k + 1)) σ2 H2) ∧ ∀ acc H', H' D = some (.lst acc) → Pv n acc H' → Q (.ref D) H') : LcT (Itr i n) g tt te vs σ H Q := fun D hD => by
  obtain ⟨Pv, h0, hs, hd⟩ := q D (upd H D (.lst [])) hD ((Fr.refl [] H).new hD) upd_same
  exact lc_range (LcP D Pv) ⟨[], upd_same, h0⟩ (fun k H' hk ⟨acc, e, p⟩ => hs k acc H' hk e p) fun H' ⟨acc, e, p⟩ => hd acc H' e p
theorem rd_lcL {g : TG} {vs : List Nat} (xs : List V) (q : ∀ D H1, H D = none → Fr [] H H1 → H1 D = some (.lst []) → ∃ Pv : Nat → List V → Hp → Prop, Pv 0 [] H1 ∧ (∀ k acc H', k ≤ xs.length → Pv k acc H' → SqL K H' a xs) ∧
    (∀ k x acc H', xs[k]? = some x → H' D = some (.lst acc) → Pv k acc H' → g x (wipe σ vs) H' fun σ2 H2 => LcIn tt te vs σ D (LcP D Pv (k + 1)) σ2 H2) ∧ ∀ acc H', H' D = some (.lst acc) → Pv xs.length acc H' → Q (.ref D) H') : LcT (Itl K a) g tt te vs σ H Q := fun D hD => by
  obtain ⟨Pv, h0, hl, hs, hd⟩ := q D (upd H D (.lst [])) hD ((Fr.refl [] H).new hD) upd_same
  exact lc_list (K := K) (a := a) (xs := xs) (LcP D Pv) ⟨[], upd_same, h0⟩ (fun k H' hk ⟨acc, e, p⟩ => hl k acc H' hk p) (fun k x H' hx ⟨acc, e, p⟩ => hs k x acc H' hx e p) fun H' ⟨acc, e, p⟩ => hd acc H' e p
theorem rd_lcT {g : TG} {vs : List Nat} (xs : List V) (q : ∀ D H1, H D = none → Fr [] H H1 → H1 D = some (.lst []) → ∃ Pv : Nat → List V → Hp → Prop, Pv 0 [] H1 ∧ (∀ k acc H', k ≤ xs.length → Pv k acc H' → SqT K H' a xs) ∧
    (∀ k x acc H', xs[k]? = some x → H' D = some (.lst acc) → Pv k acc H' → g x (wipe σ vs) H' fun σ2 H2 => LcIn tt te vs σ D (LcP D Pv (k + 1)) σ2 H2) ∧ ∀ acc H', H' D = some (.lst acc) → Pv xs.length acc H' → Q (.ref D) H') : LcT (Itt K a) g tt te vs σ H Q := fun D hD => by
  obtain ⟨Pv, h0, hl, hs, hd⟩ := q D (upd H D (.lst [])) hD ((Fr.refl [] H).new hD) upd_same
  exact lc_tup (K := K) (a := a) (xs := xs) (LcP D Pv) ⟨[], upd_same, h0⟩ (fun k H' hk ⟨acc, e, p⟩ => hl k acc H' hk p) (fun k x H' hx ⟨acc, e, p⟩ => hs k x acc H' hx e p) fun H' ⟨acc, e, p⟩ => hd acc H' e p
theorem rd_lcin {vs : List Nat} {σ2 : L2.St} {Dd : Addr} {P : Hp → Prop} (h : wipe σ2 vs = wipe σ vs) (q : tt σ2 H fun b H3 => if b = true then te σ2 H3 fun y H4 => LcEnd Dd P y H4 else P H3) : LcIn tt te vs σ Dd P σ2 H := ⟨h, q⟩
theorem rd_yes (q : R true H) : tYes σ H R := q
theorem rd_lcend {Dd : Addr} {Pv : Nat → List V → Hp → Prop} {k : Nat} {acc : List V} (h : H Dd = some (.lst acc)) (hl : acc.length ≤ 1000) (q : ∀ H5, Fr [Dd] H H5 → Kp H H5 → H5 Dd = some (.lst (acc ++ [v])) → Pv k (acc ++ [v]) H5) : LcEnd Dd (LcP Dd Pv k) v H :=
  ⟨acc, h, small1000 hl, acc ++ [v], upd_same, q _ ((Fr.refl [Dd] H).put (by simp)) (((Fr.refl [Dd] H).put (by simp)).kpL h) upd_same⟩
theorem rd_while {c : TT} {tb : TS} (Pv : L2.St → Hp → Prop) (μ : L2.St → Hp → Nat) (h0 : Pv σ H)
    (hs : ∀ σ H, Pv σ H → c σ H fun b H1 => if b = true then ∃ N : L2.St → Hp → Prop, (∀ σ' H', N σ' H' → ∃ m', m' < μ σ H ∧ (m' = μ σ' H' ∧ Pv σ' H')) ∧ tb { D with nx := N, ct := N, bk := D.nx } σ H1 else D.nx σ H1) : tWhile c tb D σ H :=
  ⟨fun m σ H => m = μ σ H ∧ Pv σ H, ⟨_, rfl, h0⟩, fun m σ H p => by obtain ⟨rfl, p⟩ := p; exact hs σ H p⟩
theorem rd_turn {Pv : L2.St → Hp → Prop} {μ : L2.St → Hp → Nat} {n : Nat} {tb : TS} (q : tb { D with nx := fun σ' H' => Pv σ' H' ∧ μ σ' H' < n, ct := fun σ' H' => Pv σ' H' ∧ μ σ' H' < n, bk := D.nx } σ H1) :
    ∃ N : L2.St → Hp → Prop, (∀ σ' H', N σ' H' → ∃ m', m' < n ∧ (m' = μ σ' H' ∧ Pv σ' H')) ∧ tb { D with nx := N, ct := N, bk := D.nx } σ H1 := ⟨_, fun _ _ ⟨p', l⟩ => ⟨_, l, rfl, p'⟩, q⟩
end
end Lf
namespace Lf
open PySem L2
def top (i : Nat) : Stmt := PySem.Challenge.pw_lapfold_k05_programs_refused.main.body.getD i (.Pass ⟨0, 0, 0, 0⟩)
end Lf
local macro_rules | `(tactic| walk_at "rd1") => `(tactic| first
  | with_reducible refine Lf.rd_var rfl ?_ | with_reducible refine Lf.rd_c ?_ | with_reducible refine Lf.rd_op ?_
  | with_reducible refine Lf.rd_test ?_ | with_reducible refine Lf.rd_isb ?_ | with_reducible refine Lf.rd_nil ?_ | with_reducible refine Lf.rd_cons ?_
  | with_reducible refine Lf.rd_plusI ?_ | with_reducible refine Lf.rd_I0 ?_ | with_reducible refine Lf.rd_cb ?_ | with_reducible refine Lf.rd_call ?_
  | with_reducible refine Lf.rd_tup ?_ | with_reducible refine Lf.rd_lst ?_ | with_reducible refine Lf.rd_ret ?_ | with_reducible refine Lf.rd_asg ?_ | with_reducible refine Lf.rd_gname ?_
  | with_reducible refine Lf.rd_if ?_ | with_reducible refine Lf.rd_drop ?_ | with_reducible refine Lf.rd_next ?_ | with_reducible refine Lf.rd_par ?_ | with_reducible refine Lf.rd_two ?_
  | with_reducible refine Lf.rd_abs ?_ | with_reducible refine Lf.rd_max2 ?_ | with_reducible refine Lf.rd_neg ?_ | with_reducible refine Lf.rd_un ?_ | with_reducible refine Lf.rd_b ?_ | with_reducible refine Lf.rd_and ?_ | with_reducible refine Lf.rd_or ?_ | with_reducible refine Lf.rd_not ?_
  | with_reducible refine Lf.rd_andV ?_ | with_reducible refine Lf.rd_orV ?_ | with_reducible refine Lf.rd_andb ?_ | with_reducible refine Lf.rd_orb ?_ | with_reducible refine Lf.rd_notV ?_ | with_reducible refine Lf.rd_notb ?_
  | with_reducible refine Lf.rd_ife ?_ | with_reducible refine Lf.rd_retN ?_ | with_reducible refine Lf.rd_break ?_ | with_reducible refine Lf.rd_cont ?_
  | with_reducible refine Lf.rd_gsub ?_ | with_reducible refine Lf.rd_gnil ?_ | with_reducible refine Lf.rd_gcons ?_
  | with_reducible refine Lf.rd_bm ?_ | with_reducible refine Lf.rd_intI ?_ | with_reducible refine Lf.rd_intB ?_ | with_reducible refine Lf.rd_irng1 ?_ | with_reducible refine Lf.rd_irng2 ?_ | with_reducible refine Lf.rd_ilist ?_ | with_reducible refine Lf.rd_ituple ?_
  | with_reducible refine Lf.rd_fort ?_ | with_reducible refine Lf.rd_lc ?_ | with_reducible refine Lf.rd_lcin rfl ?_ | with_reducible refine Lf.rd_yes ?_
  | with_reducible refine Lf.rd_rng1 (by decide) ?_ | with_reducible refine Lf.rd_rng2 (by decide) ?_
  | with_reducible refine Lf.rd_eqS rfl ?_ | with_reducible refine Lf.rd_neS rfl ?_)
local macro_rules | `(tactic| walk_at "rd") => `(tactic| (repeat (first | (walk_at "rd1") | (with_reducible refine Lf.rd_seq ?_))))
local macro_rules | `(tactic| walk_at "rh1") => `(tactic| first
  | (walk_at "rd1")
  | ((with_reducible refine' Lf.rd_ixK ?hS ?hK ?hA ?_); (case hS => (walk_at "ht")); (case hK => (walk_at "kp")); (case hA => rfl))
  | ((with_reducible refine' Lf.rd_ixH ?hS ?hA ?_); (case hS => (walk_at "hp")); (case hA => rfl))
  | ((with_reducible refine' Lf.rd_lenH ?hS ?_); (case hS => (walk_at "hp")))
  | ((with_reducible refine' Lf.rd_lenK ?hS ?hK ?_); (case hS => (walk_at "ht")); (case hK => (walk_at "kp")))
  | ((with_reducible refine' Lf.rd_gtupK ?hS ?hK ?hA ?_); (case hS => (walk_at "ht")); (case hK => (walk_at "kp")); (case hA => rfl))
  | ((with_reducible refine' Lf.rd_gunl ?hS ?hA ?_); (case hS => (walk_at "hp")); (case hA => rfl))
  | ((with_reducible refine' Lf.rd_istuK ?hS ?hK ?_); (case hS => (walk_at "ht")); (case hK => (walk_at "kp")))
  | ((with_reducible refine' Lf.rd_isli ?hS ?_); (case hS => (walk_at "hp")))
  | ((with_reducible refine' Lf.rd_tyL ?hS ?_); (case hS => (walk_at "hp"))))
local macro_rules | `(tactic| walk_at "rh") => `(tactic| (repeat (first | (walk_at "rh1") | (with_reducible refine Lf.rd_seq ?_))))
local macro_rules | `(tactic| walk_at "rs") => `(tactic| (repeat (walk_at "rh1")))
-- a tracked list, as it was told last
local macro_rules | `(tactic| walk_at "hp") => `(tactic| first
  | assumption
  | ((refine' L2.SqL.of ?k1); (case k1 => (walk_at "hp")))
  | ((refine' Lf.Fr.at (M := []) ?k1 ?k3 ?k2); (case k1 => assumption); (case k2 => simp); (case k3 => (walk_at "hp")))
  | ((refine' Lf.Fr.at2 ?k1 ?k3 ?k4 ?k5); (case k1 => assumption); (case k4 => assumption); (case k5 => assumption); (case k3 => (walk_at "hp")))
  | ((refine' Lf.Fr.at1 ?k1 ?k3 ?k4); (case k1 => assumption); (case k4 => assumption); (case k3 => (walk_at "hp")))
  | ((refine' Lf.Fr.seq0 ?k1 ?k3); (case k1 => assumption); (case k3 => (walk_at "hp"))))
-- a tuple, at whatever heap
local macro_rules | `(tactic| walk_at "ht") => `(tactic| first
  | assumption
  | ((refine' L2.SqT.of ?k1); (case k1 => assumption)))
-- tuples stay from one heap to another
local macro_rules | `(tactic| walk_at "kp") => `(tactic| first
  | assumption
  | exact Lf.Kp.refl _
  | ((refine' Lf.Kp.trans ?k3 (Lf.Fr.kp0 ?k1)); (case k1 => assumption); (case k3 => (walk_at "kp")))
  | ((refine' Lf.Kp.trans ?k3 ?k1); (case k1 => assumption); (case k3 => (walk_at "kp"))))
-- xs.append(v) of a tracked list
local macro_rules | `(tactic| walk_at "ap") => `(tactic| ((refine' Lf.rd_app ?k1 ?k2 ?k3); (case k1 => (walk_at "hp")); (case k2 => simp)))
-- a test of written words
local macro_rules | `(tactic| walk_at "wd") => `(tactic| first
  | ((with_reducible refine' Lf.ifF ?k1 ?k2); (case k1 => decide +kernel))
  | ((with_reducible refine' Lf.ifT ?k1 ?k2); (case k1 => decide +kernel)))
local macro_rules | `(tactic| walk_at "rx") => `(tactic| (repeat (first | (walk_at "rh1") | (with_reducible refine Lf.rd_seq ?_) | (walk_at "wd"))))
set_option Elab.async false
set_option linter.all false
set_option maxRecDepth 100000
/-! Lf.exclc: an exception that leaves a list comprehension's element. -/
namespace Lf
open PySem PySem.Spec PyProof.Rows L2
theorem noteFrame_frame {x : Value} {ce env : Env} (h : ce.frame = env.frame) : noteFrame x ce = noteFrame x env := by
  unfold noteFrame PySem.frameOf
  rw [h]
section
variable {M : Model} {A : Around} {E : Value → Shared → Prop} {s : Shared} {env : Env}
/-- as compPost, an error with the block's own environment -/
def compPostX (M : Model) (A : Around) (E : Value → Shared → Prop) (use : Option (Value → Sem Unit)) (Q : Value → Shared → Prop) (acc : Value) (ce : Env) (r : Result) (s' : Shared) : Prop :=
  match r with
  | .ok f => compPost M A E use Q acc ce.locals (.ok f) s'
  | .error x => ∃ m, s'.heap.Ns ce.locals m ∧ ∀ h', Heap.SameBut ce.locals s'.heap h' → wpAny M A (passOn "comprehension.variables-let-go" x ce : Sem Value) (fun _ _ => False) E { s' with heap := h' }
theorem comprehension_freeX {e : Expr} {scope : Scope} {pos : Pos} {newAcc first : Sem Value} {g : Comprehension} {gs : List Comprehension} {cl : List (Str × Addr)} {use : Option (Value → Sem Unit)}
    {Q : Value → Shared → Prop}
    (hcl : clausesOf e = g :: gs) (hs : ∀ x, foldedSetIterable g.iter env x = pure x) (hclos : closureFor scope env = pure cl)
    (hkind : scope.kind = .function) (hnames : ∀ x ∈ scope.names, x.2 = .local → scope.names.lookup x.1 = some .local)
    (h : wpAny M A first (fun x s₁ => wpAny M A (pyIter x) (fun it s₂ => wpAny M A newAcc (fun acc s₃ =>
      wpAny M A (newFunctionEnv scope env.globals cl [] env.qual none .none (some env)) (fun cenv s₄ =>
        codeAny M A (.compStart e 0 it acc { cenv with scope := relabel scope env }) (compPostX M A E use Q acc { cenv with scope := relabel scope env }) s₄) E s₃) E s₂) E s₁) E s) :
    wpAny M A (comprehension e scope env pos newAcc false first use) Q E s := by
  unfold comprehension
  rw [hclos, hcl]
  refine wpAny_bind (wpAny_mono h (fun x s₁ h₁ => wpAny_bind (wpAny_standAt (wpAny_bind (wpAny_of_eq (hs x) (wpAny_bind (wpAny_holding (wpAny_mono h₁ (fun it s₂ h₂ =>
    wpAny_standIf (wpAny_bind (wpAny_mono h₂ (fun acc s₃ h₃ => wpAny_bind (wpAny_pure (wpAny_bind (wpAny_mono h₃ (fun cenv s₄ h₄ => ?_) fun _ _ h' => h')))) fun _ _ h' => h')))
      fun _ _ h' => h'))))))) fun _ _ h' => h')
  dsimp only
  have hv : ∀ x ∈ (scope.names.filter fun x => (x.2 == .local || x.2 == .cell) && x.1 != (".0" : Str)).reverse, x.2 = .local →
      Env.kindOf { cenv with scope := relabel scope env } x.1 = some .local := fun x hx hl => lookup_relabel_local (hnames x (List.mem_filter.mp (List.mem_reverse.mp hx)).1 hl)
  have hv' : ∀ x ∈ (scope.names.filter fun x => (x.2 == .local || x.2 == .cell) && x.1 != (".0" : Str)).reverse.drop 1 ++ (scope.names.filter fun x => (x.2 == .local || x.2 == .cell) && x.1 != (".0" : Str)).reverse.take 1,
      x.2 = .local → Env.kindOf { cenv with scope := relabel scope env } x.1 = some .local := fun x hx hl => by
    rcases List.mem_append.mp hx with h1 | h1
    · exact hv x (List.mem_of_mem_drop h1) hl
    · exact hv x (List.mem_of_mem_take h1) hl
  refine wpAny_holding (wpAny_bind (wpAny_attempt (wpAny_holding (wpAny_run (codeAny_mono h₄ fun r s' hr => ?_)))))
  cases r with
  | ok f =>
    cases use with
    | none =>
      obtain ⟨m, hn, hr⟩ := hr
      exact wpAny_bind (wpAny_holding (wpAny_comp_letGo (cenv := { cenv with scope := relabel scope env }) hkind _ s' m hv hn fun h' m' _ hs' => wpAny_pure (hr h' hs')))
    | some u =>
      have hr : wpAny M A (u acc) (fun _ s'' => ∃ m, s''.heap.Ns cenv.locals m ∧ ∀ h', Heap.SameBut cenv.locals s''.heap h' → Q .none { s'' with heap := h' }) E s' := hr
      refine wpAny_bind (wpAny_rule (wpAny_bind (wpAny_holding (wpAny_mono hr (fun _ s'' hr' => ?_) fun _ _ h' => h'))))
      obtain ⟨m, hn, hr'⟩ := hr'
      exact wpAny_bind (wpAny_comp_letGo (cenv := { cenv with scope := relabel scope env }) hkind _ s'' m hv' hn fun h' m' _ hs' => wpAny_pure (hr' h' hs'))
  | error x =>
    obtain ⟨m, hn, hr⟩ := hr
    exact wpAny_bind (wpAny_holding (wpAny_comp_letGo (cenv := { cenv with scope := relabel scope env }) hkind _ s' m hv hn fun h' m' _ hs' => wpAny_mono (hr h' hs') (fun _ _ f => f.elim) fun _ _ y => y))
end
/-! ### the exception is the def's -/
theorem frames_move {B B' h h' : Heap} (hn : ∀ L, B.get? L = none → B'.get? L = none) (hk : ∀ L o, B.get? L = none → h.get? L = some o → h'.get? L = some o) : ∀ {l : List Env}, h.FunFrames B l → h'.FunFrames B' l
  | [], _ => trivial
  | env :: l, ⟨k, ⟨L, o, hf, hb, ho, hd⟩, hr⟩ => ⟨k, ⟨L, o, hf, hn L hb, hk L o hb ho, hd⟩, frames_move hn hk hr⟩
theorem traced_move {B B' h h' : Heap} {e : Addr} {Z : Obj → Prop} {fl : Value} (he : B.get? e = none) (hn : ∀ L, B.get? L = none → B'.get? L = none) (hk : ∀ L o, B.get? L = none → h.get? L = some o → h'.get? L = some o)
    (t : HandSPX.TracedZ h B e Z fl) : HandSPX.TracedZ h' B' e Z fl := by
  obtain ⟨oe, vs, T, oT, ts, a1, a2, a3, a4, a5, a6, a7, a8, a9⟩ := t
  exact ⟨oe, vs, T, oT, ts, hk _ _ he a1, a2, a3, a4, hn _ a5, a6, hk _ _ a5 a7, a8, a9⟩
section
variable {X : Cx} {pins pins' : List (Addr × Obj)} {σ σ' : L2.St} {H3 H' : Hp} {s3 s s' : Shared} {scope : Scope} {ce : Env} {fp : List Addr} {E : XK} {W : WX} {u : Value} {use : Option (Value → Sem Unit)} {Qf : Value → Shared → Prop} {acc : Value} {pn : List (Addr × Obj)} {xe : Value → Shared → Prop}
theorem blk_raise (hs : X.stack = X.env :: X.outer) (hf : X.env.frame = some X.env.locals) (tk : Takes X W) (hW : ∀ cls d σ H, E cls d H → W cls d σ H)
    (I3 : Inv X pins σ H3 s3) (f3 : ∀ b ∈ fp, FpOk X pins H3 b) (hcf : ce.frame = X.env.frame) (hcl : ce.locals = s3.heap.objs.size)
    (I : Inv ((X.blk s3 H3 scope ce fp).tr pn xe) pins' σ' H' s) (c : L2.CX X.prog X.w X.stack H' s E u s') :
    notedBy (model X.prog X.w) X.A ce (fun e s'' => compPostX (model X.prog X.w) X.A X.xe use Qf acc ce (.error e) s'') u s' := by
  obtain ⟨a, B, H2, cls, d, rfl, fl, hok, ub, na, os, ag, hE⟩ := c
  have hfr : X.A.frames = some (X.env :: X.outer) := by rw [I3.ok.frames, hs]
  have fsC : ce.locals ∉ frs X.stack := fun hm => by
    obtain ⟨_, o, ho, _⟩ := I3.stack.mem hm
    rw [hcl] at ho
    exact absurd (Heap.lt_size ho) (Nat.lt_irrefl _)
  have Ifree : H' ce.locals = none := I.free
  obtain ⟨m, ⟨oC, esC, epC, hoC, hrC⟩, _⟩ := I.loc
  have hoC : s.heap.get? ce.locals = some oC := hoC
  have BC : B.get? ce.locals = some oC := ub.keep _ _ hoC Ifree fsC
  have nC2 : H2 ce.locals = none := ub.free _ _ hoC Ifree
  have aC : a ≠ ce.locals := fun z => by
    have q := fl.2.1
    rw [z, BC] at q; cases q
  show wpAny _ _ (noteFrame (.ref a) ce) _ _ _
  rw [noteFrame_frame hcf]
  rw [hs] at fl
  refine HandSPX.looks_onZ Zc.steady hfr hf fl fun h1 hh up1 => ?_
  obtain ⟨k1, k2, k3, k4⟩ := hh
  refine ⟨m, ⟨oC, esC, epC, k1 _ _ BC, hrC⟩, fun h' sb => ?_⟩
  -- the ground without the block's names
  have b1 : ∀ b o, (PySem.W.hideAll B [ce.locals]).get? b = some o → B.get? b = some o := fun b o e => PySem.W.of_hideAll _ e
  have b2 : ∀ b o, B.get? b = some o → b ≠ ce.locals → (PySem.W.hideAll B [ce.locals]).get? b = some o := fun b o e n => PySem.W.hideAll_get _ e (by simpa using n)
  have b3 : (PySem.W.hideAll B [ce.locals]).get? ce.locals = none := PySem.W.hideAll_none _ (by simp)
  generalize PySem.W.hideAll B [ce.locals] = B2 at b1 b2 b3
  have hn : ∀ L, B.get? L = none → B2.get? L = none := fun L e => by
    cases q : B2.get? L with
    | none => rfl
    | some o => rw [b1 L o q] at e; cases e
  have hk : ∀ L o, B.get? L = none → h1.get? L = some o → h'.get? L = some o := fun L o e q => by
    rw [sb.2 L (fun z => by rw [z, BC] at e; cases e)]; exact q
  have st2 : B2.StaysIn h' := fun b o e => by
    rw [sb.2 b (fun z => by rw [z, b3] at e; cases e)]
    exact k1 b o (b1 b o e)
  have fr2 : h'.FunFrames B2 (X.env :: X.outer) := frames_move hn hk k3
  have tr2 := traced_move k2 hn hk k4
  obtain ⟨oe, vs, T, oT, ts, a1, a2, a3, a4, a5, a6, a7, a8, a9⟩ := id tr2
  unfold PySem.passOn
  refine wpAny_bind (wpAny_field a1 a3 a4 ?_)
  rw [if_neg (show ¬ ((Value.ref T == Value.none) = true) from by simp)]
  rw [hcf, hf]
  refine wpAny_bind (HandSPX.setFlight_anyZ (s := { s' with heap := h' }) st2 fr2 tr2 fun h4 l1 l2 l3 l4 => wpAny_throw (tk _ _ ?_))
  -- the state without it
  have upS : ∀ b ∈ frs X.stack, ∀ o, s3.heap.get? b = some o → ∃ sl, h4.get? b = some { o with slots := sl } := fun b hb o e => by
    obtain ⟨_, o', e', hd⟩ := I3.stack.mem hb
    rw [e] at e'; cases e'
    have nb3 : H3 b = none := I3.stkFree b hb
    have nfp : b ∉ fp := fun z => by
      rcases List.mem_cons.mp (I3.stkSub b hb) with q | q
      · exact (f3 b z).2.1 q
      · exact (f3 b z).2.2.1 q
    obtain ⟨sl1, e1⟩ := I.base.slot b o e nb3 hb nfp
    obtain ⟨sl2, e2⟩ := ub.slot b _ e1 hb
    obtain ⟨sl3, e3⟩ := up1 b _ e2 hd
    have e4 : h'.get? b = _ := (sb.2 b (fun z => fsC (z ▸ hb))).trans e3
    obtain ⟨sl5, e5⟩ := l4 b _ e4 hd
    exact ⟨sl5, e5⟩
  have lt3 : ∀ b o, s3.heap.get? b = some o → b ≠ ce.locals := fun b o e z => by
    rw [z, hcl] at e
    exact absurd (Heap.lt_size e) (Nat.lt_irrefl _)
  obtain ⟨G, g1, g2⟩ := restrict h4 fun b => (B2.get? b).isSome || decide (b ∈ frs X.stack)
  have gB : ∀ b o, B2.get? b = some o → G.get? b = some o := fun b o e => by
    rw [g1 b (by simp [e])]
    exact l1 b o e
  have gF : ∀ b, b ∈ frs X.stack → G.get? b = h4.get? b := fun b hb => g1 b (by simp [hb])
  have og : ∀ b o, G.get? b = some o → h4.get? b = some o ∧ ((B2.get? b).isSome = true ∨ b ∈ frs X.stack) := fun b o e => by
    cases q : ((B2.get? b).isSome || decide (b ∈ frs X.stack)) with
    | false => rw [g2 b q] at e; cases e
    | true =>
      rw [g1 b q] at e
      exact ⟨e, by simpa [Bool.or_eq_true] using q⟩
  have hokG : HOk X.prog X.w H2 G := fun b o q => (hok b o q).stay (fun c u hc r => gB c u (b2 c u r fun z => by
    rcases hc with hc | hc
    · rw [← hc, z, nC2] at q; cases q
    · rw [z, nC2] at hc; cases hc)) (fun _ r => r) fun _ _ r => r
  refine ⟨a, B2, { s3 with heap := G, gens := s'.gens, drawn := s'.drawn, toks := s'.toks }, pins, σ, H2, cls, d, rfl, ?_, fun b o e hb => ?_, Heap.UpToSlots.of_keeps fun b o e => (og b o e).1, .inr (.inr ⟨l1, hn _ k2, by rw [hs]; exact l2, l3⟩), na, os.trans I.os, ag, hW _ _ _ _ hE⟩
  · refine I3.call (ch := fp) ⟨fun b o e n hb hx => ?_, fun b o e n hb hx => ?_, fun b o e n hx => ?_, fun b o e hx => ?_, fun b xs e => ub.tups b xs (I.base.tups b xs e), fun b o xs e => ub.frzs b o xs (I.base.frzs b o xs e), fun b ps e => ?_⟩ hokG ag fun b hb => ⟨(f3 b hb).2.2.2.1, (f3 b hb).2.1, (f3 b hb).2.2.2.2.1, (f3 b hb).2.2.2.2.2⟩
    · exact gB b o (b2 b o (ub.keep b o (I.base.keep b o e n hb hx) (I.base.free b o e n hx) hb) (lt3 b o e))
    · obtain ⟨sl, q⟩ := upS b hb o e
      exact ⟨sl, by rw [gF b hb]; exact q⟩
    · obtain ⟨o', q⟩ := I.base.there b o e hx
      exact ub.free b o' q (I.base.free b o e n hx)
    · by_cases hb : b ∈ frs X.stack
      · obtain ⟨sl, q⟩ := upS b hb o e
        exact ⟨_, by rw [gF b hb]; exact q⟩
      · obtain ⟨o', q⟩ := I.base.there b o e hx
        obtain ⟨o2, q2⟩ := ub.there b o' q hb
        exact ⟨o2, gB b o2 (b2 b o2 q2 (lt3 b o e))⟩
    · obtain ⟨m1, e1⟩ := I.base.tbls b ps e
      obtain ⟨m2, e2⟩ := ub.tbls b _ e1
      exact ⟨m1 ++ m2, by rw [e2, Array.append_assoc]⟩
  · obtain ⟨e', h⟩ := og b o e
    rcases h with h | h
    · obtain ⟨o', q⟩ := Option.isSome_iff_exists.mp h
      have z := l1 b o' q
      rw [e'] at z; cases z
      exact q
    · exact absurd h hb
end
end Lf
namespace Lf
open PySem PySem.Spec PyProof.Rows L2
section
variable {X : Cx}
/-- as lc_core, the element may raise -/
theorem lc_coreX {E : XK} {W : WX} {pins : List (Addr × Obj)} {s : Shared} {σ : L2.St} {H : Hp} {Q : VK} {elt tg iter : Expr} {ifs : List Expr} {scope : Scope} {own : List (Str × Nat)} {pos pos' : Pos} {wi : TI} {g : TG} {tt : TT} {te : TE} {use : Option (Value → Sem Unit)} {Qf : Value → Shared → Prop}
    (hst : X.stack = X.env :: X.outer) (hf : X.env.frame = some X.env.locals) (tk : Takes X W) (hW : ∀ cls d σ H, E cls d H → W cls d σ H)
    (hc : X.calm = true) (hN : X.N.Nodup) (I : Inv X pins σ H s) (hi : PI X tg iter wi) (ok : BlkOk X.N X.env.scope scope own)
    (hg : ∀ (s : Shared) (H : Hp) (C : Addr) (cl : List (Str × Addr)) (fp : List Addr), PG (X.blk s H scope (compEnvC scope cl C X.env) fp) tg g) (ht : ∀ (s : Shared) (H : Hp) (C : Addr) (cl : List (Str × Addr)) (fp : List Addr), PTs (X.blk s H scope (compEnvC scope cl C X.env) fp) ifs tt)
    (he : ∀ (s : Shared) (H : Hp) (C : Addr) (cl : List (Str × Addr)) (fp : List Addr) (pn : List (Addr × Obj)) (xe : Value → Shared → Prop), Passes (L2.CX X.prog X.w) ((X.blk s H scope (compEnvC scope cl C X.env) fp).tr pn xe) E → PE ((X.blk s H scope (compEnvC scope cl C X.env) fp).tr pn xe) elt te) (hs : ∀ x, foldedSetIterable iter X.env x = pure x)
    (h : tLc wi g tt te (own.map (·.2)) σ H Q)
    (hRR : ∀ D C s' m H', Inv X pins σ H' s' → Q (.ref D) H' → s'.heap.Ns C m → FpOk X pins H' C → compPost (model X.prog X.w) X.A X.xe use Qf (.ref D) C (.ok .next) s') :
    wpAny (model X.prog X.w) X.A (comprehension (.ListComp elt [⟨tg, iter, ifs, 0⟩] scope pos) scope X.env pos' (newList []) false (eval iter X.env) use) Qf X.xe s := by
  have hfree : ∀ y ∈ scope.names, y.2 = .free → ∃ c, X.env.cells.lookup y.1 = some c := fun y hy e => by
    rcases ok.free y hy e with k | k
    · exact I.ok.has _ (.inl k)
    · exact I.ok.has _ (.inr k)
  refine comprehension_freeX (use := use) rfl hs (closure_ok hfree) ok.kind (fun y hy e => by rw [ok.uniq y hy, e])
    (thn (hi.run pins s σ H _ I h) fun xv s1 hx => thn hx fun itv s2 h2 => ?_)
  obtain ⟨it, fp, tn, J, H2, e, I2, T, st2, f2, q⟩ := h2
  subst e
  refine wpAny_newObj_type (newEnv_comp ?_) (by show 0 ≤ sizeLine; decide)
  generalize hD : s2.heap.objs.size = D
  have hDn : H2 D = none := I2.hok.fresh (Nat.le_of_eq hD)
  obtain ⟨W0, ⟨m0, w0⟩, turn⟩ := q D hDn
  -- the new list
  generalize hs3 : ({ s2 with heap := s2.heap.push { cls := .type "list", data := .seq ([] : List Value).toArray } } : Shared) = s3
  have I3 : Inv X pins σ (upd H2 D (.lst [])) s3 := by
    rw [← hs3]
    refine I2.laid (t' := s2.toks) (fun b o e => Heap.get?_push_of_some _ e) (Nat.le_of_eq hD) ⟨Nat.zero_le _, [], 0, .nil, ?_⟩
    rw [← hD]
    exact Heap.get?_push_size _ rfl
  have h3 : s3.heap = s2.heap.push { cls := .type "list", data := .seq ([] : List Value).toArray } := by rw [← hs3]
  have sz : ∀ b ∈ fp, b < s2.heap.objs.size := fun b hb => by
    obtain ⟨o, e, _⟩ := T.obj _ _ st2 b hb
    exact Heap.lt_size e
  have f3 : ∀ b ∈ fp, FpOk X pins (upd H2 D (.lst [])) b ∧ b < s3.heap.objs.size := fun b hb => by
    have hlt := sz b hb
    refine ⟨⟨?_, (f2 b hb).2⟩, by rw [h3, Heap.size_push]; exact Nat.lt_succ_of_lt hlt⟩
    rw [upd_ne (by rw [← hD]; exact Nat.ne_of_lt hlt)]
    exact (f2 b hb).1
  have st3 : tn 0 s3.heap := T.keep _ _ _ st2 fun b _ o e => by rw [h3]; exact Heap.get?_push_of_some _ e
  have I4 := block_start I3 ok hN f3
  have pg := hg s3 (upd H2 D (.lst [])) s3.heap.objs.size (cellsFrom (s3.heap.objs.size + 1) scope.names (cloFrom X.env.cells scope.names [])) fp
  have pt := ht s3 (upd H2 D (.lst [])) s3.heap.objs.size (cellsFrom (s3.heap.objs.size + 1) scope.names (cloFrom X.env.cells scope.names [])) fp
  have pe := he s3 (upd H2 D (.lst [])) s3.heap.objs.size (cellsFrom (s3.heap.objs.size + 1) scope.names (cloFrom X.env.cells scope.names [])) fp
  show codeAny _ _ (.compStart (.ListComp elt [⟨tg, iter, ifs, 0⟩] scope pos) 0 (.ref it) (.ref D) (compEnvC scope (cellsFrom (s3.heap.objs.size + 1) scope.names (cloFrom X.env.cells scope.names [])) s3.heap.objs.size X.env)) (compPostX (model X.prog X.w) X.A X.xe use Qf (.ref D) (compEnvC scope (cellsFrom (s3.heap.objs.size + 1) scope.names (cloFrom X.env.cells scope.names [])) s3.heap.objs.size X.env)) { s3 with heap := pushCells (s3.heap.push { cls := .type "dict", data := .dict #[] }) scope.names }
  have nfp : ∀ b ∈ fp, (upd H2 D (.lst [])) b = none := fun b hb => (f3 b hb).1.1
  generalize hce : compEnvC scope (cellsFrom (s3.heap.objs.size + 1) scope.names (cloFrom X.env.cells scope.names [])) s3.heap.objs.size X.env = ce at I4 pg pt pe ⊢
  have cL : ce.locals = s3.heap.objs.size := by subst hce; rfl
  have cF : ce.frame = X.env.frame := by subst hce; rfl
  generalize hH3 : upd H2 D (.lst []) = H3 at I3 I4 pg pt pe w0 nfp f3
  generalize hs4 : ({ s3 with heap := pushCells (s3.heap.push { cls := .type "dict", data := .dict #[] }) scope.names } : Shared) = s4 at I4 ⊢
  have st4 : tn 0 s4.heap := T.keep _ _ _ st3 fun b _ o e => by rw [← hs4]; exact pushCells_keeps _ _ _ _ (Heap.get?_push_of_some _ e)
  have stat : ∀ {σ' : L2.St} {H' : Hp} {s' : Shared}, Inv (X.blk s3 H3 scope ce fp) [] σ' H' s' → (∀ b ∈ fp, H' b = none) → ∀ b ∈ fp, FpOk (X.blk s3 H3 scope ce fp) [] H' b := fun {σ' H' s'} I' hn b hb =>
    ⟨hn b hb, (I'.ok.exf b hb).1, I'.ok.exfs b hb, .inl hb, fun x c e => (I'.ok.exf b hb).2 x c e, fun p hp => absurd (show p ∈ ([] : List (Addr × Obj)) ++ [] from hp) (by simp)⟩
  have loop : codeAny (model X.prog X.w) X.A (.compLoop (.ListComp elt [⟨tg, iter, ifs, 0⟩] scope pos) 0 (.ref it) (.ref D) ce) (compPostX (model X.prog X.w) X.A X.xe use Qf (.ref D) ce) s4 := by
    refine compLoop_any (fun n s' => ∃ i H', Inv (X.blk s3 H3 scope ce fp) [] (wipe σ (own.map (·.2))) H' s' ∧ tn i s'.heap ∧ (∀ b ∈ fp, H' b = none) ∧ W0 i n H') ?_ m0 ⟨0, H3, I4, st4, nfp, w0⟩
    rintro n s5 ⟨i, H5, I5, st5, n5, w5⟩
    rcases turn i n H5 w5 with ⟨stop, qq⟩ | ⟨go, Nx, hNx, step⟩
    · have td := T.done (X.blk s3 H3 scope ce fp) rfl rfl rfl hc i [] s5 _ H5 (fun _ _ => False) I5 (stat I5 n5) st5 stop
      refine thnF td fun r s6 ⟨hr, I6⟩ => ?_
      subst hr
      -- back in the def's context
      have I7 : Inv X pins σ H5 s6 := I3.call' (ch := fp) I6.os I6.base I6.hok I6.bare fun b hb => ⟨(f3 b hb).1.2.2.2.1, (f3 b hb).1.2.1, (f3 b hb).1.2.2.2.2.1, (f3 b hb).1.2.2.2.2.2⟩
      have nC : H5 s3.heap.objs.size = none := by
        have z : H5 ce.locals = none := I6.free
        rw [cL] at z
        exact z
      obtain ⟨m, hn, _⟩ := I6.loc
      have hn : s6.heap.Ns ce.locals m := hn
      show compPost _ _ _ _ _ _ ce.locals _ _
      rw [cL] at hn ⊢
      exact hRR D s3.heap.objs.size s6 m H5 I7 qq hn (I3.fpOk (Nat.le_refl _) nC)
    · have ti := T.item (X.blk s3 H3 scope ce fp) rfl rfl rfl hc i [] s5 _ H5 (fun _ _ => False) I5 (stat I5 n5) st5 go
      refine thnF ti fun r s6 ⟨u, hr, h6⟩ => ?_
      subst hr
      refine thnF h6 fun _ s7 ⟨x, H7, I7, r7, y7, st7, n7⟩ => ?_
      have I7' := I7.pinned (stat I7 n7) (T.obj _ _ st7)
      refine thnF (pg.run _ s7 _ H7 x u _ I7' r7 (step x H7 y7)) fun _ s8 ⟨σ8, H8, I8, hw8, q8⟩ => ?_
      refine thnF (pt.run _ s8 σ8 H8 _ I8 q8) fun b s9 ⟨H9, I9, q9⟩ => ?_
      -- the turn's end
      have fin : ∀ {s' : Shared} {H' : Hp}, Inv (X.blk s3 H3 scope ce fp) ([] ++ pinsAt fp s7.heap) σ8 H' s' → Nx H' → ∃ m, m < n ∧ ∃ i H', Inv (X.blk s3 H3 scope ce fp) [] (wipe σ (own.map (·.2))) H' s' ∧ tn i s'.heap ∧ (∀ b ∈ fp, H' b = none) ∧ W0 i m H' := fun {s' H'} I' nx => by
        obtain ⟨m', hm, w'⟩ := hNx H' nx
        have pin' : ∀ b ∈ fp, ∀ o, s7.heap.get? b = some o → s'.heap.get? b = some o ∧ H' b = none := fun b hb o e =>
          let z := I'.pin (b, o) (List.mem_append_right _ (List.mem_append_right _ (mem_pinsAt hb e)))
          ⟨z.1, z.2.1⟩
        have hl : (wipe σ (own.map (·.2))).length = σ8.length := by rw [← hw8, wipe_length]
        refine ⟨m', hm, i + 1, H', (I'.unpinned (pins := [])).weak hl (fun j v e => ?_), T.keep _ _ _ st7 fun b hb o e => (pin' b hb o e).1, fun b hb => ?_, w'⟩
        · rw [← hw8] at e
          exact (wipe_some e).1
        · obtain ⟨o, e, _⟩ := T.obj _ _ st7 b hb
          exact (pin' b hb o e).2
      cases b with
      | false =>
        simp only [Bool.false_eq_true, if_false] at q9 ⊢
        exact fin I9 q9
      | true =>
        simp only [if_true] at q9 ⊢
        have pe' := pe ((X.blk s3 H3 scope ce fp).pn ++ ([] ++ pinsAt fp s7.heap)) (notedBy (model X.prog X.w) X.A ce fun e s'' => compPostX (model X.prog X.w) X.A X.xe use Qf (.ref D) ce (.error e) s'')
          (fun pins' σ' H' s u s' I' c => blk_raise hst hf tk hW I3 (fun b hb => (f3 b hb).1) cF cL I' c)
        refine wpAny_mono (pe'.run [] s9 σ8 H9 _ (I9.toTry _) q9) (fun z s10 ⟨yv, H10, I10, r10, acc, hD10, hz10, nx⟩ => ?_) fun _ _ z => z
        have I10' := I10.ofTry I9.ok
        exact app_ok (X := X.blk s3 H3 scope ce fp) I10' hD10 hz10 r10 fun s11 I11 => fin I11 nx
  exact codeAny_compStart_list loop (T.self X.A 0 _ _ _ st4 loop)
/-- as a value -/
theorem pe_lcX {E : XK} {W : WX} {elt tg iter : Expr} {ifs : List Expr} {scope : Scope} {own : List (Str × Nat)} {pos : Pos} {wi : TI} {g : TG} {tt : TT} {te : TE}
    (hst : X.stack = X.env :: X.outer) (hf : X.env.frame = some X.env.locals) (tk : Takes X W) (hW : ∀ cls d σ H, E cls d H → W cls d σ H) (hc : X.calm = true) (hN : X.N.Nodup) (hi : PI X tg iter wi) (ok : BlkOk X.N X.env.scope scope own)
    (hg : ∀ (s : Shared) (H : Hp) (C : Addr) (cl : List (Str × Addr)) (fp : List Addr), PG (X.blk s H scope (compEnvC scope cl C X.env) fp) tg g) (ht : ∀ (s : Shared) (H : Hp) (C : Addr) (cl : List (Str × Addr)) (fp : List Addr), PTs (X.blk s H scope (compEnvC scope cl C X.env) fp) ifs tt)
    (he : ∀ (s : Shared) (H : Hp) (C : Addr) (cl : List (Str × Addr)) (fp : List Addr) (pn : List (Addr × Obj)) (xe : Value → Shared → Prop), Passes (L2.CX X.prog X.w) ((X.blk s H scope (compEnvC scope cl C X.env) fp).tr pn xe) E → PE ((X.blk s H scope (compEnvC scope cl C X.env) fp).tr pn xe) elt te) (hs : ∀ x, foldedSetIterable iter X.env x = pure x := by intro _; rfl) :
    PE X (.ListComp elt [⟨tg, iter, ifs, 0⟩] scope pos) (tLc wi g tt te (own.map (·.2))) := by
  refine ⟨fun pins s σ H Q I h => ?_⟩
  rw [eval_ListComp]
  refine lc_coreX hst hf tk hW hc hN I hi ok hg ht he hs h fun D C s' m H' I' q hn f => ⟨m, hn, fun h'' sb => ?_⟩
  obtain ⟨f0, f1, f2, f3, f4, f5⟩ := f
  exact ⟨.ref D, H', I'.turned (t' := s'.toks) (fun b o hb e => (sb.2 b hb).trans e) f0 f1 f3 f4 f5, rfl, q⟩
end
end Lf
namespace Lf
open PySem PySem.Spec PyProof.Rows L2
/-! ### data of any form, and what programs must be -/
inductive B where
  | non | bl (b : Bool) | int (i : Int) | str (x : Str) | lst | tup (bs : List B)
mutual
def Rb (K : PySem.W.Frag) (H : Hp) : B → V → Prop
  | .non, v => v = .non
  | .bl b, v => v = .bl b
  | .int i, v => v = .int i
  | .str x, v => v = .str x ∧ x.length ≤ 1000
  | .lst, v => ∃ a xs, v = .ref a ∧ H a = some (.lst xs)
  | .tup bs, v => ∃ a vs, v = .ref a ∧ SqT K H a vs ∧ vs.length ≤ 1000 ∧ RbL K H bs vs
def RbL (K : PySem.W.Frag) (H : Hp) : List B → List V → Prop
  | [], vs => vs = []
  | d :: ds, vs => ∃ v r, vs = v :: r ∧ Rb K H d v ∧ RbL K H ds r
end
/-- tuples stay, lists stay lists -/
def Kb (H H' : Hp) : Prop := Kp H H' ∧ ∀ a xs, H a = some (.lst xs) → ∃ ys, H' a = some (.lst ys)
section
variable {H H1 H2 : Hp} {K : PySem.W.Frag} {a p : Addr} {xs : List V}
theorem Kb.refl (H : Hp) : Kb H H := ⟨Kp.refl H, fun _ xs e => ⟨xs, e⟩⟩
theorem Kb.trans (h : Kb H H1) (g : Kb H1 H2) : Kb H H2 := ⟨h.1.trans g.1, fun a xs e => by
  obtain ⟨ys, e2⟩ := h.2 a xs e
  exact g.2 a ys e2⟩
theorem Fr.kb0 (h : Fr [] H H1) : Kb H H1 := ⟨h.kp0, fun a xs e => ⟨xs, h.at e⟩⟩
theorem Fr.kbL (h : Fr [p] H H1) (e : H p = some (.lst xs)) {ys : List V} (e2 : H1 p = some (.lst ys)) : Kb H H1 := ⟨h.kpL e, fun a zs ea => by
  by_cases c : a = p
  · subst c; exact ⟨ys, e2⟩
  · exact ⟨zs, h.at1 ea c⟩⟩
mutual
theorem Rb.mono (k : Kb H H1) : ∀ {d : B} {v : V}, Rb K H d v → Rb K H1 d v
  | .non, _, h => h
  | .bl _, _, h => h
  | .int _, _, h => h
  | .str _, _, h => h
  | .lst, _, ⟨a, xs, e, s⟩ => by
    obtain ⟨ys, s2⟩ := k.2 a xs s
    exact ⟨a, ys, e, s2⟩
  | .tup _, _, ⟨a, vs, e, s, l, r⟩ => ⟨a, vs, e, k.1.sq s, l, RbL.mono k r⟩
theorem RbL.mono (k : Kb H H1) : ∀ {ds : List B} {vs : List V}, RbL K H ds vs → RbL K H1 ds vs
  | [], _, h => h
  | _ :: _, _, ⟨v, r, e, h, t⟩ => ⟨v, r, e, Rb.mono k h, RbL.mono k t⟩
end
theorem RbL.length : ∀ {ds : List B} {vs : List V}, RbL K H ds vs → vs.length = ds.length
  | [], _, h => by cases h; rfl
  | _ :: _, _, ⟨_, r, e, _, t⟩ => by cases e; simp [RbL.length t]
theorem RbL.at : ∀ {ds : List B} {vs : List V} {i : Nat} {d : B}, RbL K H ds vs → ds[i]? = some d → ∃ v, vs[i]? = some v ∧ Rb K H d v
  | _ :: _, _, 0, d, ⟨v, r, e, h, t⟩, q => by
    cases e; cases q
    exact ⟨v, rfl, h⟩
  | _ :: _, _, i + 1, d, ⟨v, r, e, h, t⟩, q => by
    cases e
    have q' : _ := q
    rw [List.getElem?_cons_succ] at q'
    obtain ⟨u, e1, e2⟩ := RbL.at t q'
    exact ⟨u, by rw [List.getElem?_cons_succ]; exact e1, e2⟩
end
def tyB : B → String
  | .non => "NoneType" | .bl _ => "bool" | .int _ => "int" | .str _ => "str" | .lst => "list" | .tup _ => "tuple"
def isStr : B → Bool | .str _ => true | _ => false
def isTup : B → Bool | .tup _ => true | _ => false
def isInt : B → Bool | .int _ => true | .bl _ => true | _ => false
def isBl : B → Bool | .bl _ => true | _ => false
theorem ty_B {K : PySem.W.Frag} {H : Hp} : ∀ {b : B} {v : V}, Rb K H b v → TyX K H v (.type (tyB b))
  | .non, _, h => by cases h; exact .base .non
  | .bl _, _, h => by cases h; exact .base (.bl _)
  | .int _, _, h => by cases h; exact .base (.int _)
  | .str _, _, h => by cases h.1; exact .base (.str _)
  | .lst, _, ⟨a, xs, e, s⟩ => by subst e; exact ty_list (SqL.of s)
  | .tup _, _, ⟨a, vs, e, s, _, _⟩ => by subst e; exact ty_tup s
theorem kit_str (b : B) : kitB (tyB b) "str" = some (isStr b) := by cases b <;> (simp only [tyB, isStr]; decide +kernel)
theorem kit_tup (b : B) : kitB (tyB b) "tuple" = some (isTup b) := by cases b <;> (simp only [tyB, isTup]; decide +kernel)
theorem kit_int (b : B) : kitB (tyB b) "int" = some (isInt b) := by cases b <;> (simp only [tyB, isInt]; decide +kernel)
theorem kit_bl (b : B) : kitB (tyB b) "bool" = some (isBl b) := by cases b <;> (simp only [tyB, isBl]; decide +kernel)
section
variable {K : PySem.W.Frag} {H : Hp} {Q : VK} {b : B} {v : V}
theorem rd_isStr (h : Rb K H b v) (q : Q (.bl (isStr b)) H) : rIsi K [v, .ty "str"] H Q := rd_isi (ty_B h) (kit_str b) q
theorem rd_isTup (h : Rb K H b v) (q : Q (.bl (isTup b)) H) : rIsi K [v, .ty "tuple"] H Q := rd_isi (ty_B h) (kit_tup b) q
theorem rd_isInt (h : Rb K H b v) (q : Q (.bl (isInt b)) H) : rIsi K [v, .ty "int"] H Q := rd_isi (ty_B h) (kit_int b) q
theorem rd_isBl (h : Rb K H b v) (q : Q (.bl (isBl b)) H) : rIsi K [v, .ty "bool"] H Q := rd_isi (ty_B h) (kit_bl b) q
end
def LET : Str := "abcdefghijklmnopqrstuvwxyz"
def okName : B → Bool
  | .str x => decide (1 ≤ x.length) && decide (x.length ≤ 8) && x.cps.toList.all (fun c => decide (c ∈ LET.cps.toList))
  | _ => false
def okTup (m : Nat) : B → Bool
  | .tup (.str _ :: r) => decide (r.length + 1 = m)
  | _ => false
def okNum : B → Bool
  | .int i => decide (0 ≤ i) && decide (i ≤ 999)
  | _ => false
def okBody (f : B → Bool) (w : Str) (r : List B) : Bool :=
  if w = "num" then (match r with | [x] => okNum x | _ => false)
  else if w = "name" then (match r with | [x] => okName x | _ => false)
  else if w = "add" ∨ w = "times" then (match r with | [x, y] => f x && f y | _ => false)
  else false
def okPart : Nat → B → Bool
  | m + 1, .tup (.str w :: r) => okBody (okPart m) w r
  | _, _ => false
def sumO (f : B → Option Nat) : List B → Option Nat
  | [] => some 0
  | b :: r => (f b).bind fun a => (sumO f r).map (a + ·)
def rowBy (f : B → Option Nat) : B → Option Nat
  | .tup [.str w, .tup bs] => if w = "row" then sumO f bs else none
  | _ => none
def stBy (g : B → Option Nat) : B → Option Nat
  | .tup (.str w :: r) =>
    if w = "say" then (match r with | [x] => if okPart 5 x = true then some 1 else none | _ => none)
    else if w = "set" then (match r with | [x, y] => if okName x = true ∧ okPart 5 y = true then some 1 else none | _ => none)
    else if w = "lap" then (match r with | [x, y, z] => if okName x = true ∧ okPart 5 y = true then (g z).map (1 + ·) else none | _ => none)
    else none
  | _ => none
def okSt : Nat → B → Option Nat
  | 0 => stBy fun _ => none
  | m + 1 => stBy (rowBy (okSt m))
def okRow (m : Nat) : B → Option Nat := rowBy (okSt m)
def okProg (b : B) : Bool := match okRow 3 b with | some n => decide (n ≤ 40) | none => false
theorem str_of {b : B} (h : isStr b = true) : ∃ x, b = .str x := by cases b <;> simp [isStr] at h; exact ⟨_, rfl⟩
theorem tup_of {b : B} (h : isTup b = true) : ∃ bs, b = .tup bs := by cases b <;> simp [isTup] at h; exact ⟨_, rfl⟩
theorem sumO_split (f : B → Option Nat) : ∀ (k : Nat) (bs : List B) (ns : List Nat), (bs.take k).map f = ns.map some → sumO f bs = (sumO f (bs.drop k)).map (ns.sum + ·)
  | 0, bs, ns, h => by
    have : ns = [] := by cases ns with | nil => rfl | cons a l => simp at h
    subst this
    simp
  | k + 1, [], ns, h => by
    have : ns = [] := by cases ns with | nil => rfl | cons a l => simp at h
    subst this
    simp
  | k + 1, b :: r, ns, h => by
    cases ns with
    | nil => simp at h
    | cons a l =>
      simp only [List.take_succ_cons, List.map_cons, List.cons.injEq] at h
      have ih := sumO_split f k r l h.2
      simp only [sumO, List.drop_succ_cons, List.sum_cons, h.1, Option.bind_some, ih]
      cases sumO f (r.drop k) <;> simp [Nat.add_assoc]
end Lf
namespace Lf
open PySem PySem.Spec PyProof.Rows L2
/-! ### defs that may raise, methods, makers -/
section
variable {P : Program} {w : World} {K : PySem.W.Frag} {mg : Str → Option Value} {base : Heap}
theorem Here.okX {x : Str} {st : Stmt} {N ps : List Str} {k : Nat} {sp : Sp} (F : Here K mg x st ps) (S : FnScope N ps (defScope st)) (len : ∀ vs H Q E, sp vs H Q E → vs.length = ps.length)
    (hbody : ∀ (f : Addr) (cdv : Value) (A : Around) (outer : List Env) (s : Shared) (H : Hp) (vs : List V) (Q : VK) (E : XK), Room k (A.deeper (envOfC x (defScope st) s.heap.objs.size f cdv)) → sp vs H Q E →
      ∃ t, PSs (cxOf (L2.CX P w) P w K mg base N x (defScope st) f cdv A outer s H E) (defBody st) t ∧ t { nx := fun _ H' => Q .non H', rt := Q } (start N vs) H) : DefOk P w K mg base (L2.CX P w) x ps (k + 1) sp := by
  obtain ⟨f, fd, F, hm, hb⟩ := F.ex
  exact ⟨f, fd, F.okX S len (hbody f), F.kp, hb, hm⟩
structure HereM (K : PySem.W.Frag) (C : Addr) (m qual : Str) (st : Stmt) (ps : List Str) : Prop where
  ex : ∃ (f : Addr) (fd : FuncData), Fun K m qual st f fd ∧ Meth K C m f ∧ Binds K fd ps []
structure MethOk (P : Program) (w : World) (K : PySem.W.Frag) (mg : Str → Option Value) (base : Heap) (CX : CXT) (C : Addr) (m : Str) (ps : List Str) (k : Nat) (sp : Sp) : Prop where
  ex : ∃ (f : Addr) (fd : FuncData), FnOk P w K mg base CX k f fd ps sp ∧ Meth K C m f ∧ Binds K fd ps []
structure HereI (K : PySem.W.Frag) (mg : Str → Option Value) (C : Addr) (x qual : Str) (st : Stmt) (ps : List Str) : Prop where
  ex : ∃ (f : Addr) (fd : FuncData), Fun K "__init__" qual st f fd ∧ Mk K C f ∧ Binds K fd ps [] ∧ mg x = some (.ref C)
structure MakeOk (P : Program) (w : World) (K : PySem.W.Frag) (mg : Str → Option Value) (base : Heap) (CX : CXT) (C : Addr) (x : Str) (ps : List Str) (k : Nat) (sp : Sp) : Prop where
  ex : ∃ (f : Addr) (fd : FuncData), FnOk P w K mg base CX k f fd ps sp ∧ Mk K C f ∧ Binds K fd ps [] ∧ mg x = some (.ref C)
theorem HereM.okX {C : Addr} {m qual : Str} {st : Stmt} {N ps : List Str} {k : Nat} {sp : Sp} (F : HereM K C m qual st ps) (S : FnScope N ps (defScope st)) (len : ∀ vs H Q E, sp vs H Q E → vs.length = ps.length)
    (hbody : ∀ (f : Addr) (cdv : Value) (A : Around) (outer : List Env) (s : Shared) (H : Hp) (vs : List V) (Q : VK) (E : XK), Room k (A.deeper (envOfC qual (defScope st) s.heap.objs.size f cdv)) → sp vs H Q E →
      ∃ t, PSs (cxOf (L2.CX P w) P w K mg base N qual (defScope st) f cdv A outer s H E) (defBody st) t ∧ t { nx := fun _ H' => Q .non H', rt := Q } (start N vs) H) : MethOk P w K mg base (L2.CX P w) C m ps (k + 1) sp := by
  obtain ⟨f, fd, F, hm, hb⟩ := F.ex
  exact ⟨f, fd, F.okX S len (hbody f), hm, hb⟩
theorem HereM.none {C : Addr} {m qual : Str} {st : Stmt} {N ps : List Str} {sp : Sp} (F : HereM K C m qual st ps) (S : FnScope N ps (defScope st)) (h : ∀ vs H Q E, ¬ sp vs H Q E) : MethOk P w K mg base (L2.CX P w) C m ps 1 sp :=
  F.okX (k := 0) S (fun vs H Q E q => absurd q (h vs H Q E)) (fun _ _ _ _ _ _ _ _ _ _ q => absurd q (h _ _ _ _))
theorem HereI.ok {C : Addr} {x qual : Str} {st : Stmt} {N ps : List Str} {k : Nat} {sp : Sp} (F : HereI K mg C x qual st ps) (S : FnScope N ps (defScope st)) (len : ∀ vs H Q E, sp vs H Q E → vs.length = ps.length)
    (hbody : ∀ (f : Addr) (cdv : Value) (A : Around) (outer : List Env) (s : Shared) (H : Hp) (vs : List V) (Q : VK) (E : XK), Room k (A.deeper (envOfC qual (defScope st) s.heap.objs.size f cdv)) → sp vs H Q E →
      ∃ t, PSs (cxOf CX0 P w K mg base N qual (defScope st) f cdv A outer s H E).nox (defBody st) t ∧ t { nx := fun _ H' => Q .non H', rt := Q } (start N vs) H) : MakeOk P w K mg base CX0 C x ps (k + 1) sp := by
  obtain ⟨f, fd, F, hm, hb, hg⟩ := F.ex
  exact ⟨f, fd, F.ok S len (hbody f), hm, hb, hg⟩
theorem MethOk.mono {CX : CXT} {C : Addr} {m : Str} {ps : List Str} {j k : Nat} {sp : Sp} (F : MethOk P w K mg base CX C m ps j sp) (h : j ≤ k) : MethOk P w K mg base CX C m ps k sp := by
  obtain ⟨f, fd, F, r⟩ := F.ex
  exact ⟨f, fd, F.mono h, r⟩
theorem hereM_mk {C : Addr} {x qual : Str} {st : Stmt} {ps : List Str} {f : Addr} {oc : Value} {od an : Option Addr} {osl : Array (Option Value)} {kV doc pm cdv ct : Value}
    (a : PySem.W.findIn K (.ref C) x = some (some (.ref f))) (i : PySem.W.isFn K (.ref f) = true)
    (l : K.lookup f = some ⟨oc, od, .func (PySem.W.fnOf x qual (defArgs st) (defBody st) (defScope st) .none kV doc pm an cdv ct), osl⟩)
    (c : PySem.W.codeIn K cdv qual = true) (k : PySem.W.keepIn K (.ref f) = true)
    (hb : ∀ (us : List Value), us.length = ps.length → bindArgs (PySem.W.fnOf x qual (defArgs st) (defBody st) (defScope st) .none kV doc pm an cdv ct) ⟨us, []⟩ = pure (ps.zip us)) : HereM K C x qual st ps :=
  ⟨f, _, fun_mk (st := st) l c k, ⟨a, i, k⟩, Binds.all hb⟩
theorem hereI_mk {h : Heap} {C : Addr} {x qual : Str} {st : Stmt} {ps : List Str} {f : Addr} {oc : Value} {od an : Option Addr} {osl : Array (Option Value)} {kV doc pm cdv ct : Value} (X : K.In h) (G : h.Ns mainGlobals mg)
    (g : PySem.W.nsIn K mainGlobals x = some (some (.ref C))) (mk : PySem.W.makesIn K C = true) (kc : PySem.W.keepIn K (.ref C) = true)
    (a : PySem.W.findIn K (.ref C) "__init__" = some (some (.ref f))) (i : PySem.W.isFn K (.ref f) = true)
    (l : K.lookup f = some ⟨oc, od, .func (PySem.W.fnOf "__init__" qual (defArgs st) (defBody st) (defScope st) .none kV doc pm an cdv ct), osl⟩)
    (c : PySem.W.codeIn K cdv qual = true) (k : PySem.W.keepIn K (.ref f) = true)
    (hb : ∀ (us : List Value), us.length = ps.length → bindArgs (PySem.W.fnOf "__init__" qual (defArgs st) (defBody st) (defScope st) .none kV doc pm an cdv ct) ⟨us, []⟩ = pure (ps.zip us)) : HereI K mg C x qual st ps :=
  ⟨f, _, fun_mk (st := st) l c k, ⟨mk, a, i, kc⟩, Binds.all hb, PySem.W.mg_of X G g⟩
end
section
variable {X : Cx} {CX : CXT} {k : Nat} {C : Addr} {ps : List Str} {sp : Sp} {E : XK} {x m : Str} {p pos apos : Pos} {e o : Expr} {es : List Expr} {ta : TE} {t : TA}
theorem pe_methD {pl : Sem Bool} (c : Cls X.K C) (F : MethOk X.prog X.w X.K X.mg X.base CX C m ps k sp) (hr : Room k X.A) (hx : Passes CX X E) (he : PE X o ta) (ha : PA X (e :: es) t)
    (hst : starEach (e :: es) X.env = (false, eval e X.env) :: starEach es X.env := by rfl) (hpl : (backTo pos (starEach es X.env)).any (·.1) = false := by rfl)
    (ht : eval (.Call (.Attribute o m apos) (e :: es) [] pos) X.env = (do
      let ov ← eval o X.env
      standAt apos.atName
      let (f, first) ← holding [ov] (getMethod ov m pl)
      callWith pos f first (backTo pos (starEach (e :: es) X.env)) (backToKw pos (keywordEach [] X.env))) := by rfl) : PE X (.Call (.Attribute o m apos) (e :: es) [] pos) (tMeth C m sp [] E ta t) := by
  obtain ⟨f, fd, F, hm, hb⟩ := F.ex
  exact pe_meth he c hm F hr hb .nil hx ha hst hpl ht
theorem pe_makeD (F : MakeOk X.prog X.w X.K X.mg X.base CX C x ps k sp) (hr : Room (k + 1) X.A) (hx : Passes CX X E) (ha : PA X (e :: es) t) (hg : Gl X x := by rfl) (hdb : (x == ("__debug__" : Str)) = false := by decide)
    (he : starEach (e :: es) X.env = (false, eval e X.env) :: starEach es X.env := by rfl) (hpl : (backTo pos (starEach es X.env)).any (·.1) = false := by rfl) : PE X (.Call (.Name x p) (e :: es) [] pos) (tMake C sp [] E t) := by
  obtain ⟨f, fd, F, hm, hb, hmg⟩ := F.ex
  exact pe_make hm F hr hg hmg hb .nil hx ha hdb he hpl
theorem pe_callSD {E : L2.St → XK} (F : DefOk X.prog X.w X.K X.mg X.base CX x ps k sp) (hr : Room k X.A) (hx : ∀ σ, PassesAt CX X σ (E σ)) (ha : PA X (e :: es) t) (hg : Gl X x := by rfl) (hdb : (x == ("__debug__" : Str)) = false := by decide)
    (he : starEach (e :: es) X.env = (false, eval e X.env) :: starEach es X.env := by rfl) (hpl : (backTo pos (starEach es X.env)).any (·.1) = false := by rfl) : PE X (.Call (.Name x p) (e :: es) [] pos) (tCallS sp E t) := by
  obtain ⟨f, fd, F, hk, hb, hm⟩ := F.ex
  exact pe_callS F hr hg hm hk hb hx ha hdb he hpl
end
/-- an own error over ValueError: what the top has written of it -/
structure ErrTxt (K : PySem.W.Frag) (mg : Str → Option Value) (x : Str) (C : Addr) : Prop where
  g : mg x = some (.ref C)
  x : PySem.W.excIn K C [.type "ValueError", .type "Exception", .type "BaseException", .type "object"] "ValueError.__new__" = true
  k : PySem.W.keepIn K (.ref C) = true
  b : PySem.W.subIn K (.ref C) (.type "BaseException") = some true
  t : PySem.W.typeIn K (.ref C) = some (.type "type")
  e : PySem.W.exmOne K (.ref C) (.ref C) = some true
/-! ### readings: fields, methods, makers, stores in dicts -/
def GF (K : PySem.W.Frag) (f : Str) (x : V) (H : Hp) (Q : VK) : Prop := ∃ a C dx fs v, x = .ref a ∧ H a = some (.ins C dx fs) ∧ Cls K C ∧ NoAttr K C f ∧ fs.lookup f = some v ∧ Q v H
def GS (K : PySem.W.Frag) (f : Str) (y x : V) (σ : L2.St) (H : Hp) (N : L2.St → Hp → Prop) : Prop := ∃ a C dx fs, x = .ref a ∧ H a = some (.ins C dx fs) ∧ Cls K C ∧ NoAttr K C f ∧ fs.length < 1000 ∧ N σ (upd H a (.ins C dx (putF f y fs)))
def GM (C : Addr) (m : Str) (sp : Sp) (E : XK) (t : TA) (x : V) (σ : L2.St) (H : Hp) (Q : VK) : Prop := ∃ a dx fs, x = .ref a ∧ H a = some (.ins C dx fs) ∧ fs.lookup m = none ∧ t σ H fun vs H2 => sp (x :: (vs ++ [])) H2 Q E
def GP (v x y : V) (σ : L2.St) (H : Hp) (N : L2.St → Hp → Prop) : Prop := ∃ a H4, x = .ref a ∧ DPut H a y v H4 ∧ N σ H4
def GG (x y : V) (H : Hp) (Q : VK) : Prop := ∃ a v, x = .ref a ∧ DGet H a y (some v) ∧ Q v H
def GN (y x : V) (H : Hp) (Q : VK) : Prop := ∃ a o, x = .ref a ∧ DGet H a y o ∧ Q (.bl (!o.isSome)) H
section
variable {K : PySem.W.Frag} {σ : L2.St} {H : Hp} {Q : VK} {ta tv td ty : TE} {t : TA} {f m : Str} {D : Ends} {C : Addr} {sp : Sp} {E : XK}
theorem rd_fld (q : ta σ H fun x H1 => GF K f x H1 Q) : tFld K ta f σ H Q := q
theorem rd_sfld (q : tv σ H fun y H1 => ta σ H1 fun x H2 => GS K f y x σ H2 D.nx) : sFld K ta tv f D σ H := q
theorem rd_meth (q : ta σ H fun x H1 => GM C m sp E t x σ H1 Q) : tMeth C m sp [] E ta t σ H Q := q
theorem rd_dput (q : tv σ H fun v H1 => td σ H1 fun x H2 => ty σ H2 fun y H3 => GP v x y σ H3 D.nx) : sDPut td ty tv D σ H := q
theorem rd_dget (q : td σ H fun x H1 => ty σ H1 fun y H2 => GG x y H2 Q) : tDGet td ty σ H Q := q
theorem rd_dnin (q : ty σ H fun y H1 => td σ H1 fun x H2 => GN y x H2 Q) : tDNotIn ty td σ H Q := q
theorem rd_make (q : t σ H fun vs H1 => ∀ x dx, H1 x = none → H1 dx = none → dx ≠ x → sp (.ref x :: (vs ++ [])) (upd (upd H1 dx (.own x)) x (.ins C dx [])) (fun v H2 => v = .non ∧ Q (.ref x) H2) E) : tMake C sp [] E t σ H Q := q
theorem rd_gf {a dx : Addr} {fs : List (Str × V)} {v : V} (c : Cls K C) (n : NoAttr K C f) (h : H a = some (.ins C dx fs)) (l : fs.lookup f = some v) (q : Q v H) : GF K f (.ref a) H Q := ⟨a, C, dx, fs, v, rfl, h, c, n, l, q⟩
theorem rd_gs {a dx : Addr} {fs : List (Str × V)} {v : V} {N : L2.St → Hp → Prop} (c : Cls K C) (n : NoAttr K C f) (h : H a = some (.ins C dx fs)) (l : fs.length < 1000) (q : N σ (upd H a (.ins C dx (putF f v fs)))) : GS K f v (.ref a) σ H N := ⟨a, C, dx, fs, rfl, h, c, n, l, q⟩
theorem rd_gm {a dx : Addr} {fs : List (Str × V)} (h : H a = some (.ins C dx fs)) (l : fs.lookup m = none) (q : t σ H fun vs H2 => sp (.ref a :: (vs ++ [])) H2 Q E) : GM C m sp E t (.ref a) σ H Q := ⟨a, dx, fs, rfl, h, l, q⟩
theorem rd_gp {a : Addr} {kvs : List (L2.Key × V)} {x : Str} {v : V} {N : L2.St → Hp → Prop} (h : H a = some (.dK kvs)) (l : kvs.length < sizeLine) (q : N σ (upd H a (.dK (putK kvs (.inr x) v)))) : GP v (.ref a) (.str x) σ H N := ⟨a, _, rfl, DPut.k (k := .inr x) h l, q⟩
theorem rd_gg {a : Addr} {kvs : List (L2.Key × V)} {x : Str} {v : V} (h : H a = some (.dK kvs)) (e : valV kvs (.inr x) = some v) (q : Q v H) : GG (.ref a) (.str x) H Q := ⟨a, v, rfl, by rw [← e]; exact DGet.k (k := .inr x) h, q⟩
theorem rd_gn {a : Addr} {kvs : List (L2.Key × V)} {x : Str} (h : H a = some (.dK kvs)) (q : Q (.bl (!(valV kvs (.inr x)).isSome)) H) : GN (.str x) (.ref a) H Q := ⟨a, _, rfl, DGet.k (k := .inr x) h, q⟩
theorem rd_app1 {a : Addr} {xs : List V} {v : V} (h : H a = some (.lst xs)) (hl : xs.length < sizeLine) (q : ∀ H2, Fr [a] H H2 → Kp H H2 → H2 a = some (.lst (xs ++ [v])) → Q .non H2) : rAppend (.ref a) [v] H Q :=
  ⟨a, xs, v, rfl, rfl, h, hl, q _ ((Fr.refl [a] H).put (by simp)) (((Fr.refl [a] H).put (by simp)).kpL h) upd_same⟩
end
theorem Fr.kpM {M : List Addr} {H H1 : Hp} (h : Fr M H H1) (n : ∀ a ∈ M, ∃ o, H a = some o ∧ (∀ xs, o ≠ .tup xs) ∧ ∀ xs ob, o ≠ .frz ob (.tup xs)) : Kp H H1 := fun a ys s => by
  have key : ∀ o, H a = some o → ((∃ xs, o = .tup xs) ∨ ∃ xs ob, o = .frz ob (.tup xs)) → a ∉ M := fun o e c z => by
    obtain ⟨o2, e2, n1, n2⟩ := n a z
    rw [e] at e2; cases e2
    rcases c with ⟨xs, rfl⟩ | ⟨xs, ob, rfl⟩
    · exact n1 _ rfl
    · exact n2 _ _ rfl
  rcases s with s | ⟨o, s⟩
  · exact .inl (h.at s (key _ s (.inl ⟨_, rfl⟩)))
  · exact .inr ⟨o, h.at s (key _ s (.inr ⟨_, _, rfl⟩))⟩
end Lf
namespace Lf
open PySem PySem.Spec PyProof.Rows L2
def Ends2 (C : Addr) (b : Bool) (H : Hp) (Q : VK) (E : XK) : Prop := (b = true → ∀ H2, Fr [] H H2 → Q .non H2) ∧ (b = false → ∀ H2, Fr [] H H2 → E (.ref C) none H2)
def EndsN (C : Addr) (o : Option Nat) (H : Hp) (Q : VK) (E : XK) : Prop := (∀ n : Nat, o = some n → ∀ H2, Fr [] H H2 → Q (.int (n : Int)) H2) ∧ (o = none → ∀ H2, Fr [] H H2 → E (.ref C) none H2)
theorem rd_chain {σ : L2.St} {H : Hp} {Q : VK} {r r' : R2} {ta tb tc : TE} (q : ta σ H fun x H1 => tb σ H1 fun y H2 => r x y H2 fun z H3 => AndB z (fun σ H Q => tc σ H fun w H4 => r' y w H4 Q) σ H3 Q) : tChain r r' ta tb tc σ H Q := q
theorem rd_all {K : PySem.W.Frag} {H : Hp} {Q : VK} {a : Addr} {bs : List Bool} (h : SqL K H a (bs.map V.bl)) (q : Q (.bl (bs.all id)) H) : rAll K [.ref a] H Q := ⟨a, bs, rfl, h, q⟩
def IsSt (x : V) (H : Hp) (W : It → Hp → Prop) : Prop := ∃ s, x = .str s ∧ W (Its s) H
theorem rd_istr {σ : L2.St} {H : Hp} {te : TE} {W : It → Hp → Prop} (q : te σ H fun x H1 => IsSt x H1 W) : iStr te σ H W := q
theorem rd_isst {H : Hp} {s : Str} {W : It → Hp → Prop} (q : W (Its s) H) : IsSt (.str s) H W := ⟨s, rfl, q⟩
theorem rd_lcS {σ : L2.St} {H : Hp} {Q : VK} {tt : TT} {te : TE} {g : TG} {vs : List Nat} (x : Str) (q : ∀ D H1, H D = none → Fr [] H H1 → H1 D = some (.lst []) → ∃ Pv : Nat → List V → Hp → Prop, Pv 0 [] H1 ∧
    (∀ k c acc H', x.cps.toList[k]? = some c → H' D = some (.lst acc) → Pv k acc H' → g (.str ⟨#[c]⟩) (wipe σ vs) H' fun σ2 H2 => LcIn tt te vs σ D (LcP D Pv (k + 1)) σ2 H2) ∧ ∀ acc H', H' D = some (.lst acc) → Pv x.cps.toList.length acc H' → Q (.ref D) H') : LcT (Its x) g tt te vs σ H Q := fun D hD => by
  obtain ⟨Pv, h0, hs, hd⟩ := q D (upd H D (.lst [])) hD ((Fr.refl [] H).new hD) upd_same
  refine ⟨fun i m H => m = x.cps.size - i ∧ i ≤ x.cps.size ∧ LcP D Pv i H, ⟨x.cps.size, by simp, Nat.zero_le _, [], upd_same, h0⟩, ?_⟩
  rintro i m H ⟨rfl, hi, acc, e, p⟩
  by_cases hlt : i < x.cps.size
  · refine .inr ⟨hlt, LcP D Pv (i + 1), fun H' p' => ⟨x.cps.size - (i + 1), by omega, rfl, hlt, p'⟩, fun v H' y => ?_⟩
    obtain ⟨rfl, c, hc, rfl⟩ := y
    exact hs i c acc _ (by rw [Array.getElem?_toList]; exact hc) e p
  · have e2 : i = x.cps.toList.length := by rw [Array.length_toList]; omega
    subst e2
    exact .inl ⟨by rw [Array.length_toList]; exact Nat.le_refl _, hd acc H e p⟩
theorem atI_k {xs : List V} {v : V} (i : Nat) (h : xs[i]? = some v) : atI xs (i : Int) = some v := atI_nat h
theorem atI_0 {v : V} {r : List V} : atI (v :: r) 0 = some v := atI_k 0 rfl
theorem atI_1 {u v : V} {r : List V} : atI (u :: v :: r) 1 = some v := atI_k 1 rfl
def spNeed (C : Addr) : Sp := fun vs H Q E => ∃ b, vs = [.bl b] ∧ Ends2 C b H Q E
def spNTup (K : PySem.W.Frag) (C : Addr) : Sp := fun vs H Q E => ∃ v b m, vs = [v, .int ((m : Nat) : Int)] ∧ 1 ≤ m ∧ Rb K H b v ∧ Ends2 C (okTup m b) H Q E
def spNName (K : PySem.W.Frag) (C : Addr) : Sp := fun vs H Q E => ∃ v b, vs = [v] ∧ Rb K H b v ∧ Ends2 C (okName b) H Q E
/-- the consts of the forms -/
structure CFm (mg : Str → Option Value) : Prop where
  letters : ∃ t, mg "LETTERS" = some (.str "abcdefghijklmnopqrstuvwxyz" t)
  longest : ∃ t, mg "LONGEST" = some (.int 8 t)
  number : ∃ t, mg "MOST_NUMBER" = some (.int 999 t)
  deep : ∃ t, mg "MOST_DEEP" = some (.int 5 t)
  laps : ∃ t, mg "MOST_LAPS" = some (.int 3 t)
  stmts : ∃ t, mg "MOST_STATEMENTS" = some (.int 40 t)
section
variable {P : Program} {w : World} {K : PySem.W.Frag} {mg : Str → Option Value} {base : Heap} {C : Addr}
abbrev s_need : Stmt := top 41
abbrev N_need : List Str := ["good"]
theorem sc_need : FnScope N_need ["good"] (defScope s_need) := ⟨rfl, rfl, rfl, by decide +kernel, rfl, by decide +kernel, by decide +kernel⟩
theorem ok_need (T : Blt mg) (X_BadForm : ErrTxt K mg "BadForm" C) (F : Here K mg "need" s_need ["good"]) : DefOk P w K mg base (L2.CX P w) "need" ["good"] 1 (spNeed C) := by
  refine F.okX sc_need (fun vs H Q E h => ?_) (fun f cdv A outer s H vs Q E hr h => ?_)
  · obtain ⟨_, rfl, _⟩ := h; rfl
  obtain ⟨b, rfl, qs, qe⟩ := h
  refine ⟨_, (pss_one (ps_if (pt_not (pt_val (pv 0)))
    (pss_one (ps_raise rfl (takes_of rfl rfl rfl rfl) (pmk_own PySem.F.excBase_ValueError X_BadForm.x X_BadForm.g X_BadForm.k (raises_own X_BadForm.b X_BadForm.t) rfl)))
    pss_nil)), ?_⟩
  walk_at "rh"
  cases b with
  | true =>
    refine ifF rfl ?_
    walk_at "rh"
    exact qs rfl H (Fr.refl _ _)
  | false =>
    refine ifT rfl ?_
    exact qe rfl H (Fr.refl _ _)
abbrev s_need_tuple : Stmt := top 43
abbrev N_need_tuple : List Str := ["thing", "many"]
theorem sc_need_tuple : FnScope N_need_tuple ["thing", "many"] (defScope s_need_tuple) := ⟨rfl, rfl, rfl, by decide +kernel, rfl, by decide +kernel, by decide +kernel⟩
theorem ok_ntup (T : Blt mg) (F : Here K mg "need_tuple" s_need_tuple ["thing", "many"]) (D_need : DefOk P w K mg base (L2.CX P w) "need" ["good"] 1 (spNeed C)) : DefOk P w K mg base (L2.CX P w) "need_tuple" ["thing", "many"] 2 (spNTup K C) := by
  refine F.okX sc_need_tuple (fun vs H Q E h => ?_) (fun f cdv A outer s H vs Q E hr h => ?_)
  · obtain ⟨_, _, _, rfl, _⟩ := h; rfl
  obtain ⟨v, b, m, rfl, hm, hb, qs, qe⟩ := h
  have hu64 := hr.units
  have hr_need := hr.mono (j := 1) (by omega)
  refine ⟨_, (pss_one (ps_expr (pe_callD D_need hr_need (passes_call (takes_of rfl rfl rfl rfl) (fun _ _ _ _ h => h)) (pa_cons (pe_and (pe_callB call_isiA (by rfl) T.n_isinstance (by decide +kernel) (pa_cons (pv 0) (pa_cons (pe_tyN (n := "tuple") (by rfl) T.n_tuple (by decide +kernel)) pa_nil))) (pe_and (pe_cmpR (op_eqA hu64) (pe_callB call_lenA (by rfl) T.n_len PySem.boot_len (pa_cons (pv 0) pa_nil)) (pv 1) (nomark _)) (pe_one (pe_callB call_isiA (by rfl) T.n_isinstance (by decide +kernel) (pa_cons (pe_ix ix_seq (pv 0) pe_int (fun _ _ => rfl)) (pa_cons (pe_tyN (n := "str") (by rfl) T.n_str (by decide +kernel)) pa_nil)))))) pa_nil)))), ?_⟩
  walk_at "rh"
  refine rd_isTup hb ?_
  walk_at "rh"
  cases ht : isTup b with
  | false =>
    refine ifF rfl ?_
    walk_at "rh"
    refine ⟨false, rfl, ⟨(fun z => by cases z), fun _ H2 f2 => qe ?_ H2 f2⟩⟩
    cases b <;> simp_all [isTup, okTup]
  | true =>
    obtain ⟨bs, rfl⟩ := tup_of ht
    obtain ⟨a, vs, rfl, hT, hl, hvs⟩ := hb
    have lv := RbL.length hvs
    refine ifT rfl ?_
    walk_at "rh"
    have ed : decide (V.int (vs.length : Int) = V.int (m : Int)) = decide (bs.length = m) := by
      refine decide_eq_decide.mpr ⟨fun z => ?_, fun z => by rw [lv, z]⟩
      have := V.int.inj z; omega
    rw [ed]
    by_cases hbm : bs.length = m
    · refine ifT (by simpa using hbm) ?_
      obtain ⟨b0, r, rfl⟩ : ∃ b0 r, bs = b0 :: r := by
        cases bs with
        | nil => simp at hbm; omega
        | cons b0 r => exact ⟨b0, r, rfl⟩
      obtain ⟨v0, vr, rfl, h0, hr0⟩ := hvs
      walk_at "rh"
      refine rd_ixT hT atI_0 ?_
      walk_at "rh"
      refine rd_isStr h0 ?_
      walk_at "rh"
      refine ⟨isStr b0, rfl, ⟨fun z H2 f2 => qs ?_ H2 f2, fun z H2 f2 => qe ?_ H2 f2⟩⟩
      · obtain ⟨x, rfl⟩ := str_of z
        simpa [okTup] using hbm
      · cases b0 <;> simp_all [isStr, okTup]
    · refine ifF (by simpa using hbm) ?_
      walk_at "rh"
      refine ⟨false, rfl, ⟨(fun z => by cases z), fun _ H2 f2 => qe ?_ H2 f2⟩⟩
      cases bs with
      | nil => rfl
      | cons b0 r => cases b0 <;> simp_all [okTup]
abbrev s_need_name : Stmt := top 42
abbrev N_need_name : List Str := ["x", "letter"]
theorem sc_need_name : FnScope N_need_name ["x"] (defScope s_need_name) := ⟨rfl, rfl, rfl, by decide +kernel, rfl, by decide +kernel, by decide +kernel⟩
theorem ok_nname (T : Blt mg) (G : CFm mg) (F : Here K mg "need_name" s_need_name ["x"]) (D_need : DefOk P w K mg base (L2.CX P w) "need" ["good"] 1 (spNeed C)) : DefOk P w K mg base (L2.CX P w) "need_name" ["x"] 2 (spNName K C) := by
  refine F.okX sc_need_name (fun vs H Q E h => ?_) (fun f cdv A outer s H vs Q E hr h => ?_)
  · obtain ⟨_, _, rfl, _⟩ := h; rfl
  obtain ⟨v, b, rfl, hb, qs, qe⟩ := h
  have hr_need := hr.mono (j := 1) (by omega)
  obtain ⟨_, G_LETTERS⟩ := G.letters
  obtain ⟨_, G_LONGEST⟩ := G.longest
  refine ⟨_, (pss_cons (ps_expr (pe_callD D_need hr_need (passes_call (takes_of rfl rfl rfl rfl) (fun _ _ _ _ h => h)) (pa_cons (pe_and (pe_callB call_isiA (by rfl) T.n_isinstance (by decide +kernel) (pa_cons (pv 0) (pa_cons (pe_tyN (n := "str") (by rfl) T.n_str (by decide +kernel)) pa_nil))) (pe_one (pe_chain op_le op_le pe_int (pe_callB call_lenA (by rfl) T.n_len PySem.boot_len (pa_cons (pv 0) pa_nil)) (pe_glob (v := .int 8) rfl G_LONGEST ⟨_, rfl⟩)))) pa_nil)))
    (pss_one (ps_expr (pe_callD D_need hr_need (passes_call (takes_of rfl rfl rfl rfl) (fun _ _ _ _ h => h)) (pa_cons (pe_callB (cr_all rfl) (by rfl) T.n_all (by decide +kernel) (pa_cons (pe_lc (own := [("letter", 1)]) (g := gName 1) (tt := tYes) rfl sc_need_name.nd (pi_str (pv 0)) (blkOk_by (own := [("letter", 1)]) (N := N_need_name) (sc := defScope s_need_name) (by decide +kernel)) (fun _ _ _ _ _ => (pg_name (i := 1) sc_need_name.nd rfl (Or.inl rfl))) (fun _ _ _ _ _ => pts_nil) (fun _ _ _ _ _ => (pe_cmpR op_in_sign (pv 1) (pe_glob (v := .str "abcdefghijklmnopqrstuvwxyz") rfl G_LETTERS ⟨_, rfl⟩) (by rfl)))) pa_nil)) pa_nil))))), ?_⟩
  walk_at "rs"
  with_reducible refine rd_seq ?_
  walk_at "rs"
  refine rd_isStr hb ?_
  walk_at "rs"
  cases ht : isStr b with
  | false =>
    refine ifF rfl ?_
    walk_at "rs"
    refine ⟨false, rfl, ⟨(fun z => by cases z), fun _ H2 f2 => qe ?_ H2 f2⟩⟩
    cases b <;> simp_all [isStr, okName]
  | true =>
    obtain ⟨x, rfl⟩ := str_of ht
    obtain ⟨rfl, hx⟩ := hb
    refine ifT rfl ?_
    refine rd_chain ?_
    walk_at "rs"
    refine rd_lenS (by rw [sizeLine_eq]; omega) ?_
    walk_at "rs"
    by_cases h1 : 1 ≤ x.length
    · refine ifT (by simp; omega) ?_
      walk_at "rs"
      by_cases h8 : x.length ≤ 8
      · refine ⟨_, rfl, ⟨fun z H2 f2 => ?_, (fun z => by simp at z; omega)⟩⟩
        walk_at "rh"
        refine rd_istr ?_
        walk_at "rh"
        refine rd_isst ?_
        refine rd_lcS x fun D H3 nD f3 eD => ?_
        have nD0 := f2.free nD
        have lc : x.cps.toList.length = x.length := by rw [Array.length_toList]; rfl
        refine ⟨fun k acc H' => Fr [] H H' ∧ acc = (x.cps.toList.take k).map fun c => V.bl (decide (c ∈ LET.cps.toList)), ⟨f2.trans f3, by simp⟩, fun k c acc H' hc e' ⟨f', ea⟩ => ?_, fun acc H' e' ⟨f', ea⟩ => ?_⟩
        · walk_at "rh"
          refine ifT rfl ?_
          walk_at "rh"
          refine ⟨c, _, rfl, rfl, ?_⟩
          have hk : k < x.cps.toList.length := (List.getElem?_eq_some_iff.mp hc).1
          refine rd_lcend e' (by rw [ea, List.length_map, List.length_take]; omega) fun H4 f4 k4 e4 => ?_
          refine ⟨f'.then1 f4 nD0, ?_⟩
          rw [ea, List.take_add_one, hc, List.map_append]
          rfl
        · rw [List.take_length] at ea
          have em : acc = (x.cps.toList.map fun c => decide (c ∈ LET.cps.toList)).map V.bl := by rw [ea, List.map_map]; rfl
          walk_at "rh"
          refine rd_all (SqL.of (by rw [← em]; exact e')) ?_
          walk_at "rh"
          have ok : okName (.str x) = (x.cps.toList.map fun c => decide (c ∈ LET.cps.toList)).all id := by
            simp only [okName, decide_eq_true h1, decide_eq_true h8, Bool.true_and, List.all_map]
            rfl
          refine ⟨_, rfl, ⟨fun z H5 f5 => qs (by rw [ok]; exact z) H5 (f'.trans f5), fun z H5 f5 => qe (by rw [ok]; exact z) H5 (f'.trans f5)⟩⟩
      · refine ⟨_, rfl, ⟨(fun z => by simp at z; omega), fun _ H2 f2 => qe (by simp [okName, h8]) H2 f2⟩⟩
    · refine ifF (by simp; omega) ?_
      walk_at "rs"
      refine ⟨false, rfl, ⟨(fun z => by cases z), fun _ H2 f2 => qe (by simp [okName, h1]) H2 f2⟩⟩
end
end Lf
namespace Lf
open PySem PySem.Spec PyProof.Rows L2
theorem vstr_dec (w z : Str) : decide (V.str w = V.str z) = decide (w = z) := decide_eq_decide.mpr ⟨fun h => V.str.inj h, fun h => by rw [h]⟩
def spNPart (K : PySem.W.Frag) (C : Addr) (n : Nat) : Sp := fun vs H Q E => ∃ v b d m, vs = [v, .int ((d : Nat) : Int)] ∧ d + m = 6 ∧ m < n ∧ Rb K H b v ∧ Ends2 C (okPart m b) H Q E
theorem in2 {w a b : Str} : inV (V.str w) [V.str a, V.str b] = decide (w = a ∨ w = b) := by
  have e : ∀ a : Str, (a == w) = decide (w = a) := fun a => by
    by_cases c : w = a
    · subst c; simp
    · simp only [c, decide_false, beq_eq_false_iff_ne]; exact fun z => c z.symm
  simp [inV, eqV, e]
section
variable {P : Program} {w : World} {K : PySem.W.Frag} {mg : Str → Option Value} {base : Heap} {C : Addr}
abbrev s_need_part : Stmt := top 44
abbrev N_need_part : List Str := ["part", "deep"]
theorem sc_need_part : FnScope N_need_part ["part", "deep"] (defScope s_need_part) := ⟨rfl, rfl, rfl, by decide +kernel, rfl, by decide +kernel, by decide +kernel⟩
theorem ok_npart1 (T : Blt mg) (G : CFm mg) (n : Nat) (F : Here K mg "need_part" s_need_part ["part", "deep"]) (D_need : DefOk P w K mg base (L2.CX P w) "need" ["good"] 1 (spNeed C)) (D_need_tuple : DefOk P w K mg base (L2.CX P w) "need_tuple" ["thing", "many"] 2 (spNTup K C))
    (D_need_name : DefOk P w K mg base (L2.CX P w) "need_name" ["x"] 2 (spNName K C)) (D_need_part : DefOk P w K mg base (L2.CX P w) "need_part" ["part", "deep"] (n + 2) (spNPart K C n)) : DefOk P w K mg base (L2.CX P w) "need_part" ["part", "deep"] (n + 3) (spNPart K C (n + 1)) := by
  refine F.okX sc_need_part (fun vs H Q E h => ?_) (fun f cdv A outer s H vs Q E hr h => ?_)
  · obtain ⟨_, _, _, _, rfl, _⟩ := h; rfl
  obtain ⟨v, b, d, m, rfl, hdm, hmn, hb, qs, qe⟩ := h
  have hu64 := hr.units
  have hr_need := hr.mono (j := 1) (by omega)
  have hr_need_tuple := hr.mono (j := 2) (by omega)
  have hr_need_name := hr.mono (j := 2) (by omega)
  have hr_need_part := hr.mono (j := n + 2) (by omega)
  obtain ⟨_, G_MOST_NUMBER⟩ := G.number
  obtain ⟨_, G_MOST_DEEP⟩ := G.deep
  refine ⟨_, (pss_cons (ps_expr (pe_callD D_need hr_need (passes_call (takes_of rfl rfl rfl rfl) (fun _ _ _ _ h => h)) (pa_cons (pe_and (pe_callB call_isiA (by rfl) T.n_isinstance (by decide +kernel) (pa_cons (pv 0) (pa_cons (pe_tyN (n := "tuple") (by rfl) T.n_tuple (by decide +kernel)) pa_nil))) (pe_and (pe_cmpR op_ge (pe_callB call_lenA (by rfl) T.n_len PySem.boot_len (pa_cons (pv 0) pa_nil)) pe_int (nomark _)) (pe_and (pe_callB call_isiA (by rfl) T.n_isinstance (by decide +kernel) (pa_cons (pe_ix ix_seq (pv 0) pe_int (fun _ _ => rfl)) (pa_cons (pe_tyN (n := "str") (by rfl) T.n_str (by decide +kernel)) pa_nil))) (pe_one (pe_cmpR op_le (pv 1) (pe_glob (v := .int 5) rfl G_MOST_DEEP ⟨_, rfl⟩) (nomark _)))))) pa_nil)))
    (pss_one (ps_if (pt_cmpR (op_eqA hu64) (pe_ix ix_seq (pv 0) pe_int (fun _ _ => rfl)) pe_str (nomark _))
    (pss_cons (ps_expr (pe_callD D_need_tuple hr_need_tuple (passes_call (takes_of rfl rfl rfl rfl) (fun _ _ _ _ h => h)) (pa_cons (pv 0) (pa_cons pe_int pa_nil))))
    (pss_one (ps_expr (pe_callD D_need hr_need (passes_call (takes_of rfl rfl rfl rfl) (fun _ _ _ _ h => h)) (pa_cons (pe_and (pe_callB call_isiA (by rfl) T.n_isinstance (by decide +kernel) (pa_cons (pe_ix ix_seq (pv 0) pe_int (fun _ _ => rfl)) (pa_cons (pe_tyN (n := "int") (by rfl) T.n_int (by decide +kernel)) pa_nil))) (pe_and (pe_not (pe_callB call_isiA (by rfl) T.n_isinstance (by decide +kernel) (pa_cons (pe_ix ix_seq (pv 0) pe_int (fun _ _ => rfl)) (pa_cons (pe_tyN (n := "bool") (by rfl) T.n_bool (by decide +kernel)) pa_nil)))) (pe_one (pe_chain op_le op_le pe_int (pe_ix ix_seq (pv 0) pe_int (fun _ _ => rfl)) (pe_glob (v := .int 999) rfl G_MOST_NUMBER ⟨_, rfl⟩))))) pa_nil)))))
    (pss_one (ps_if (pt_cmpR (op_eqA hu64) (pe_ix ix_seq (pv 0) pe_int (fun _ _ => rfl)) pe_str (nomark _))
    (pss_cons (ps_expr (pe_callD D_need_tuple hr_need_tuple (passes_call (takes_of rfl rfl rfl rfl) (fun _ _ _ _ h => h)) (pa_cons (pv 0) (pa_cons pe_int pa_nil))))
    (pss_one (ps_expr (pe_callD D_need_name hr_need_name (passes_call (takes_of rfl rfl rfl rfl) (fun _ _ _ _ h => h)) (pa_cons (pe_ix ix_seq (pv 0) pe_int (fun _ _ => rfl)) pa_nil)))))
    (pss_cons (ps_expr (pe_callD D_need hr_need (passes_call (takes_of rfl rfl rfl rfl) (fun _ _ _ _ h => h)) (pa_cons (pe_cmpR op_in_seq (pe_ix ix_seq (pv 0) pe_int (fun _ _ => rfl)) (pe_tup (pa_cons pe_str (pa_cons pe_str pa_nil))) (by rfl)) pa_nil)))
    (pss_cons (ps_expr (pe_callD D_need_tuple hr_need_tuple (passes_call (takes_of rfl rfl rfl rfl) (fun _ _ _ _ h => h)) (pa_cons (pv 0) (pa_cons pe_int pa_nil))))
    (pss_cons (ps_expr (pe_callD D_need_part hr_need_part (passes_call (takes_of rfl rfl rfl rfl) (fun _ _ _ _ h => h)) (pa_cons (pe_ix ix_seq (pv 0) pe_int (fun _ _ => rfl)) (pa_cons (pe_op op_plus (pv 1) pe_int) pa_nil))))
    (pss_one (ps_expr (pe_callD D_need_part hr_need_part (passes_call (takes_of rfl rfl rfl rfl) (fun _ _ _ _ h => h)) (pa_cons (pe_ix ix_seq (pv 0) pe_int (fun _ _ => rfl)) (pa_cons (pe_op op_plus (pv 1) pe_int) pa_nil))))))))))))), ?_⟩
  walk_at "rs"
  with_reducible refine rd_seq ?_
  walk_at "rs"
  refine rd_isTup hb ?_
  walk_at "rs"
  cases ht : isTup b with
  | false =>
    refine ifF rfl ?_
    walk_at "rs"
    refine ⟨false, rfl, ⟨(fun z => by cases z), fun _ H2 f2 => qe ?_ H2 f2⟩⟩
    cases b <;> cases m <;> simp_all [isTup, okPart]
  | true =>
  obtain ⟨bs, rfl⟩ := tup_of ht
  obtain ⟨a, vs, rfl, hT, hl, hvs⟩ := hb
  have lv := RbL.length hvs
  refine ifT rfl ?_
  walk_at "rs"
  by_cases h2 : 2 ≤ bs.length
  rotate_left
  · refine ifF (by simp; omega) ?_
    walk_at "rs"
    refine ⟨false, rfl, ⟨(fun z => by cases z), fun _ H2 f2 => qe ?_ H2 f2⟩⟩
    match bs, m with
    | [], 0 => rfl
    | [], m + 1 => rfl
    | [.str w], m + 1 => simp [okPart, okBody]
    | [.non], m + 1 => rfl
    | [.bl _], m + 1 => rfl
    | [.int _], m + 1 => rfl
    | [.lst], m + 1 => rfl
    | [.tup _], m + 1 => rfl
    | [_], 0 => rfl
    | _ :: _ :: _, _ => exact absurd (by simp) h2
  refine ifT (by simp; omega) ?_
  obtain ⟨b0, b1, r, rfl⟩ : ∃ b0 b1 r, bs = b0 :: b1 :: r := by
    match bs, h2 with
    | b0 :: b1 :: r, _ => exact ⟨b0, b1, r, rfl⟩
  obtain ⟨v0, vr, rfl, h0, v1, vr2, rfl, h1, hr2⟩ := hvs
  walk_at "rs"
  refine rd_ixT hT atI_0 ?_
  walk_at "rs"
  refine rd_isStr h0 ?_
  walk_at "rs"
  cases hs : isStr b0 with
  | false =>
    refine ifF rfl ?_
    walk_at "rs"
    refine ⟨false, rfl, ⟨(fun z => by cases z), fun _ H2 f2 => qe ?_ H2 f2⟩⟩
    cases b0 <;> cases m <;> simp_all [isStr, okPart]
  | true =>
  obtain ⟨wd, rfl⟩ := str_of hs
  obtain ⟨rfl, hw⟩ := h0
  refine ifT rfl ?_
  walk_at "rs"
  refine ⟨_, rfl, ⟨fun z H2 f2 => ?_, fun z H2 f2 => qe ?_ H2 f2⟩⟩
  rotate_left
  · have hm0 : m = 0 := by simp at z; omega
    rw [hm0]; rfl
  obtain ⟨m, rfl⟩ : ∃ j, m = j + 1 := ⟨m - 1, by simp at z; omega⟩
  clear z ht h2 hs
  have k2 := f2.kb0
  have hT2 := k2.1.sq hT
  have h1' := h1.mono k2
  have hr2' := hr2.mono k2
  have hB : ∀ {H' : Hp}, Fr [] H2 H' → Rb K H' (.tup (.str wd :: b1 :: r)) (.ref a) := fun f => ⟨a, _, rfl, f.tup0 hT2, hl, _, _, rfl, ⟨rfl, hw⟩, _, _, rfl, h1'.mono f.kb0, hr2'.mono f.kb0⟩
  have okw : okPart (m + 1) (.tup (.str wd :: b1 :: r)) = okBody (okPart m) wd (b1 :: r) := rfl
  rw [okw] at qs qe
  walk_at "rs"
  refine rd_ixT hT2 atI_0 ?_
  walk_at "rs"
  rw [vstr_dec]
  by_cases c1 : wd = "num"
  · subst c1
    refine ifT (by simp) ?_
    walk_at "rs"
    with_reducible refine rd_seq ?_
    walk_at "rs"
    refine ⟨_, _, 2, rfl, by omega, hB (Fr.refl _ _), ⟨fun z H3 f3 => ?_, fun z H3 f3 => qe ?_ H3 (f2.trans f3)⟩⟩
    rotate_left
    · cases r <;> simp_all [okTup, okBody]
    obtain rfl : r = [] := by cases r <;> simp_all [okTup]
    have ok1 : okBody (okPart m) "num" [b1] = okNum b1 := by simp [okBody]
    rw [ok1] at qs qe
    have hT3 := f3.tup0 hT2
    have h13 := h1'.mono f3.kb0
    have F3 := f2.trans f3
    walk_at "rs"
    refine rd_ixT hT3 atI_1 ?_
    walk_at "rs"
    refine rd_isInt h13 ?_
    walk_at "rs"
    cases hi : isInt b1 with
    | false =>
      refine ifF rfl ?_
      walk_at "rs"
      refine ⟨false, rfl, ⟨(fun z => by cases z), fun _ H4 f4 => qe ?_ H4 (F3.trans f4)⟩⟩
      cases b1 <;> simp_all [isInt, okNum]
    | true =>
      refine ifT rfl ?_
      walk_at "rs"
      refine rd_ixT hT3 atI_1 ?_
      walk_at "rs"
      refine rd_isBl h13 ?_
      walk_at "rs"
      cases hbl : isBl b1 with
      | true =>
        refine ifF rfl ?_
        walk_at "rs"
        refine ⟨false, rfl, ⟨(fun z => by cases z), fun _ H4 f4 => qe ?_ H4 (F3.trans f4)⟩⟩
        cases b1 <;> simp_all [isBl, okNum]
      | false =>
        obtain ⟨i, rfl⟩ : ∃ i, b1 = .int i := by cases b1 <;> simp_all [isInt, isBl]
        cases (show v1 = V.int i from h13)
        refine ifT rfl ?_
        refine rd_chain ?_
        walk_at "rs"
        refine rd_ixT hT3 atI_1 ?_
        walk_at "rs"
        by_cases i0 : 0 ≤ i
        · refine ifT (by simpa using i0) ?_
          walk_at "rs"
          refine ⟨_, rfl, ⟨fun z H4 f4 => qs ?_ H4 (F3.trans f4), fun z H4 f4 => qe ?_ H4 (F3.trans f4)⟩⟩
          · simp [okNum] at z ⊢; omega
          · simp [okNum] at z ⊢; omega
        · refine ifF (by simpa using i0) ?_
          walk_at "rs"
          refine ⟨false, rfl, ⟨(fun z => by cases z), fun _ H4 f4 => qe ?_ H4 (F3.trans f4)⟩⟩
          simp [okNum]; omega
  refine ifF (by simpa using c1) ?_
  walk_at "rs"
  refine rd_ixT hT2 atI_0 ?_
  walk_at "rs"
  rw [vstr_dec]
  by_cases c2 : wd = "name"
  · subst c2
    refine ifT (by simp) ?_
    walk_at "rs"
    with_reducible refine rd_seq ?_
    walk_at "rs"
    refine ⟨_, _, 2, rfl, by omega, hB (Fr.refl _ _), ⟨fun z H3 f3 => ?_, fun z H3 f3 => qe ?_ H3 (f2.trans f3)⟩⟩
    rotate_left
    · cases r <;> simp_all [okTup, okBody]
    obtain rfl : r = [] := by cases r <;> simp_all [okTup]
    have ok1 : okBody (okPart m) "name" [b1] = okName b1 := by unfold okBody; rw [if_neg (by decide), if_pos rfl]
    rw [ok1] at qs qe
    have hT3 := f3.tup0 hT2
    have h13 := h1'.mono f3.kb0
    have F3 := f2.trans f3
    walk_at "rs"
    refine rd_ixT hT3 atI_1 ?_
    walk_at "rs"
    exact ⟨_, b1, rfl, h13, ⟨fun z H4 f4 => qs z H4 (F3.trans f4), fun z H4 f4 => qe z H4 (F3.trans f4)⟩⟩
  refine ifF (by simpa using c2) ?_
  walk_at "rs"
  with_reducible refine rd_seq ?_
  walk_at "rs"
  refine rd_ixT hT2 atI_0 ?_
  walk_at "rs"
  refine rd_newT (by simp) fun t3 H3 nt3 f3 e3 => ?_
  walk_at "rs"
  refine rd_inT (SqT.of e3) rfl rfl ?_
  rw [in2]
  walk_at "rs"
  refine ⟨_, rfl, ⟨fun z H4 f4 => ?_, fun z H4 f4 => qe ?_ H4 ((f2.trans f3).trans f4)⟩⟩
  rotate_left
  · have z : ¬ (wd = "add" ∨ wd = "times") := by simpa using z
    simp [okBody, c1, c2, z]
  have c3 : wd = "add" ∨ wd = "times" := by simpa using z
  clear z
  have f24 := f3.trans f4
  walk_at "rs"
  with_reducible refine rd_seq ?_
  walk_at "rs"
  refine ⟨_, _, 3, rfl, by omega, hB f24, ⟨fun z H5 f5 => ?_, fun z H5 f5 => qe ?_ H5 ((f2.trans f24).trans f5)⟩⟩
  rotate_left
  · match r, z with
    | [], _ => simp [okBody, c1, c2, c3]
    | [_], z => simp [okTup] at z
    | _ :: _ :: _, _ => simp [okBody, c1, c2, c3]
  obtain ⟨b2, rfl⟩ : ∃ b2, r = [b2] := by
    match r, z with
    | [b2], _ => exact ⟨b2, rfl⟩
    | [], z => simp [okTup] at z
    | _ :: _ :: _, z => simp [okTup] at z
  have ok1 : okBody (okPart m) wd [b1, b2] = (okPart m b1 && okPart m b2) := by simp [okBody, c1, c2, c3]
  rw [ok1] at qs qe
  obtain ⟨v2, _, rfl, h2', rfl⟩ := hr2'
  have f25 := f24.trans f5
  have hT5 := f25.tup0 hT2
  have ed : (d : Int) + 1 = ((d + 1 : Nat) : Int) := by omega
  walk_at "rs"
  with_reducible refine rd_seq ?_
  walk_at "rs"
  refine ⟨_, b1, d + 1, m, by rw [ed]; rfl, by omega, by omega, h1'.mono f25.kb0, ⟨fun z H6 f6 => ?_, fun z H6 f6 => qe (by rw [z]; rfl) H6 ((f2.trans f25).trans f6)⟩⟩
  have f26 := f25.trans f6
  have hT6 := f26.tup0 hT2
  walk_at "rs"
  exact ⟨_, b2, d + 1, m, by rw [ed]; rfl, by omega, by omega, h2'.mono f26.kb0, ⟨fun z' H7 f7 => qs (by rw [z, z']; rfl) H7 ((f2.trans f26).trans f7), fun z' H7 f7 => qe (by rw [z, z']; rfl) H7 ((f2.trans f26).trans f7)⟩⟩
end
end Lf
namespace Lf
open PySem PySem.Spec PyProof.Rows L2
def spNSt (K : PySem.W.Frag) (C : Addr) (n : Nat) : Sp := fun vs H Q E => ∃ v b l m, vs = [v, .int ((l : Nat) : Int)] ∧ l + m = 3 ∧ m < n ∧ Rb K H b v ∧ EndsN C (okSt m b) H Q E
def spNRow (K : PySem.W.Frag) (C : Addr) (n : Nat) : Sp := fun vs H Q E => ∃ v b l m, vs = [v, .int ((l : Nat) : Int)] ∧ l + m = 3 ∧ m < n ∧ Rb K H b v ∧ EndsN C (okRow m b) H Q E
def gOf : Nat → B → Option Nat
  | 0 => fun _ => none
  | j + 1 => rowBy (okSt j)
theorem okSt_eq (m : Nat) : okSt m = stBy (gOf m) := by cases m <;> rfl
theorem st_say (g : B → Option Nat) (b : B) : stBy g (.tup [.str "say", b]) = if okPart 5 b = true then some 1 else none := by simp [stBy]
theorem st_set (g : B → Option Nat) (b c : B) : stBy g (.tup [.str "set", b, c]) = if okName b = true ∧ okPart 5 c = true then some 1 else none := by simp [stBy, show ¬ ("set" : Str) = "say" by decide]
theorem st_lap (g : B → Option Nat) (b c d : B) : stBy g (.tup [.str "lap", b, c, d]) = if okName b = true ∧ okPart 5 c = true then (g d).map (1 + ·) else none := by simp [stBy, show ¬ ("lap" : Str) = "say" by decide, show ¬ ("lap" : Str) = "set" by decide]
theorem none_spX {P : Program} {w : World} {K : PySem.W.Frag} {mg : Str → Option Value} {base : Heap} {x : Str} {st : Stmt} {N ps : List Str} {sp : Sp} (F : Here K mg x st ps) (S : FnScope N ps (defScope st)) (h : ∀ vs H Q E, ¬ sp vs H Q E) : DefOk P w K mg base (L2.CX P w) x ps 1 sp :=
  F.okX (k := 0) S (fun vs H Q E q => absurd q (h vs H Q E)) (fun _ _ _ _ _ _ _ _ _ _ q => absurd q (h _ _ _ _))
theorem rd_sumK {K : PySem.W.Frag} {H : Hp} {Q : VK} {a : Addr} {ns : List Int} (h : SqL K H a (ns.map V.int)) (q : Q (.int ns.sum) H) : rSum K [.ref a] H Q := ⟨a, ns, rfl, h, q⟩
theorem sum_cast : ∀ ns : List Nat, (ns.map fun n => ((n : Nat) : Int)).sum = ((ns.sum : Nat) : Int)
  | [] => rfl
  | a :: r => by simp only [List.map_cons, List.sum_cons, sum_cast r]; omega
section
variable {P : Program} {w : World} {K : PySem.W.Frag} {mg : Str → Option Value} {base : Heap} {C : Addr}
theorem ok_npart (T : Blt mg) (G : CFm mg) (F : Here K mg "need_part" s_need_part ["part", "deep"]) (D_need : DefOk P w K mg base (L2.CX P w) "need" ["good"] 1 (spNeed C)) (D_need_tuple : DefOk P w K mg base (L2.CX P w) "need_tuple" ["thing", "many"] 2 (spNTup K C))
    (D_need_name : DefOk P w K mg base (L2.CX P w) "need_name" ["x"] 2 (spNName K C)) : ∀ n, DefOk P w K mg base (L2.CX P w) "need_part" ["part", "deep"] (n + 2) (spNPart K C n)
  | 0 => (none_spX F sc_need_part fun vs H Q E h => by obtain ⟨_, _, _, _, _, _, h, _⟩ := h; omega).mono (by omega)
  | n + 1 => ok_npart1 T G n F D_need D_need_tuple D_need_name (ok_npart T G F D_need D_need_tuple D_need_name n)
abbrev s_need_row : Stmt := top 45
abbrev N_need_row : List Str := ["row", "laps", "one"]
theorem sc_need_row : FnScope N_need_row ["row", "laps"] (defScope s_need_row) := ⟨rfl, rfl, rfl, by decide +kernel, rfl, by decide +kernel, by decide +kernel⟩
theorem ok_nrow1 (T : Blt mg) (n k : Nat) (hk : 2 ≤ k) (F : Here K mg "need_row" s_need_row ["row", "laps"]) (D_need : DefOk P w K mg base (L2.CX P w) "need" ["good"] 1 (spNeed C)) (D_need_tuple : DefOk P w K mg base (L2.CX P w) "need_tuple" ["thing", "many"] 2 (spNTup K C))
    (D_need_statement : DefOk P w K mg base (L2.CX P w) "need_statement" ["one", "laps"] k (spNSt K C n)) : DefOk P w K mg base (L2.CX P w) "need_row" ["row", "laps"] (k + 1) (spNRow K C n) := by
  refine F.okX sc_need_row (fun vs H Q E h => ?_) (fun f cdv A outer s H vs Q E hr h => ?_)
  · obtain ⟨_, _, _, _, rfl, _⟩ := h; rfl
  obtain ⟨v, b, l, m, rfl, hlm, hmn, hb, qs, qe⟩ := h
  have hu64 := hr.units
  have hr_need := hr.mono (j := 1) (by omega)
  have hr_need_tuple := hr.mono (j := 2) (by omega)
  have hr_need_statement := hr.mono (j := k) (by omega)
  refine ⟨_, (pss_cons (ps_expr (pe_callD D_need_tuple hr_need_tuple (passes_call (takes_of rfl rfl rfl rfl) (fun _ _ _ _ h => h)) (pa_cons (pv 0) (pa_cons pe_int pa_nil))))
    (pss_cons (ps_expr (pe_callD D_need hr_need (passes_call (takes_of rfl rfl rfl rfl) (fun _ _ _ _ h => h)) (pa_cons (pe_and (pe_cmpR (op_eqA hu64) (pe_ix ix_seq (pv 0) pe_int (fun _ _ => rfl)) pe_str (nomark _)) (pe_one (pe_callB call_isiA (by rfl) T.n_isinstance (by decide +kernel) (pa_cons (pe_ix ix_seq (pv 0) pe_int (fun _ _ => rfl)) (pa_cons (pe_tyN (n := "tuple") (by rfl) T.n_tuple (by decide +kernel)) pa_nil))))) pa_nil)))
    (pss_one (ps_ret (pe_callB (cr_sum rfl) (by rfl) T.n_sum (by decide +kernel) (pa_cons (pe_lcX (own := [("one", 2)]) (g := gName 2) (tt := tYes) rfl rfl (takes_of rfl rfl rfl rfl) (fun _ _ _ _ h => h) rfl sc_need_row.nd (pi_tup (pe_ix ix_seq (pv 0) pe_int (fun _ _ => rfl))) (blkOk_by (own := [("one", 2)]) (N := N_need_row) (sc := defScope s_need_row) (by decide +kernel)) (fun _ _ _ _ _ => (pg_name (i := 2) sc_need_row.nd rfl (Or.inl rfl))) (fun _ _ _ _ _ => pts_nil) (fun _ _ _ _ _ _ _ hx => (pe_callD D_need_statement hr_need_statement hx (pa_cons (pv 2) (pa_cons (pv 1) pa_nil))))) pa_nil)))))), ?_⟩
  walk_at "rs"
  with_reducible refine rd_seq ?_
  walk_at "rs"
  refine ⟨_, b, 2, rfl, by omega, hb, ⟨fun z H2 f2 => ?_, fun z H2 f2 => qe ?_ H2 f2⟩⟩
  rotate_left
  · match b, z with
    | .non, _ => rfl
    | .bl _, _ => rfl
    | .int _, _ => rfl
    | .str _, _ => rfl
    | .lst, _ => rfl
    | .tup [], _ => rfl
    | .tup [x], _ => cases x <;> rfl
    | .tup (_ :: _ :: _ :: _), _ => simp [okRow, rowBy]
    | .tup [x, y], z => cases x <;> simp_all [okTup] <;> rfl
  obtain ⟨w0, b1, rfl⟩ : ∃ w0 b1, b = .tup [.str w0, b1] := by
    match b, z with
    | .tup [.str w0, b1], _ => exact ⟨w0, b1, rfl⟩
    | .tup [.str w0], z => simp [okTup] at z
    | .tup (.str _ :: _ :: _ :: _), z => simp [okTup] at z
  obtain ⟨a, _, rfl, hT, hl, _, _, rfl, ⟨rfl, hw⟩, v1, _, rfl, h1, rfl⟩ := hb
  have hT2 := f2.tup0 hT
  have h12 := h1.mono f2.kb0
  walk_at "rs"
  with_reducible refine rd_seq ?_
  walk_at "rs"
  rw [vstr_dec]
  by_cases c1 : w0 = "row"
  rotate_left
  · refine ifF (by simpa using c1) ?_
    walk_at "rs"
    refine ⟨false, rfl, ⟨(fun z => by cases z), fun _ H3 f3 => qe ?_ H3 (f2.trans f3)⟩⟩
    cases b1 <;> simp [okRow, rowBy, c1]
  subst c1
  refine ifT (by simp) ?_
  walk_at "rs"
  refine rd_isTup h12 ?_
  walk_at "rs"
  refine ⟨_, rfl, ⟨fun z H3 f3 => ?_, fun z H3 f3 => qe ?_ H3 (f2.trans f3)⟩⟩
  rotate_left
  · cases b1 <;> simp_all [isTup] <;> rfl
  obtain ⟨bs, rfl⟩ := tup_of z
  have ok1 : okRow m (.tup [.str "row", .tup bs]) = sumO (okSt m) bs := by simp [okRow, rowBy]
  rw [ok1] at qs qe
  obtain ⟨a1, vs1, rfl, hT1, hl1, hvs1⟩ := h12.mono f3.kb0
  have hT3 := f3.tup0 hT2
  have lv := RbL.length hvs1
  have F3 := f2.trans f3
  walk_at "rs"
  refine rd_lcT vs1 fun D H4 nD f4 eD => ?_
  have nD0 := F3.free nD
  have nD3 := nD
  refine ⟨fun j acc H' => Fr [] H H' ∧ Fr [] H3 H' ∧ ∃ ns : List Nat, acc = (ns.map fun n => ((n : Nat) : Int)).map V.int ∧ ns.length = j ∧ (bs.take j).map (okSt m) = ns.map some, ⟨F3.trans f4, f4, [], rfl, rfl, rfl⟩, fun j acc H' hj ⟨_, f', _⟩ => f'.tup0 hT1, fun j x acc H' hx e' ⟨fH, f', ns, ea, hns, hmap⟩ => ?_, fun acc H' e' ⟨fH, f', ns, ea, hns, hmap⟩ => ?_⟩
  · have hjl : j < vs1.length := (List.getElem?_eq_some_iff.mp hx).1
    have hjb : j < bs.length := by omega
    obtain ⟨u, hu, ru⟩ := RbL.at hvs1 (List.getElem?_eq_getElem hjb)
    rw [hx] at hu; cases hu
    walk_at "rs"
    refine ifT rfl ?_
    walk_at "rs"
    have hdrop : bs.drop j = bs[j] :: bs.drop (j + 1) := List.drop_eq_getElem_cons hjb
    have hsp := sumO_split (okSt m) j bs ns hmap
    refine ⟨_, bs[j], l, m, rfl, hlm, hmn, ru.mono f'.kb0, ⟨fun n0 hn H5 f5 => ?_, fun hn H5 f5 => qe ?_ H5 (fH.trans f5)⟩⟩
    · refine rd_lcend (f5.at e') (by rw [ea, List.length_map, List.length_map]; omega) fun H6 f6 k6 e6 => ?_
      refine ⟨(fH.trans f5).then1 f6 nD0, (f'.trans f5).then1 f6 nD3, ns ++ [n0], by rw [ea]; simp, by simp [hns], ?_⟩
      rw [List.take_add_one, List.getElem?_eq_getElem hjb, List.map_append, hmap, List.map_append]
      simp [hn]
    · rw [hsp, hdrop]
      simp [sumO, hn]
  · have hsp := sumO_split (okSt m) bs.length bs ns (by rw [← lv]; exact hmap)
    rw [List.drop_length] at hsp
    walk_at "rs"
    refine rd_sumK (SqL.of (by rw [← ea]; exact e')) ?_
    rw [sum_cast]
    refine qs ns.sum ?_ H' fH
    rw [hsp]; simp [sumO]
end
end Lf
namespace Lf
open PySem PySem.Spec PyProof.Rows L2
def spNProg (K : PySem.W.Frag) (C : Addr) : Sp := fun vs H Q E => ∃ v b, vs = [v] ∧ Rb K H b v ∧ Ends2 C (okProg b) H Q E
section
variable {P : Program} {w : World} {K : PySem.W.Frag} {mg : Str → Option Value} {base : Heap} {C : Addr}
abbrev s_need_statement : Stmt := top 46
abbrev N_need_statement : List Str := ["one", "laps"]
theorem sc_need_statement : FnScope N_need_statement ["one", "laps"] (defScope s_need_statement) := ⟨rfl, rfl, rfl, by decide +kernel, rfl, by decide +kernel, by decide +kernel⟩
theorem ok_nst1 (T : Blt mg) (G : CFm mg) (n k : Nat) (hk : 9 ≤ k) (F : Here K mg "need_statement" s_need_statement ["one", "laps"]) (D_need : DefOk P w K mg base (L2.CX P w) "need" ["good"] 1 (spNeed C)) (D_need_tuple : DefOk P w K mg base (L2.CX P w) "need_tuple" ["thing", "many"] 2 (spNTup K C))
    (D_need_name : DefOk P w K mg base (L2.CX P w) "need_name" ["x"] 2 (spNName K C)) (D_need_part : DefOk P w K mg base (L2.CX P w) "need_part" ["part", "deep"] 9 (spNPart K C 7))
    (D_need_row : DefOk P w K mg base (L2.CX P w) "need_row" ["row", "laps"] k (spNRow K C n)) : DefOk P w K mg base (L2.CX P w) "need_statement" ["one", "laps"] (k + 1) (spNSt K C (n + 1)) := by
  refine F.okX sc_need_statement (fun vs H Q E h => ?_) (fun f cdv A outer s H vs Q E hr h => ?_)
  · obtain ⟨_, _, _, _, rfl, _⟩ := h; rfl
  obtain ⟨v, b, l, m, rfl, hlm, hmn, hb, qs, qe⟩ := h
  have hu64 := hr.units
  have hr_need := hr.mono (j := 1) (by omega)
  have hr_need_tuple := hr.mono (j := 2) (by omega)
  have hr_need_name := hr.mono (j := 2) (by omega)
  have hr_need_part := hr.mono (j := 9) (by omega)
  have hr_need_row := hr.mono (j := k) (by omega)
  obtain ⟨_, G_MOST_LAPS⟩ := G.laps
  rw [okSt_eq] at qs qe
  refine ⟨_, (pss_cons (ps_expr (pe_callD D_need hr_need (passes_call (takes_of rfl rfl rfl rfl) (fun _ _ _ _ h => h)) (pa_cons (pe_and (pe_callB call_isiA (by rfl) T.n_isinstance (by decide +kernel) (pa_cons (pv 0) (pa_cons (pe_tyN (n := "tuple") (by rfl) T.n_tuple (by decide +kernel)) pa_nil))) (pe_and (pe_cmpR op_ge (pe_callB call_lenA (by rfl) T.n_len PySem.boot_len (pa_cons (pv 0) pa_nil)) pe_int (nomark _)) (pe_one (pe_callB call_isiA (by rfl) T.n_isinstance (by decide +kernel) (pa_cons (pe_ix ix_seq (pv 0) pe_int (fun _ _ => rfl)) (pa_cons (pe_tyN (n := "str") (by rfl) T.n_str (by decide +kernel)) pa_nil)))))) pa_nil)))
    (pss_cons (ps_if (pt_cmpR (op_eqA hu64) (pe_ix ix_seq (pv 0) pe_int (fun _ _ => rfl)) pe_str (nomark _))
    (pss_cons (ps_expr (pe_callD D_need_tuple hr_need_tuple (passes_call (takes_of rfl rfl rfl rfl) (fun _ _ _ _ h => h)) (pa_cons (pv 0) (pa_cons pe_int pa_nil))))
    (pss_cons (ps_expr (pe_callD D_need_part hr_need_part (passes_call (takes_of rfl rfl rfl rfl) (fun _ _ _ _ h => h)) (pa_cons (pe_ix ix_seq (pv 0) pe_int (fun _ _ => rfl)) (pa_cons pe_int pa_nil))))
    (pss_one (ps_ret pe_int))))
    pss_nil)
    (pss_cons (ps_if (pt_cmpR (op_eqA hu64) (pe_ix ix_seq (pv 0) pe_int (fun _ _ => rfl)) pe_str (nomark _))
    (pss_cons (ps_expr (pe_callD D_need_tuple hr_need_tuple (passes_call (takes_of rfl rfl rfl rfl) (fun _ _ _ _ h => h)) (pa_cons (pv 0) (pa_cons pe_int pa_nil))))
    (pss_cons (ps_expr (pe_callD D_need_name hr_need_name (passes_call (takes_of rfl rfl rfl rfl) (fun _ _ _ _ h => h)) (pa_cons (pe_ix ix_seq (pv 0) pe_int (fun _ _ => rfl)) pa_nil)))
    (pss_cons (ps_expr (pe_callD D_need_part hr_need_part (passes_call (takes_of rfl rfl rfl rfl) (fun _ _ _ _ h => h)) (pa_cons (pe_ix ix_seq (pv 0) pe_int (fun _ _ => rfl)) (pa_cons pe_int pa_nil))))
    (pss_one (ps_ret pe_int)))))
    pss_nil)
    (pss_cons (ps_expr (pe_callD D_need hr_need (passes_call (takes_of rfl rfl rfl rfl) (fun _ _ _ _ h => h)) (pa_cons (pe_and (pe_cmpR (op_eqA hu64) (pe_ix ix_seq (pv 0) pe_int (fun _ _ => rfl)) pe_str (nomark _)) (pe_one (pe_cmpR op_lt (pv 1) (pe_glob (v := .int 3) rfl G_MOST_LAPS ⟨_, rfl⟩) (nomark _)))) pa_nil)))
    (pss_cons (ps_expr (pe_callD D_need_tuple hr_need_tuple (passes_call (takes_of rfl rfl rfl rfl) (fun _ _ _ _ h => h)) (pa_cons (pv 0) (pa_cons pe_int pa_nil))))
    (pss_cons (ps_expr (pe_callD D_need_name hr_need_name (passes_call (takes_of rfl rfl rfl rfl) (fun _ _ _ _ h => h)) (pa_cons (pe_ix ix_seq (pv 0) pe_int (fun _ _ => rfl)) pa_nil)))
    (pss_cons (ps_expr (pe_callD D_need_part hr_need_part (passes_call (takes_of rfl rfl rfl rfl) (fun _ _ _ _ h => h)) (pa_cons (pe_ix ix_seq (pv 0) pe_int (fun _ _ => rfl)) (pa_cons pe_int pa_nil))))
    (pss_one (ps_ret (pe_op op_plus pe_int (pe_callD D_need_row hr_need_row (passes_call (takes_of rfl rfl rfl rfl) (fun _ _ _ _ h => h)) (pa_cons (pe_ix ix_seq (pv 0) pe_int (fun _ _ => rfl)) (pa_cons (pe_op op_plus (pv 1) pe_int) pa_nil))))))))))))), ?_⟩
  walk_at "rs"
  with_reducible refine rd_seq ?_
  walk_at "rs"
  refine rd_isTup hb ?_
  walk_at "rs"
  cases ht : isTup b with
  | false =>
    refine ifF rfl ?_
    walk_at "rs"
    refine ⟨false, rfl, ⟨(fun z => by cases z), fun _ H2 f2 => qe ?_ H2 f2⟩⟩
    cases b <;> simp_all [isTup, stBy]
  | true =>
  obtain ⟨bs, rfl⟩ := tup_of ht
  obtain ⟨a, vs, rfl, hT, hl, hvs⟩ := hb
  have lv := RbL.length hvs
  refine ifT rfl ?_
  walk_at "rs"
  by_cases h2 : 2 ≤ bs.length
  rotate_left
  · refine ifF (by simp; omega) ?_
    walk_at "rs"
    refine ⟨false, rfl, ⟨(fun z => by cases z), fun _ H2 f2 => qe ?_ H2 f2⟩⟩
    match bs with
    | [] => rfl
    | [.str w] => simp [stBy]
    | [.non] => rfl
    | [.bl _] => rfl
    | [.int _] => rfl
    | [.lst] => rfl
    | [.tup _] => rfl
    | _ :: _ :: _ => exact absurd (by simp) h2
  refine ifT (by simp; omega) ?_
  obtain ⟨b0, b1, r, rfl⟩ : ∃ b0 b1 r, bs = b0 :: b1 :: r := by
    match bs, h2 with
    | b0 :: b1 :: r, _ => exact ⟨b0, b1, r, rfl⟩
  obtain ⟨v0, vr, rfl, h0, v1, vr2, rfl, h1, hr2⟩ := hvs
  walk_at "rs"
  refine rd_ixT hT atI_0 ?_
  walk_at "rs"
  refine rd_isStr h0 ?_
  walk_at "rs"
  refine ⟨_, rfl, ⟨fun z H2 f2 => ?_, fun z H2 f2 => qe ?_ H2 f2⟩⟩
  rotate_left
  · cases b0 <;> simp_all [isStr, stBy]
  obtain ⟨wd, rfl⟩ := str_of z
  obtain ⟨rfl, hw⟩ := h0
  clear z ht h2
  have k2 := f2.kb0
  have hT2 := k2.1.sq hT
  have h1' := h1.mono k2
  have hr2' := hr2.mono k2
  have hB : ∀ {H' : Hp}, Fr [] H2 H' → Rb K H' (.tup (.str wd :: b1 :: r)) (.ref a) := fun f => ⟨a, _, rfl, f.tup0 hT2, hl, _, _, rfl, ⟨rfl, hw⟩, _, _, rfl, h1'.mono f.kb0, hr2'.mono f.kb0⟩
  walk_at "rs"
  with_reducible refine rd_seq ?_
  walk_at "rs"
  refine rd_ixT hT2 atI_0 ?_
  walk_at "rs"
  rw [vstr_dec]
  by_cases c1 : wd = "say"
  · subst c1
    refine ifT (by simp) ?_
    with_reducible refine rd_seq ?_
    walk_at "rs"
    refine ⟨_, _, 2, rfl, by omega, hB (Fr.refl _ _), ⟨fun z H3 f3 => ?_, fun z H3 f3 => qe ?_ H3 (f2.trans f3)⟩⟩
    rotate_left
    · cases r <;> simp_all [okTup, stBy]
    obtain rfl : r = [] := by cases r <;> simp_all [okTup]
    rw [st_say] at qs qe
    have hT3 := f3.tup0 hT2
    have F3 := f2.trans f3
    walk_at "rs"
    with_reducible refine rd_seq ?_
    walk_at "rs"
    try (refine rd_ixT hT3 atI_1 ?_)
    walk_at "rs"
    refine ⟨_, b1, 1, 5, rfl, by omega, by omega, h1'.mono f3.kb0, ⟨fun z H4 f4 => ?_, fun z H4 f4 => qe (by rw [z]; rfl) H4 (F3.trans f4)⟩⟩
    walk_at "rs"
    exact qs 1 (by rw [z]; rfl) H4 (F3.trans f4)
  refine ifF (by simpa using c1) ?_
  walk_at "rs"
  with_reducible refine rd_seq ?_
  walk_at "rs"
  refine rd_ixT hT2 atI_0 ?_
  walk_at "rs"
  rw [vstr_dec]
  by_cases c2 : wd = "set"
  · subst c2
    refine ifT (by simp) ?_
    with_reducible refine rd_seq ?_
    walk_at "rs"
    refine ⟨_, _, 3, rfl, by omega, hB (Fr.refl _ _), ⟨fun z H3 f3 => ?_, fun z H3 f3 => qe ?_ H3 (f2.trans f3)⟩⟩
    rotate_left
    · match r, z with
      | [], _ => simp [stBy, c1]
      | [_], z => simp [okTup] at z
      | _ :: _ :: _, _ => simp [stBy, c1]
    obtain ⟨b2, rfl⟩ : ∃ b2, r = [b2] := by
      match r, z with
      | [b2], _ => exact ⟨b2, rfl⟩
      | [], z => simp [okTup] at z
      | _ :: _ :: _, z => simp [okTup] at z
    rw [st_set] at qs qe
    obtain ⟨v2, _, rfl, h2', rfl⟩ := hr2'
    have hT3 := f3.tup0 hT2
    have F3 := f2.trans f3
    walk_at "rs"
    with_reducible refine rd_seq ?_
    walk_at "rs"
    refine ⟨_, b1, rfl, h1'.mono f3.kb0, ⟨fun z H4 f4 => ?_, fun z H4 f4 => qe (by simp [z]) H4 (F3.trans f4)⟩⟩
    have f34 := f3.trans f4
    have hT4 := f34.tup0 hT2
    walk_at "rs"
    with_reducible refine rd_seq ?_
    walk_at "rs"
    refine ⟨_, b2, 1, 5, rfl, by omega, by omega, h2'.mono f34.kb0, ⟨fun z' H5 f5 => ?_, fun z' H5 f5 => qe (by simp [z']) H5 ((f2.trans f34).trans f5)⟩⟩
    walk_at "rs"
    exact qs 1 (by simp [z, z']) H5 ((f2.trans f34).trans f5)
  refine ifF (by simpa using c2) ?_
  walk_at "rs"
  with_reducible refine rd_seq ?_
  walk_at "rs"
  refine rd_ixT hT2 atI_0 ?_
  walk_at "rs"
  rw [vstr_dec]
  by_cases c3 : wd = "lap"
  rotate_left
  · refine ifF (by simpa using c3) ?_
    walk_at "rs"
    refine ⟨false, rfl, ⟨(fun z => by cases z), fun _ H3 f3 => qe ?_ H3 (f2.trans f3)⟩⟩
    simp [stBy, c1, c2, c3]
  subst c3
  refine ifT (by simp) ?_
  walk_at "rs"
  refine ⟨_, rfl, ⟨fun z H3 f3 => ?_, fun z H3 f3 => qe ?_ H3 (f2.trans f3)⟩⟩
  rotate_left
  · have hm0 : m = 0 := by simp at z; omega
    subst hm0
    match r with
    | [] => simp [stBy, c1, c2]
    | [_] => simp [stBy, c1, c2]
    | [_, _] => simp [stBy, c1, c2, gOf]
    | _ :: _ :: _ :: _ => simp [stBy, c1, c2]
  obtain ⟨m, rfl⟩ : ∃ j, m = j + 1 := ⟨m - 1, by simp at z; omega⟩
  clear z
  walk_at "rs"
  with_reducible refine rd_seq ?_
  walk_at "rs"
  refine ⟨_, _, 4, rfl, by omega, hB f3, ⟨fun z H4 f4 => ?_, fun z H4 f4 => qe ?_ H4 ((f2.trans f3).trans f4)⟩⟩
  rotate_left
  · match r, z with
    | [], _ => simp [stBy, c1, c2]
    | [_], _ => simp [stBy, c1, c2]
    | [_, _], z => simp [okTup] at z
    | _ :: _ :: _ :: _, _ => simp [stBy, c1, c2]
  obtain ⟨b2, b3, rfl⟩ : ∃ b2 b3, r = [b2, b3] := by
    match r, z with
    | [b2, b3], _ => exact ⟨b2, b3, rfl⟩
    | [], z => simp [okTup] at z
    | [_], z => simp [okTup] at z
    | _ :: _ :: _ :: _, z => simp [okTup] at z
  rw [st_lap] at qs qe
  obtain ⟨v2, _, rfl, h2', v3, _, rfl, h3', rfl⟩ := hr2'
  have f24 := f3.trans f4
  have hT4 := f24.tup0 hT2
  walk_at "rs"
  with_reducible refine rd_seq ?_
  walk_at "rs"
  refine ⟨_, b1, rfl, h1'.mono f24.kb0, ⟨fun z H5 f5 => ?_, fun z H5 f5 => qe (by simp [z]) H5 ((f2.trans f24).trans f5)⟩⟩
  have f25 := f24.trans f5
  have hT5 := f25.tup0 hT2
  walk_at "rs"
  with_reducible refine rd_seq ?_
  walk_at "rs"
  refine ⟨_, b2, 1, 5, rfl, by omega, by omega, h2'.mono f25.kb0, ⟨fun z' H6 f6 => ?_, fun z' H6 f6 => qe (by simp [z']) H6 ((f2.trans f25).trans f6)⟩⟩
  have f26 := f25.trans f6
  have hT6 := f26.tup0 hT2
  have el : (l : Int) + 1 = ((l + 1 : Nat) : Int) := by omega
  walk_at "rs"
  refine ⟨_, b3, l + 1, m, by rw [el]; rfl, by omega, by omega, h3'.mono f26.kb0, ⟨fun n0 z3 H7 f7 => ?_, fun z3 H7 f7 => qe (by simp [z, z', show gOf (m + 1) b3 = none from z3]) H7 ((f2.trans f26).trans f7)⟩⟩
  walk_at "rs"
  have en : (1 : Int) + ((n0 : Nat) : Int) = ((1 + n0 : Nat) : Int) := by omega
  rw [en]
  exact qs (1 + n0) (by simp [z, z', show gOf (m + 1) b3 = some n0 from z3]) H7 ((f2.trans f26).trans f7)
theorem ok_nst (T : Blt mg) (G : CFm mg) (F : Here K mg "need_statement" s_need_statement ["one", "laps"]) (Fr : Here K mg "need_row" s_need_row ["row", "laps"]) (D_need : DefOk P w K mg base (L2.CX P w) "need" ["good"] 1 (spNeed C)) (D_need_tuple : DefOk P w K mg base (L2.CX P w) "need_tuple" ["thing", "many"] 2 (spNTup K C))
    (D_need_name : DefOk P w K mg base (L2.CX P w) "need_name" ["x"] 2 (spNName K C)) (D_need_part : DefOk P w K mg base (L2.CX P w) "need_part" ["part", "deep"] 9 (spNPart K C 7)) : ∀ n, DefOk P w K mg base (L2.CX P w) "need_statement" ["one", "laps"] (8 + 2 * n) (spNSt K C n)
  | 0 => (none_spX F sc_need_statement fun vs H Q E h => by obtain ⟨_, _, _, _, _, _, h, _⟩ := h; omega).mono (by omega)
  | n + 1 => by
    have D := ok_nst T G F Fr D_need D_need_tuple D_need_name D_need_part n
    have e : 8 + 2 * (n + 1) = (8 + 2 * n + 1) + 1 := by omega
    rw [e]
    exact ok_nst1 T G n _ (by omega) F D_need D_need_tuple D_need_name D_need_part (ok_nrow1 T n _ (by omega) Fr D_need D_need_tuple D)
abbrev s_need_program : Stmt := top 47
abbrev N_need_program : List Str := ["program"]
theorem sc_need_program : FnScope N_need_program ["program"] (defScope s_need_program) := ⟨rfl, rfl, rfl, by decide +kernel, rfl, by decide +kernel, by decide +kernel⟩
theorem ok_nprog (T : Blt mg) (G : CFm mg) (F : Here K mg "need_program" s_need_program ["program"]) (D_need : DefOk P w K mg base (L2.CX P w) "need" ["good"] 1 (spNeed C)) (D_need_row : DefOk P w K mg base (L2.CX P w) "need_row" ["row", "laps"] 17 (spNRow K C 4)) :
    DefOk P w K mg base (L2.CX P w) "need_program" ["program"] 18 (spNProg K C) := by
  refine F.okX sc_need_program (fun vs H Q E h => ?_) (fun f cdv A outer s H vs Q E hr h => ?_)
  · obtain ⟨_, _, rfl, _⟩ := h; rfl
  obtain ⟨v, b, rfl, hb, qs, qe⟩ := h
  have hr_need := hr.mono (j := 1) (by omega)
  have hr_need_row := hr.mono (j := 17) (by omega)
  obtain ⟨_, G_MOST_STATEMENTS⟩ := G.stmts
  refine ⟨_, (pss_one (ps_expr (pe_callD D_need hr_need (passes_call (takes_of rfl rfl rfl rfl) (fun _ _ _ _ h => h)) (pa_cons (pe_cmpR op_le (pe_callD D_need_row hr_need_row (passes_call (takes_of rfl rfl rfl rfl) (fun _ _ _ _ h => h)) (pa_cons (pv 0) (pa_cons pe_int pa_nil))) (pe_glob (v := .int 40) rfl G_MOST_STATEMENTS ⟨_, rfl⟩) (nomark _)) pa_nil)))), ?_⟩
  walk_at "rh"
  refine ⟨_, b, 0, 3, rfl, by omega, by omega, hb, ⟨fun n z H2 f2 => ?_, fun z H2 f2 => qe (by simp [okProg, z]) H2 f2⟩⟩
  have ok1 : okProg b = decide (n ≤ 40) := by simp [okProg, z]
  have e4 : decide ((n : Int) ≤ 40) = decide (n ≤ 40) := decide_eq_decide.mpr (by omega)
  walk_at "rh"
  refine ⟨_, rfl, ⟨fun z2 H3 f3 => qs (by rw [ok1, ← e4]; exact z2) H3 (f2.trans f3), fun z2 H3 f3 => qe (by rw [ok1, ← e4]; exact z2) H3 (f2.trans f3)⟩⟩
end
end Lf
namespace Lf
open PySem PySem.Spec PyProof.Rows L2
theorem op_eqKt {X : Cx} {K : PySem.W.Frag} (h : X.K = K) (hu : X.A.units + 64 < cLine) : OpR X (compareOp .Eq) (rEqA K) := by subst h; exact op_eqA hu
theorem psF {X : Cx} {st : Stmt} : PS X st (fun _ _ _ => False) := ⟨fun _ _ _ _ _ _ z => z.elim⟩
theorem pss_when {X : Cx} {b : List Stmt} {c : Prop} {t : TS} (h : c → PSs X b t) : PSs X b (fun D σ H => c ∧ t D σ H) := ⟨fun pins s σ H D I z => (h z.1).run pins s σ H D I z.2⟩
theorem rd_callS {sp : Sp} {E : L2.St → XK} {tr : TA} {σ : L2.St} {H : Hp} {Q : VK} (q : tr σ H fun vs H1 => sp vs H1 Q (E σ)) : tCallS sp E tr σ H Q := q
def spRef (K : PySem.W.Frag) (C : Addr) : Sp := fun vs H Q E => ∃ v b, vs = [v] ∧ Rb K H b v ∧ okProg b = false ∧ ∀ H2, Fr [] H H2 → E (.ref C) none H2
def spRefd (K : PySem.W.Frag) : Sp := fun vs H Q _ => ∃ v b i, vs = [.int i, v] ∧ Rb K H b v ∧ okProg b = false ∧ ∀ H2, Fr [] H H2 → Q (.bl true) H2
/-- the errors, as the top has written them -/
structure ErrsTxt (K : PySem.W.Frag) (mg : Str → Option Value) (C LC DC NF UN : Addr) : Prop where
  lg : mg "LapError" = some (.ref LC)
  ex : PySem.W.exmOne K (.ref C) (.ref LC) = some true
  ec : ExcC K C
  gd : mg "Dry" = some (.ref DC)
  gn : mg "NeedntFall" = some (.ref NF)
  gu : mg "Uneven" = some (.ref UN)
  gb : mg "BadForm" = some (.ref C)
  kd : PySem.W.kitOne K (.ref C) (.ref DC) = some false
  kn : PySem.W.kitOne K (.ref C) (.ref NF) = some false
  ku : PySem.W.kitOne K (.ref C) (.ref UN) = some false
  kb : PySem.W.kitOne K (.ref C) (.ref C) = some true
  kv : PySem.W.kitOne K (.ref C) (.type "ValueError") = some true
  zv : mg "ValueError" = none
section
variable {P : Program} {w : World} {K : PySem.W.Frag} {mg : Str → Option Value} {base : Heap} {C LC DC NF UN : Addr}
abbrev s_looked : Stmt := top 61
abbrev N_looked : List Str := ["program"]
theorem sc_looked : FnScope N_looked ["program"] (defScope s_looked) := ⟨rfl, rfl, rfl, by decide +kernel, rfl, by decide +kernel, by decide +kernel⟩
theorem ok_looked (T : Blt mg) (F : Here K mg "looked" s_looked ["program"]) (D_need_program : DefOk P w K mg base (L2.CX P w) "need_program" ["program"] 18 (spNProg K C)) : DefOk P w K mg base (L2.CX P w) "looked" ["program"] 19 (spRef K C) := by
  refine F.okX sc_looked (fun vs H Q E h => ?_) (fun f cdv A outer s H vs Q E hr h => ?_)
  · obtain ⟨_, _, rfl, _⟩ := h; rfl
  obtain ⟨v, b, rfl, hb, hno, qe⟩ := h
  have hr_need_program := hr.mono (j := 18) (by omega)
  refine ⟨_, (pss_cons (ps_expr (pe_callD D_need_program hr_need_program (passes_call (takes_of rfl rfl rfl rfl) (fun _ _ _ _ h => h)) (pa_cons (pv 0) pa_nil)))
    (pss_one (psF))), ?_⟩
  walk_at "rh"
  exact ⟨_, b, rfl, hb, ⟨(fun z => by rw [hno] at z; cases z), fun _ H2 f2 => qe H2 f2⟩⟩
abbrev s_written : Stmt := top 69
abbrev N_written : List Str := ["program"]
theorem sc_written : FnScope N_written ["program"] (defScope s_written) := ⟨rfl, rfl, rfl, by decide +kernel, rfl, by decide +kernel, by decide +kernel⟩
theorem ok_written (T : Blt mg) (F : Here K mg "written" s_written ["program"]) (D_looked : DefOk P w K mg base (L2.CX P w) "looked" ["program"] 19 (spRef K C)) : DefOk P w K mg base (L2.CX P w) "written" ["program"] 20 (spRef K C) := by
  refine F.okX sc_written (fun vs H Q E h => ?_) (fun f cdv A outer s H vs Q E hr h => ?_)
  · obtain ⟨_, _, rfl, _⟩ := h; rfl
  obtain ⟨v, b, rfl, hb, hno, qe⟩ := h
  have hr_looked := hr.mono (j := 19) (by omega)
  refine ⟨_, (pss_cons (ps_expr (pe_callD D_looked hr_looked (passes_call (takes_of rfl rfl rfl rfl) (fun _ _ _ _ h => h)) (pa_cons (pv 0) pa_nil)))
    (pss_one (psF))), ?_⟩
  walk_at "rh"
  exact ⟨_, b, rfl, hb, hno, qe⟩
abbrev s__law_refused : Stmt := top 82
abbrev N__law_refused : List Str := ["_law_way", "_law_program_here", "e"]
theorem sc__law_refused : FnScope N__law_refused ["_law_way", "_law_program_here"] (defScope s__law_refused) := ⟨rfl, rfl, rfl, by decide +kernel, rfl, by decide +kernel, by decide +kernel⟩
theorem ok_refused (T : Blt mg) (L : ErrsTxt K mg C LC DC NF UN) (F : Here K mg "_law_refused" s__law_refused ["_law_way", "_law_program_here"]) (D_need_program : DefOk P w K mg base (L2.CX P w) "need_program" ["program"] 18 (spNProg K C))
    (D_looked : DefOk P w K mg base (L2.CX P w) "looked" ["program"] 19 (spRef K C)) (D_written : DefOk P w K mg base (L2.CX P w) "written" ["program"] 20 (spRef K C)) : DefOk P w K mg base CX0 "_law_refused" ["_law_way", "_law_program_here"] 21 (spRefd K) := by
  refine F.ok sc__law_refused (fun vs H Q E h => ?_) (fun f cdv A outer s H vs Q E hr h => ?_)
  · obtain ⟨_, _, _, rfl, _⟩ := h; rfl
  obtain ⟨v, b, i, rfl, hb, hno, q⟩ := h
  have hu64 := hr.units
  have hr_need_program := hr.mono (j := 18) (by omega)
  have hr_looked := hr.mono (j := 19) (by omega)
  have hr_written := hr.mono (j := 20) (by omega)
  refine ⟨_, pss_cons (ps_try_as (i := 2) rfl rfl sc__law_refused.nd rfl rfl ⟨rfl, by decide, .inl L.lg⟩ takes0
      (fun W pn xe tk _ => pss_one (ps_if (pt_cmpR (op_eqKt (K := K) rfl hu64) (pv 0) pe_int (nomark _)) (pss_one (ps_expr (pe_callSD D_need_program hr_need_program (fun σ => passAt tk σ) (pa_cons (pv 1) pa_nil))))
        (pss_one (ps_if (pt_cmpR (op_eqKt (K := K) rfl hu64) (pv 0) pe_int (nomark _)) (pss_one (ps_expr (pe_callSD D_looked hr_looked (fun σ => passAt tk σ) (pa_cons (pv 1) pa_nil))))
          (pss_one (ps_expr (pe_callSD D_written hr_written (fun σ => passAt tk σ) (pa_cons (pv 1) pa_nil))))))))
      (fun a oe cls d pn hz hf => pss_when (c := cls = .ref C ∧ d = none) fun hc =>
        have hz' : Zc (.ref C) none oe := by rw [← hc.1, ← hc.2]; exact hz
        pss_cons (ps_if (PW.pt (pw_or (pt_val (pe_callB (call_isE L.ec hz' hf) (by rfl) T.n_isinstance (by decide +kernel) (pa_cons (pv 2) (pa_cons (pe_glob (v := .ref DC) rfl L.gd rfl) pa_nil)))) (pw_or (pt_val (pe_callB (call_isE L.ec hz' hf) (by rfl) T.n_isinstance (by decide +kernel) (pa_cons (pv 2) (pa_cons (pe_glob (v := .ref NF) rfl L.gn rfl) pa_nil))))
            (pw_or1 (pt_val (pe_callB (call_isE L.ec hz' hf) (by rfl) T.n_isinstance (by decide +kernel) (pa_cons (pv 2) (pa_cons (pe_glob (v := .ref UN) rfl L.gu rfl) pa_nil))))))))
          (pss_one (ps_ret pe_bl)) pss_nil)
        (pss_one (ps_ret (pe_and (pe_callB (call_isE L.ec hz' hf) (by rfl) T.n_isinstance (by decide +kernel) (pa_cons (pv 2) (pa_cons (pe_glob (v := .ref C) rfl L.gb rfl) pa_nil)))
          (pe_one (pe_callB (call_isE L.ec hz' hf) (by rfl) T.n_isinstance (by decide +kernel) (pa_cons (pv 2) (pa_cons (pe_tyN (n := "ValueError") (by rfl) L.zv (by decide +kernel)) pa_nil)))))))))
    (pss_one (ps_ret pe_bl)), ?_⟩
  have key : ∀ (D : Ends) (H2 : Hp), Fr [] H H2 → D.rt = Q → wAs K (.ref LC) 2 (fun a cls d => fun D σ H => (cls = .ref C ∧ d = none) ∧ tSeq (tIfS (tOr (tTest (tCB (rIsE K C a) (tCons (tVar 2) (tCons (tC (.ref DC)) tNil)))) (tOr (tTest (tCB (rIsE K C a) (tCons (tVar 2) (tCons (tC (.ref NF)) tNil)))) (tTest (tCB (rIsE K C a) (tCons (tVar 2) (tCons (tC (.ref UN)) tNil))))))
        (tRet (tC (.bl false))) tNext) (tRet (tAndV (tCB (rIsE K C a) (tCons (tVar 2) (tCons (tC (.ref C)) tNil))) (tCB (rIsE K C a) (tCons (tVar 2) (tCons (tC (.ty "ValueError")) tNil))))) D σ H) (fun _ _ _ _ => False) D (.ref C) none [some (.int i), some v, none] H2 := fun D H2 f2 hD => by
    refine ⟨true, L.ex, fun _ a0 ha => ?_, fun z => nomatch z⟩
    refine ⟨⟨rfl, rfl⟩, ?_⟩
    walk_at "rh"
    refine ⟨_, .ref DC, false, rfl, (fun u z => z), L.kd, ?_⟩
    walk_at "rh"
    refine ifF rfl ?_
    walk_at "rh"
    refine ⟨_, .ref NF, false, rfl, (fun u z => z), L.kn, ?_⟩
    walk_at "rh"
    refine ifF rfl ?_
    walk_at "rh"
    refine ⟨_, .ref UN, false, rfl, (fun u z => z), L.ku, ?_⟩
    walk_at "rh"
    refine ifF rfl ?_
    walk_at "rh"
    refine ⟨_, .ref C, true, rfl, (fun u z => z), L.kb, ?_⟩
    walk_at "rh"
    refine ifT rfl ?_
    walk_at "rh"
    refine ⟨_, .type "ValueError", true, rfl, (fun u z => z), L.kv, ?_⟩
    walk_at "rh"
    show D.rt _ _
    rw [hD]
    exact q H2 f2
  refine rd_seq ?_
  walk_at "rh"
  refine ite2 (fun _ => ?_) (fun _ => ?_)
  · walk_at "rh"
    refine rd_callS ?_
    walk_at "rh"
    exact ⟨v, b, rfl, hb, ⟨(fun z => by rw [hno] at z; cases z), fun _ H2 f2 => key _ H2 f2 rfl⟩⟩
  · walk_at "rh"
    refine ite2 (fun _ => ?_) (fun _ => ?_)
    · walk_at "rh"
      refine rd_callS ?_
      walk_at "rh"
      exact ⟨v, b, rfl, hb, hno, fun H2 f2 => key _ H2 f2 rfl⟩
    · walk_at "rh"
      refine rd_callS ?_
      walk_at "rh"
      exact ⟨v, b, rfl, hb, hno, fun H2 f2 => key _ H2 f2 rfl⟩
end
end Lf
namespace Lf
open PySem PySem.Spec PyProof.Rows L2
/-! ### expressions and statements, as the program holds them -/
inductive Ex where
  | num (n : Int) | name (x : Str) | add (a b : Ex) | mul (a b : Ex)
def encE : Ex → D
  | .num n => .tup [.str "num", .int n]
  | .name x => .tup [.str "name", .str x]
  | .add a b => .tup [.str "add", encE a, encE b]
  | .mul a b => .tup [.str "times", encE a, encE b]
inductive Sm where
  | say (e : Ex) | set (x : Str) (e : Ex) | lap (g : Str) (m : Ex) (r : List Sm)
mutual
def encS : Sm → D
  | .say e => .tup [.str "say", encE e]
  | .set x e => .tup [.str "set", .str x, encE e]
  | .lap g m r => .tup [.str "lap", .str g, encE m, .tup [.str "row", .tup (encL r)]]
def encL : List Sm → List D
  | [] => []
  | s :: r => encS s :: encL r
end
def encR (r : List Sm) : D := .tup [.str "row", .tup (encL r)]
def depE : Ex → Nat
  | .num _ => 0
  | .name _ => 0
  | .add a b => max (depE a) (depE b) + 1
  | .mul a b => max (depE a) (depE b) + 1
mutual
def depS : Sm → Nat
  | .say _ => 0
  | .set _ _ => 0
  | .lap _ _ r => depL r + 1
def depL : List Sm → Nat
  | [] => 0
  | s :: r => max (depS s) (depL r)
end
mutual
def cntS : Sm → Nat
  | .say _ => 1
  | .set _ _ => 1
  | .lap _ _ r => cntL r + 1
def cntL : List Sm → Nat
  | [] => 0
  | s :: r => cntS s + cntL r
end
theorem encL_len : ∀ (r : List Sm), (encL r).length = r.length
  | [] => rfl
  | s :: r => by simp [encL, encL_len r]
section
variable {P : Program} {w : World} {K : PySem.W.Frag} {mg : Str → Option Value} {base : Heap}
theorem none_sp {x : Str} {st : Stmt} {ps : List Str} {sp : Sp} (F : Here K mg x st ps) (no : ∀ vs H Q E, ¬ sp vs H Q E) : DefOk P w K mg base CX0 x ps 0 sp := by
  obtain ⟨f, fd, F, hm, hb⟩ := F.ex
  exact ⟨f, fd, ⟨fun vs H Q E h => absurd h (no vs H Q E), fun A outer s H args us vs Q E _ _ _ _ h => absurd h (no vs H Q E)⟩, F.kp, hb, hm⟩
end
end Lf
namespace Lf
open PySem PySem.Spec PyProof.Rows L2
/-! ### the law's drawing: h = [int, cells, int], any cells -/
/-- h stands, its cells at c; n cells -/
structure HAt (H : Hp) (h c : Addr) (n : Nat) : Prop where
  ne : h ≠ c
  ex : ∃ (x k : Int) (cells : List Int), H h = some (.lst [.int x, .ref c, .int k]) ∧ H c = some (.lst (cells.map V.int)) ∧ 0 ≤ k ∧ cells.length = n
def spNext (n : Nat) : Sp := fun vs H Q _ => ∃ h c m, vs = [.ref h, .int m] ∧ 0 < m ∧ m < 2 ^ 64 ∧ HAt H h c n ∧ ∀ r H2, 0 ≤ r → r < m → Fr [h, c] H H2 → HAt H2 h c n → Q (.int r) H2
theorem HAt.kp {H H1 : Hp} {h c : Addr} {n : Nat} (a : HAt H h c n) (f : Fr [h, c] H H1) : Kp H H1 := by
  obtain ⟨_, x, k, cells, eh, ec, _⟩ := a
  exact f.kpL2 eh ec
theorem HAt.mono {H H1 : Hp} {h c : Addr} {n : Nat} (a : HAt H h c n) (f : Fr [] H H1) : HAt H1 h c n := by
  obtain ⟨ne, x, k, cells, eh, ec, r⟩ := a
  exact ⟨ne, x, k, cells, f.at eh, f.at ec, r⟩
/-- another list changes -/
theorem HAt.mono1 {H H1 : Hp} {h c l : Addr} {n : Nat} (a : HAt H h c n) (f : Fr [l] H H1) (nh : l ≠ h) (nc : l ≠ c) : HAt H1 h c n := by
  obtain ⟨ne, x, k, cells, eh, ec, r⟩ := a
  exact ⟨ne, x, k, cells, f.at eh (by simpa using Ne.symm nh), f.at ec (by simpa using Ne.symm nc), r⟩
theorem HAt.new {H : Hp} {h c l : Addr} {n : Nat} (a : HAt H h c n) (e : H l = none) : l ≠ h ∧ l ≠ c := by
  obtain ⟨ne, x, k, cells, eh, ec, r⟩ := a
  exact ⟨(ne_of_none eh e).symm, (ne_of_none ec e).symm⟩
theorem atI_in {vs : List V} {i : Int} (h0 : 0 ≤ i) (h : i < (vs.length : Int)) : ∃ v, v ∈ vs ∧ atI vs i = some v := by
  have hk : i.toNat < vs.length := by omega
  refine ⟨vs[i.toNat], List.getElem_mem hk, ?_⟩
  have e : i = ((i.toNat : Nat) : Int) := by omega
  have q : atI vs ((i.toNat : Nat) : Int) = some vs[i.toNat] := atI_nat (List.getElem?_eq_getElem hk)
  rw [← e] at q
  exact q
theorem atI_mem {cells : List Int} {i : Int} (h0 : 0 ≤ i) (h : i < (cells.length : Int)) : ∃ v : Int, v ∈ cells ∧ atI (cells.map V.int) i = some (.int v) := by
  have hk : i.toNat < cells.length := by omega
  refine ⟨cells[i.toNat], List.getElem_mem hk, ?_⟩
  have e : i = ((i.toNat : Nat) : Int) := by omega
  have q : atI (cells.map V.int) ((i.toNat : Nat) : Int) = some (.int cells[i.toNat]) := atI_nat (by rw [List.getElem?_map, List.getElem?_eq_getElem hk]; rfl)
  rw [← e] at q
  exact q
theorem atI_ints {cells : List Int} {i : Int} (h0 : 0 ≤ i) (h : i < (cells.length : Int)) : ∃ v : Int, atI (cells.map V.int) i = some (.int v) := by
  obtain ⟨v, _, q⟩ := atI_mem h0 h; exact ⟨v, q⟩
theorem ixN_in {n : Nat} {i : Int} (h0 : 0 ≤ i) (h : i < (n : Int)) : ixN n i = some i.toNat := by
  unfold ixN; rw [if_pos h0, if_pos h]
theorem dp_ints {K : PySem.W.Frag} {H : Hp} : ∀ (cells : List Int), DpAll K H (cells.map V.int) (cells.map PyData.int)
  | [] => .nil
  | _ :: r => .cons (.int _) (dp_ints r)
theorem canLay_ints : ∀ (cells : List Int), PyData.canLayAll0 (cells.map PyData.int) = true
  | [] => rfl
  | _ :: r => by simp [PyData.canLayAll0, PyData.canLay0, canLay_ints r]
theorem depth_ints : ∀ (cells : List Int), PyData.depthAll (cells.map PyData.int) = 0
  | [] => rfl
  | _ :: r => by simp [PyData.depthAll, PyData.depth, depth_ints r]
theorem shaped_ints (cells : List Int) : SeqAt.shaped (.list (cells.map PyData.int)) = true := by
  simp [SeqAt.shaped, PyData.canLay0, canLay_ints, PyData.depth, depth_ints]
theorem eqv_nil (cells : List Int) : PyData.eqv (.list (cells.map PyData.int)) (.list []) = decide (cells = []) := by
  cases cells <;> simp [PyData.eqv, PyData.eqvAll]
theorem rd_neNilI {K : PySem.W.Frag} {H : Hp} {Q : VK} {a p : Addr} {cells : List Int} (h : SqL K H a (cells.map V.int)) (h2 : SqL K H p []) (q : Q (.bl (!decide (cells = []))) H) : rNeA K (.ref a) (.ref p) H Q :=
  rd_neD (.lst h (dp_ints cells)) (.lst h2 .nil) (shaped_ints cells) (shaped_ints []) (by rw [eqv_nil]; exact q)
theorem mod_pos (a : Int) {m : Int} (h : 0 < m) : 0 ≤ Int.fmod a m ∧ Int.fmod a m < m := by
  rw [Int.fmod_eq_emod_of_nonneg _ (by omega)]
  exact ⟨Int.emod_nonneg _ (by omega), Int.emod_lt_of_pos _ h⟩
section
variable {P : Program} {w : World} {K : PySem.W.Frag} {mg : Str → Option Value} {base : Heap}
abbrev s__law_next : Stmt := top 71
abbrev N__law_next : List Str := ["_law_h", "_law_many", "_law_at", "_law_cell"]
theorem sc__law_next : FnScope N__law_next ["_law_h", "_law_many"] (defScope s__law_next) := ⟨rfl, rfl, rfl, by decide +kernel, rfl, by decide +kernel, by decide +kernel⟩
theorem ok_next (n : Nat) (T : Blt mg) (F : Here K mg "_law_next" s__law_next ["_law_h", "_law_many"]) : DefOk P w K mg base CX0 "_law_next" ["_law_h", "_law_many"] 1 (spNext n) := by
  refine F.ok sc__law_next (fun vs H Q E h => ?_) (fun f cdv A outer s H vs Q E hr h => ?_)
  · obtain ⟨_, _, _, rfl, _⟩ := h; rfl
  obtain ⟨h, c, m, rfl, m0, m1, ⟨ne, x, k, cells, eh, ec, k0, el⟩, q⟩ := h
  have hu64 := hr.units
  refine ⟨_, (pss_cons (ps_set (i := 2) sc__law_next.nd rfl (Or.inl rfl) (pe_op op_modN (pe_ix ix_seq (pv 0) pe_int (fun _ _ => rfl)) (pe_callB (call_max2A rfl) (by rfl) T.n_max (by decide +kernel) (pa_cons pe_int (pa_cons (pe_callB call_lenA (by rfl) T.n_len PySem.boot_len (pa_cons (pe_ix ix_seq (pv 0) pe_int (fun _ _ => rfl)) pa_nil)) pa_nil)))))
    (pss_cons (ps_set (i := 3) sc__law_next.nd rfl (Or.inl rfl) (pe_ifExp (pt_cmpR (op_neA hu64) (pe_ix ix_seq (pv 0) pe_int (fun _ _ => rfl)) (pe_lst pa_nil) (nomark _)) (pe_ix ix_seq (pe_ix ix_seq (pv 0) pe_int (fun _ _ => rfl)) (pv 2) (fun _ _ => rfl)) pe_int))
    (pss_cons (ps_if (pt_cmpR op_ge (pv 3) (pe_op op_pow pe_int pe_int) (nomark _))
    (pss_cons (ps_asg (pe_op op_fdivW (pv 3) (pv 1)) (pg_sub (pe_ix ix_seq (pv 0) pe_int (fun _ _ => rfl)) (pv 2) set_list))
    (pss_one (ps_ret (pe_op op_modN (pv 3) (pv 1)))))
    pss_nil)
    (pss_cons (ps_asg (pe_op op_modN (pe_op op_plus (pe_op op_plus (pe_op op_timesA (pe_ix ix_seq (pv 0) pe_int (fun _ _ => rfl)) pe_int) (pe_op op_timesA (pv 3) pe_int)) pe_int) pe_int) (pg_sub (pv 0) pe_int set_list))
    (pss_cons (ps_asg (pe_op op_plus (pe_ix ix_seq (pv 0) pe_int (fun _ _ => rfl)) pe_int) (pg_sub (pv 0) pe_int set_list))
    (pss_one (ps_ret (pe_op op_modN (pe_op op_fdivW (pe_ix ix_seq (pv 0) pe_int (fun _ _ => rfl)) pe_int) (pv 1))))))))), ?_⟩
  have hlen : (((cells.map V.int).length : Nat) : Int) = (cells.length : Int) := by rw [List.length_map]
  with_reducible refine rd_seq ?_
  walk_at "rs"
  have hat := mod_pos k (m := if (((cells.map V.int).length : Nat) : Int) > 1 then (((cells.map V.int).length : Nat) : Int) else 1) (by split <;> omega)
  refine rd_I (by split <;> omega) ?_
  generalize he : Int.fmod k _ = i at hat ⊢
  walk_at "rs"
  with_reducible refine rd_seqc fun N hN => ?_
  -- the drawn cell is v; i lies in the cells where there are any
  have fin : ∀ (v : Int) (H1 : Hp), Fr [] H H1 → (cells = [] → v = 0) → N [some (.ref h), some (.int m), some (.int i), some (.int v)] H1 := by
    intro v H1 f1 hv
    refine hN _ _ ?_
    have eh1 := f1.at eh
    have ec1 := f1.at ec
    with_reducible refine rd_seqc fun N2 hN2 => ?_
    have two : N2 [some (.ref h), some (.int m), some (.int i), some (.int v)] H1 := by
      refine hN2 _ _ ?_
      walk_at "rh"
      refine rd_mulR (by decide) ?_
      walk_at "rh"
      refine rd_mulR (by decide) ?_
      walk_at "rh"
      refine rd_I (by decide) ?_
      walk_at "rh"
      refine rd_setL eh1 rfl fun H2 f2 _ e2 => ?_
      have ec2 : H2 c = some (.lst (cells.map V.int)) := f2.at ec1 (by simpa using Ne.symm ne)
      walk_at "rh"
      refine rd_setL e2 rfl fun H3 f3 _ e3 => ?_
      have ec3 : H3 c = some (.lst (cells.map V.int)) := f3.at ec2 (by simpa using Ne.symm ne)
      walk_at "rh"
      refine rd_I (wide_div (b := 10) (by decide) (by decide) (by decide) (by decide)) ?_
      walk_at "rh"
      refine rd_I (by omega) ?_
      walk_at "rh"
      have r := mod_pos ((Int.fmod (x * 48271 + v * 69621 + 11) 2147483647) / 7) m0
      refine q _ H3 r.1 r.2 (f1.nil.trans ((f2.wk (by simp)).trans (f3.wk (by simp)))) ⟨ne, _, k + 1, cells, e3, ec3, by omega, el⟩
    walk_at "rs"
    refine rd_I ⟨by decide, by decide, by decide⟩ ?_
    walk_at "rs"
    refine ite2 (fun hc => ?_) (fun _ => ?_)
    · have hv1 : (10 : Int) ^ (18 : Int).toNat ≤ v := of_decide_eq_true hc
      have hne : cells ≠ [] := fun e => by rw [hv e] at hv1; exact absurd hv1 (by decide)
      have hpos : 0 < cells.length := List.length_pos_iff.mpr hne
      have hi : 0 ≤ i ∧ i < (cells.length : Int) := by
        refine ⟨hat.1, ?_⟩
        have := hat.2
        rw [hlen] at this
        split at this <;> omega
      walk_at "rh"
      refine rd_I (wide_div (b := 64) m0 (by omega) (by decide) (by decide)) ?_
      walk_at "rh"
      refine rd_setL ec1 (ixN_in hi.1 (by rw [hlen]; exact hi.2)) fun H2 f2 _ e2 => ?_
      have eh2 : H2 h = some (.lst [.int x, .ref c, .int k]) := f2.at eh1 (by simpa using ne)
      walk_at "rh"
      refine rd_I (by omega) ?_
      walk_at "rh"
      have r := mod_pos v m0
      have hset : (cells.map V.int).set i.toNat (V.int (v / m)) = (cells.set i.toNat (v / m)).map V.int := by rw [List.map_set]
      refine q _ H2 r.1 r.2 (f1.nil.trans (f2.wk (by simp))) ⟨ne, x, k, cells.set i.toNat (v / m), eh2, by rw [e2, hset], k0, by rw [List.length_set]; exact el⟩
    · walk_at "rs"
      exact two
  walk_at "rs"
  refine rd_newL (by simp) fun p H1 fp f1 ep => ?_
  have ec1 := f1.at ec
  refine rd_neNilI (SqL.of ec1) (SqL.of ep) ?_
  walk_at "rs"
  refine ite2 (fun hc => ?_) (fun hc => ?_)
  · have hne : cells ≠ [] := by simpa using hc
    have hpos : 0 < cells.length := List.length_pos_iff.mpr hne
    obtain ⟨v, hv⟩ := atI_ints (cells := cells) hat.1 (by have := hat.2; rw [hlen] at this; split at this <;> omega)
    walk_at "rs"
    refine rd_ixH ec1 hv ?_
    walk_at "rs"
    exact fin v H1 f1 (fun e => absurd e hne)
  · have hne : cells = [] := by simpa using hc
    walk_at "rs"
    exact fin 0 H1 f1 (fun _ => rfl)
theorem c_next {n : Nat} {H : Hp} {h c : Addr} {m : Int} {Q : VK} {E : XK} (hat : HAt H h c n) (hm : 0 < m ∧ m < 2 ^ 64) (q : ∀ r H2, 0 ≤ r → r < m → Fr [h, c] H H2 → Kp H H2 → HAt H2 h c n → Q (.int r) H2) : spNext n ([.ref h, .int m] ++ []) H Q E :=
  ⟨h, c, m, rfl, hm.1, hm.2, hat, fun r H2 a b f g => q r H2 a b f (hat.kp f) g⟩
end
end Lf
local macro_rules | `(tactic| walk_at "ha") => `(tactic| first
  | assumption
  | ((refine' Lf.HAt.mono ?k3 ?k1); (case k1 => assumption); (case k3 => (walk_at "ha")))
  | ((refine' Lf.HAt.mono1 ?k3 ?k1 ?k4 ?k5); (case k1 => assumption); (case k4 => assumption); (case k5 => assumption); (case k3 => (walk_at "ha"))))
local macro_rules | `(tactic| walk_at "nx") => `(tactic| ((refine' Lf.c_next ?k1 ?k2 ?k3); (case k1 => (walk_at "ha")); (case k2 => decide)))
namespace Lf
open PySem PySem.Spec PyProof.Rows L2
/-! ### slices, joins, lists timed -/
def rSlAny (K : PySem.W.Frag) : V → Option Int → Option Int → Hp → VK → Prop := fun x lo hi H Q => rSlL K x lo hi H Q ∨ (rSlS x lo hi H Q ∨ rSlA K x lo hi H Q)
theorem sl_any {X : Cx} : SlR X (rSlAny X.K) := SlR.or sl_list (SlR.or sl_str sl_tupA)
theorem ix_seqK {X : Cx} {K : PySem.W.Frag} (h : X.K = K) : IxR X (rIx K) := by subst h; exact ix_seq
theorem sl_anyK {X : Cx} {K : PySem.W.Frag} (h : X.K = K) : SlR X (rSlAny K) := by subst h; exact sl_any
theorem op_plusK {X : Cx} {K : PySem.W.Frag} (h : X.K = K) : OpR X (binaryOp .Add) (rPlus K) := by subst h; exact op_plus
theorem op_timesK {X : Cx} {K : PySem.W.Frag} (h : X.K = K) : OpR X (binaryOp .Mult) (rTimes K) := by subst h; exact op_timesA
theorem call_lenK {X : Cx} {K : PySem.W.Frag} (h : X.K = K) : CallR X (.builtin "len") (rLenA K) := by subst h; exact call_lenA
def PartI (x : V) (H : Hp) (Q : Option Int → Hp → Prop) : Prop := ∃ i, x = .int i ∧ Q (some i) H
section
variable {K : PySem.W.Frag} {σ : L2.St} {H : Hp} {Q : VK} {te to : TE} {tl th : TO} {lo hi : Option Int} {a l : Addr} {xs : List V} {R : Option Int → Hp → Prop}
theorem rd_sl {r : V → Option Int → Option Int → Hp → VK → Prop} (q : te σ H fun x H1 => tl σ H1 fun l H2 => th σ H2 fun u H3 => r x l u H3 Q) : tSl r te tl th σ H Q := q
theorem rd_nopart (q : R none H) : tNoPart σ H R := q
theorem rd_part (q : te σ H fun x H1 => PartI x H1 R) : tPart te σ H R := q
theorem rd_parti {i : Int} (q : R (some i) H) : PartI (.int i) H R := ⟨i, rfl, q⟩
theorem rd_slL (h : SqL K H a xs) (q : ∀ p H2, H p = none → Fr [] H H2 → H2 p = some (.lst (cutV xs lo hi)) → Q (.ref p) H2) : rSlAny K (.ref a) lo hi H Q := .inl ⟨a, xs, rfl, h, fun p hp => q p _ hp ((Fr.refl [] H).new hp) upd_same⟩
theorem rd_slS {z : Str} (h : z.length ≤ 1000) (q : Q (.str (cutS z lo hi)) H) : rSlAny K (.str z) lo hi H Q := .inr (.inl ⟨z, rfl, Nat.le_of_lt (small1000 h), q⟩)
theorem rd_slT (h : SqT K H a xs) (q : ∀ p H2, Fr [] H H2 → SqT K H2 p (cutV xs lo hi) → Q (.ref p) H2) : rSlAny K (.ref a) lo hi H Q :=
  .inr (.inr ⟨a, xs, rfl, h, fun w => q a H (Fr.refl _ _) (by
    have e : cutV xs lo hi = xs := by unfold cutV; rw [w.1, w.2]; simp
    rw [e]; exact h), fun _ p hp => q p _ ((Fr.refl [] H).new hp) (SqT.of upd_same)⟩)
theorem rd_m1 {r : V → List V → Hp → VK → Prop} (q : to σ H fun x H1 => (∃ a, x = .str a) ∧ te σ H1 fun y H2 => r x [y] H2 Q) : tM1 r to te σ H Q := q
theorem rd_rep {k : Int} (h : H l = some (.lst xs)) (h1 : 0 ≤ k) (h2 : k ≤ 1000) (h3 : xs.length * k.toNat ≤ 1000) (q : ∀ p H2, H p = none → Fr [] H H2 → H2 p = some (.lst (List.replicate k.toNat xs).flatten) → Q (.ref p) H2) : rTimes K (.ref l) (.int k) H Q :=
  .inr (.inr (.inl ⟨l, k, xs, rfl, rfl, h, by omega, by omega, Nat.le_of_lt (small1000 h3), fun p hp => q p _ hp ((Fr.refl [] H).new hp) upd_same⟩))
end
theorem cutS_len (z : Str) (lo hi : Option Int) : (cutS z lo hi).length ≤ z.length := by
  show ((z.cps.toList.drop _).take _).toArray.size ≤ z.cps.size
  rw [List.size_toArray, List.length_take, List.length_drop, Array.length_toList]
  omega
end Lf
namespace Lf
open PySem PySem.Spec PyProof.Rows L2
/-! ### the law's seven names -/
theorem abc_nat : ∀ j : Nat, j < 26 → ("abcdefghijklmnopqrstuvwxyz" : Str).cps.toList[j]? = some (97 + j) := by decide +kernel
theorem abc_at {i : Int} (h0 : 0 ≤ i) (h : i < 26) : atI ("abcdefghijklmnopqrstuvwxyz" : Str).cps.toList i = some (97 + i.toNat) := by
  have e : i = ((i.toNat : Nat) : Int) := by omega
  have q := atI_nat (abc_nat i.toNat (by omega))
  rw [← e] at q
  exact q
theorem abc_len : ("abcdefghijklmnopqrstuvwxyz" : Str).length ≤ 1000 := by decide +kernel
def ltr (t k : Nat) : Nat := 97 + (t + 11 * k) % 26
theorem ltr_nodup : ∀ t : Nat, t < 26 → ((List.range 7).map fun k => some (ltr t k)).Nodup := by decide +kernel
def hd1 (x : Str) : Option Nat := x.cps.toList.head?
def la1 (x : Str) : Option Nat := x.cps.toList.getLast?
theorem hd1_app (c : Nat) (y : Str) : hd1 ((⟨#[c]⟩ : Str) ++ y) = some c := by
  show ((#[c] ++ y.cps).toList).head? = some c
  simp
theorem la1_app (c : Nat) (y : Str) : la1 (y ++ (⟨#[c]⟩ : Str)) = some c := by
  show ((y.cps ++ #[c]).toList).getLast? = some c
  simp
theorem nodup_of {f : Str → Option Nat} {xs : List Str} {t : Nat} (ht : t < 26) (h : xs.map f = (List.range 7).map fun k => some (ltr t k)) : xs.Nodup := by
  have n := ltr_nodup t ht
  rw [← h] at n
  exact (List.pairwise_map.mp n).imp fun {a b} (z : f a ≠ f b) (e : a = b) => z (by rw [e])
theorem app_len (a b : Str) : (a ++ b).length = a.length + b.length := by
  show (a.cps ++ b.cps).size = _
  rw [Array.size_append]; rfl
theorem let_nat : ∀ j : Nat, j < 26 → 97 + j ∈ LET.cps.toList := by decide +kernel
/-- words of small letters -/
def wdC (x : Str) : Prop := PyData.strOk x = true ∧ ∀ c ∈ x.cps.toList, c ∈ LET.cps.toList
theorem wdC_app {a b : Str} (h : wdC a) (g : wdC b) : wdC (a ++ b) := by
  refine ⟨?_, fun c hc => ?_⟩
  · show (a.cps ++ b.cps).all _ = true
    rw [Array.all_append]
    exact Bool.and_eq_true_iff.mpr ⟨h.1, g.1⟩
  · have e : (a ++ b).cps.toList = a.cps.toList ++ b.cps.toList := by show (a.cps ++ b.cps).toList = _; simp
    rw [e] at hc
    rcases List.mem_append.mp hc with z | z
    · exact h.2 c z
    · exact g.2 c z
theorem wdC_one {c : Nat} (h : 97 ≤ c ∧ c < 123) : wdC ⟨#[c]⟩ := by
  refine ⟨?_, fun d hd => ?_⟩
  · show Array.all #[c] _ = true
    simp; omega
  · have e : d = c := by simpa using hd
    subst e
    have := let_nat (d - 97) (by omega)
    have e2 : 97 + (d - 97) = d := by omega
    rw [e2] at this
    exact this
theorem wdC_nil : wdC ("" : Str) := by
  refine ⟨(by show PyData.strOk _ = true; decide +kernel), fun c hc => ?_⟩
  have e : ("" : Str).cps.toList = [] := by decide +kernel
  rw [e] at hc
  exact absurd hc (by simp)
theorem wdC_join : ∀ ys : List Str, (∀ y ∈ ys, wdC y) → wdC (Str.join "" ys)
  | [], _ => wdC_nil
  | [x], h => h x (by simp)
  | x :: y :: r, h => wdC_app (wdC_app (h x (by simp)) wdC_nil) (wdC_join (y :: r) fun z hz => h z (List.mem_cons_of_mem _ hz))
theorem wdC_cut {z : Str} {lo hi : Option Int} (h : wdC z) : wdC (cutS z lo hi) := by
  obtain ⟨h, h2⟩ := h
  refine ⟨?_, fun c hc => ?_⟩
  · have h : z.cps.all (fun x => decide (x < 0x110000)) = true := h
    show Array.all (((z.cps.toList.drop _).take _).toArray) _ = true
    rw [List.all_toArray, List.all_eq_true]
    rw [← Array.all_toList, List.all_eq_true] at h
    intro x hx
    exact h x (List.mem_of_mem_drop (List.mem_of_mem_take hx))
  · have hc : c ∈ (((z.cps.toList.drop _).take _).toArray).toList := hc
    rw [List.toList_toArray] at hc
    exact h2 c (List.mem_of_mem_drop (List.mem_of_mem_take hc))
/-- a name -/
def okC (x : Str) : Prop := PyData.strOk x = true ∧ okName (.str x) = true
theorem okC_mk {x : Str} (h : wdC x) (l1 : 1 ≤ x.length) (l8 : x.length ≤ 8) : okC x := by
  refine ⟨h.1, ?_⟩
  simp only [okName, decide_eq_true l1, decide_eq_true l8, Bool.true_and]
  exact List.all_eq_true.mpr fun c hc => decide_eq_true (h.2 c hc)
theorem ltr_lt {t k : Nat} : 97 ≤ ltr t k ∧ ltr t k < 123 := by unfold ltr; omega
def spNames7 (n : Nat) : Sp := fun vs H Q _ => ∃ h c, vs = [.ref h] ∧ HAt H h c n ∧ ∀ (l : Addr) (xs : List Str) (H2 : Hp), H l = none → xs.length = 7 → xs.Nodup → (∀ x ∈ xs, okC x) → Fr [h, c] H H2 → HAt H2 h c n → H2 l = some (.lst (xs.map V.str)) → Q (.ref l) H2
section
variable {P : Program} {w : World} {K : PySem.W.Frag} {mg : Str → Option Value} {base : Heap}
abbrev s__law_names : Stmt := top 72
abbrev N__law_names : List Str := ["_law_h", "_law_some", "_law_word", "_law_k", "_law_turn", "_law_letters", "_law_ends", "_law_letter"]
theorem sc__law_names : FnScope N__law_names ["_law_h"] (defScope s__law_names) := ⟨rfl, rfl, rfl, by decide +kernel, rfl, by decide +kernel, by decide +kernel⟩
theorem ok_names7 (T : Blt mg) (n : Nat) (F : Here K mg "_law_names" s__law_names ["_law_h"]) (D__law_next : DefOk P w K mg base CX0 "_law_next" ["_law_h", "_law_many"] 1 (spNext n)) : DefOk P w K mg base CX0 "_law_names" ["_law_h"] 2 (spNames7 n) := by
  refine F.ok sc__law_names (fun vs H Q E h => ?_) (fun f cdv A outer s H vs Q E hr h => ?_)
  · obtain ⟨_, _, rfl, _⟩ := h; rfl
  obtain ⟨h, c, rfl, hat, q⟩ := h
  have hu64 := hr.units
  have hr__law_next := hr.mono (j := 1) (by omega)
  refine ⟨_, (pss_cons (ps_set (i := 1) sc__law_names.nd rfl (Or.inr rfl) pe_str)
    (pss_cons (ps_set (i := 2) sc__law_names.nd rfl (Or.inr rfl) (pe_join pe_str (pe_lc (own := [("_law_k", 3)]) (g := gName 3) (tt := tYes) rfl sc__law_names.nd (pi_range1 (by rfl) T.n_range (pa_cons (pe_callD D__law_next hr__law_next pass0 (pa_cons (pv 0) (pa_cons pe_int pa_nil))) pa_nil)) (blkOk_by (own := [("_law_k", 3)]) (N := N__law_names) (sc := defScope s__law_names) (by decide +kernel)) (fun _ _ _ _ _ => (pg_name (i := 3) sc__law_names.nd rfl (Or.inl rfl))) (fun _ _ _ _ _ => pts_nil) (fun _ _ _ _ _ => (pe_ix (ix_seqK (K := K) rfl) (pv 1) (pe_callD D__law_next hr__law_next pass0 (pa_cons (pv 0) (pa_cons pe_int pa_nil))) (fun _ _ => rfl))))))
    (pss_cons (ps_set (i := 4) sc__law_names.nd rfl (Or.inr rfl) (pe_callD D__law_next hr__law_next pass0 (pa_cons (pv 0) (pa_cons pe_int pa_nil))))
    (pss_cons (ps_set (i := 5) sc__law_names.nd rfl (Or.inr rfl) (pe_lc (own := [("_law_k", 3)]) (g := gName 3) (tt := tYes) rfl sc__law_names.nd (pi_range1 (by rfl) T.n_range (pa_cons pe_int pa_nil)) (blkOk_by (own := [("_law_k", 3)]) (N := N__law_names) (sc := defScope s__law_names) (by decide +kernel)) (fun _ _ _ _ _ => (pg_name (i := 3) sc__law_names.nd rfl (Or.inl rfl))) (fun _ _ _ _ _ => pts_nil) (fun _ _ _ _ _ => (pe_ix (ix_seqK (K := K) rfl) (pv 1) (pe_op op_modN (pe_op (op_plusK (K := K) rfl) (pv 4) (pe_op (op_timesK (K := K) rfl) pe_int (pv 3))) pe_int) (fun _ _ => rfl)))))
    (pss_cons (ps_set (i := 6) sc__law_names.nd rfl (Or.inr rfl) (pe_op op_timesA (pe_lst (pa_cons (pe_callB call_lenA (by rfl) T.n_len PySem.boot_len (pa_cons (pv 2) pa_nil)) pa_nil)) pe_int))
    (pss_cons (ps_if (pt_cmpR (op_eqA hu64) (pe_callD D__law_next hr__law_next pass0 (pa_cons (pv 0) (pa_cons pe_int pa_nil))) pe_int (nomark _))
    (pss_one (ps_set (i := 6) sc__law_names.nd rfl (Or.inr rfl) (pe_lc (own := [("_law_letter", 7)]) (g := gName 7) (tt := tYes) rfl sc__law_names.nd (pi_list (pv 5)) (blkOk_by (own := [("_law_letter", 7)]) (N := N__law_names) (sc := defScope s__law_names) (by decide +kernel)) (fun _ _ _ _ _ => (pg_name (i := 7) sc__law_names.nd rfl (Or.inl rfl))) (fun _ _ _ _ _ => pts_nil) (fun _ _ _ _ _ => (pe_callD D__law_next hr__law_next pass0 (pa_cons (pv 0) (pa_cons (pe_op (op_plusK (K := K) rfl) (pe_callB (call_lenK (K := K) rfl) (by rfl) T.n_len PySem.boot_len (pa_cons (pv 2) pa_nil)) pe_int) pa_nil)))))))
    pss_nil)
    (pss_cons (ps_if (pt_cmpR (op_eqA hu64) (pe_callD D__law_next hr__law_next pass0 (pa_cons (pv 0) (pa_cons pe_int pa_nil))) pe_int (nomark _))
    (pss_one (ps_ret (pe_lc (own := [("_law_k", 3)]) (g := gName 3) (tt := tYes) rfl sc__law_names.nd (pi_range1 (by rfl) T.n_range (pa_cons pe_int pa_nil)) (blkOk_by (own := [("_law_k", 3)]) (N := N__law_names) (sc := defScope s__law_names) (by decide +kernel)) (fun _ _ _ _ _ => (pg_name (i := 3) sc__law_names.nd rfl (Or.inl rfl))) (fun _ _ _ _ _ => pts_nil) (fun _ _ _ _ _ => (pe_op (op_plusK (K := K) rfl) (pe_ix (ix_seqK (K := K) rfl) (pv 5) (pv 3) (fun _ _ => rfl)) (pe_slice (sl_anyK (K := K) rfl) (pv 2) po_none (po_some (pe_ix (ix_seqK (K := K) rfl) (pv 6) (pv 3) (fun _ _ => rfl)))))))))
    pss_nil)
    (pss_one (ps_ret (pe_lc (own := [("_law_k", 3)]) (g := gName 3) (tt := tYes) rfl sc__law_names.nd (pi_range1 (by rfl) T.n_range (pa_cons pe_int pa_nil)) (blkOk_by (own := [("_law_k", 3)]) (N := N__law_names) (sc := defScope s__law_names) (by decide +kernel)) (fun _ _ _ _ _ => (pg_name (i := 3) sc__law_names.nd rfl (Or.inl rfl))) (fun _ _ _ _ _ => pts_nil) (fun _ _ _ _ _ => (pe_op (op_plusK (K := K) rfl) (pe_slice (sl_anyK (K := K) rfl) (pv 2) po_none (po_some (pe_ix (ix_seqK (K := K) rfl) (pv 6) (pv 3) (fun _ _ => rfl)))) (pe_ix (ix_seqK (K := K) rfl) (pv 5) (pv 3) (fun _ _ => rfl)))))))))))))), ?_⟩
  walk_at "rh"
  refine rd_m1 ?_
  walk_at "rh"
  refine ⟨⟨_, rfl⟩, ?_⟩
  walk_at "rh"
  walk_at "nx"
  intro m H1 m0 m1 f1 k1 hat1
  walk_at "rh"
  refine rd_rng1 (by omega) ?_
  refine rd_lcR fun D H2 fD f2 eD => ?_
  have ⟨nDh, nDc⟩ := hat1.new fD
  have fD0 := f1.freeM fD (by simp [nDh, nDc])
  refine ⟨fun k acc H' => Fr [h, c] H H' ∧ HAt H' h c n ∧ ∃ ys : List Str, acc = ys.map V.str ∧ ys.length = k ∧ ∀ y ∈ ys, y.length = 1 ∧ wdC y, ⟨f1.trans f2.nil, hat1.mono f2, [], rfl, rfl, by simp⟩, fun k acc H' hk e' ⟨f', hat', ys, ea, hl, hp⟩ => ?_, fun acc H' e' ⟨f', hat', ys, ea, hl, hp⟩ => ?_⟩
  · walk_at "rh"
    refine ifT rfl ?_
    walk_at "rh"
    walk_at "nx"
    intro r H3 r0 r1 f3 k3 hat3
    refine rd_ixS abc_len (abc_at r0 r1) ?_
    have e3 := f3.at2 e' nDh nDc
    refine rd_lcend e3 (by rw [ea, List.length_map]; omega) fun H4 f4 k4 e4 => ?_
    refine ⟨(f'.trans f3).then1 f4 fD0, hat3.mono1 f4 nDh nDc, ys ++ [⟨#[97 + r.toNat]⟩], by rw [ea]; simp, by simp [hl], fun y hy => ?_⟩
    rcases List.mem_append.mp hy with hy | hy
    · exact hp y hy
    · rw [List.mem_singleton.mp hy]; exact ⟨rfl, wdC_one (by omega)⟩
  have hsum : (ys.map (·.length)).sum ≤ 7 := by
    have : ∀ l : List Str, (∀ y ∈ l, y.length = 1) → (l.map (·.length)).sum = l.length := by
      intro l
      induction l with
      | nil => intro _; rfl
      | cons a l ih =>
        intro z
        simp only [List.map_cons, List.sum_cons, List.length_cons]
        rw [ih (fun y hy => z y (List.mem_cons_of_mem _ hy)), z a List.mem_cons_self]
        omega
    rw [this ys fun y hy => (hp y hy).1]
    omega
  refine ⟨_, D, ys, rfl, rfl, .inl (SqL.of (by rw [← ea]; exact e')), by show _ + ys.length * 0 ≤ _; omega, ?_⟩
  have hw0 : (Txt.join "" ys).length ≤ 7 := by
    have z : (Txt.join "" ys).length = (ys.map (·.length)).sum + (ys.length - 1) * 0 := PySem.size_glued "" ys
    omega
  have hwk : wdC (Txt.join "" ys) := by
    rw [show Txt.join "" ys = Str.join "" ys from StrLaws.glued_eq_join "" ys]
    exact wdC_join ys fun y hy => (hp y hy).2
  generalize Txt.join "" ys = wd at hw0 hwk ⊢
  walk_at "rh"
  walk_at "nx"
  intro t H3 t0 t1 f3 k3 hat3
  walk_at "rh"
  have fH3 := f'.trans f3
  refine rd_lcR fun L H4 fL f4 eL => ?_
  have ⟨nLh, nLc⟩ := hat3.new fL
  have fL0 := fH3.freeM fL (by simp [nLh, nLc])
  obtain ⟨tn, rfl, htn⟩ : ∃ tn : Nat, t = tn ∧ tn < 26 := ⟨t.toNat, by omega, by omega⟩
  refine ⟨fun k acc H' => Fr [h, c] H H' ∧ HAt H' h c n ∧ acc = (List.range k).map fun k => V.str ⟨#[ltr tn k]⟩, ⟨fH3.trans f4.nil, hat3.mono f4, rfl⟩, fun k acc H' hk e' ⟨f', hat', ea⟩ => ?_, fun letters H5 eL5 ⟨f5, hat5, ea⟩ => ?_⟩
  · walk_at "rh"
    refine ifT rfl ?_
    walk_at "rh"
    refine rd_mulL (by decide) ?_
    walk_at "rh"
    refine rd_I (by decide) ?_
    walk_at "rh"
    refine rd_ixS abc_len (abc_at (i := Int.fmod ((tn : Int) + 11 * (0 + (k : Int))) 26) (Int.fmod_nonneg_of_pos _ (by decide)) (Int.fmod_lt_of_pos _ (by decide))) ?_
    refine rd_lcend e' (by rw [ea]; simp; omega) fun H6 f6 k6 e6 => ?_
    refine ⟨f'.then1 f6 fL0, hat'.mono1 f6 nLh nLc, ?_⟩
    rw [ea, List.range_succ, List.map_append]
    have e : 97 + (Int.fmod ((tn : Int) + 11 * (0 + (k : Int))) 26).toNat = ltr tn k := by
      unfold ltr
      rw [Int.fmod_eq_emod_of_nonneg _ (by decide)]
      omega
    rw [e]; rfl
  walk_at "rh"
  refine rd_lenS (by rw [sizeLine_eq]; omega) ?_
  walk_at "rh"
  refine rd_newL (by simp) fun l1 H6 nl1 f6 el1 => ?_
  refine rd_rep el1 (by decide) (by decide) (by show 1 * 7 ≤ 1000; decide) fun EN H7 nEN f7 eEN => ?_
  walk_at "rs"
  with_reducible refine rd_seqc fun N hN => ?_
  have f57 := f6.trans f7
  have hat7 := hat5.mono f57
  have eL7 := f57.at eL5
  have fH7 := f5.trans f57.nil
  have rest : ∀ (EN : Addr) (es : List Int) (H8 : Hp), Fr [h, c] H H8 → HAt H8 h c n → H8 L = some (.lst letters) → H8 EN = some (.lst (es.map V.int)) → es.length = 7 → EN ≠ h → EN ≠ c →
      N [some (.ref h), some (.str "abcdefghijklmnopqrstuvwxyz"), some (.str wd), none, some (.int (tn : Int)), some (.ref L), some (.ref EN), none] H8 := fun EN es H8 f8 hat8 L8 E8 hes nE1 nE2 => by
    refine hN _ _ ?_
    walk_at "rh"
    walk_at "nx"
    intro r2 H9 r20 r21 f9 k9 hat9
    walk_at "rh"
    have L9 : H9 L = some (.lst letters) := f9.at2 L8 nLh nLc
    have E9 : H9 EN = some (.lst (es.map V.int)) := f9.at2 E8 nE1 nE2
    refine ite2 (fun hc => ?_) (fun hc => ?_)
    · walk_at "rh"
      refine rd_lcR fun D2 H10 fD2 f10 eD2 => ?_
      have ⟨nDh2, nDc2⟩ := hat9.new fD2
      have fD20 := (f8.trans f9).freeM fD2 (by simp [nDh2, nDc2])
      have nLD : L ≠ D2 := ne_of_none L9 fD2
      have nED : EN ≠ D2 := ne_of_none E9 fD2
      refine ⟨fun k acc H' => Fr [h, c] H H' ∧ HAt H' h c n ∧ H' L = some (.lst letters) ∧ H' EN = some (.lst (es.map V.int)) ∧ ∃ xs : List Str, acc = xs.map V.str ∧ xs.map hd1 = ((List.range k).map fun i => some (ltr tn i)) ∧ ∀ x ∈ xs, okC x,
        ⟨(f8.trans f9).trans f10.nil, hat9.mono f10, f10.at L9, f10.at E9, [], rfl, rfl, by simp⟩, fun k acc H' hk e' ⟨f', hat', hL6, hE6, xs, exs, hf, hx⟩ => ?_, fun acc H' e' ⟨f', hat', hL6, hE6, xs, exs, hf, hx⟩ => ?_⟩
      · walk_at "rh"
        refine ifT rfl ?_
        walk_at "rh"
        have e0 : (0 : Int) + ((k : Nat) : Int) = ((k : Nat) : Int) := by omega
        rw [e0]
        have aL : atI letters ((k : Nat) : Int) = some (V.str ⟨#[ltr tn k]⟩) := atI_nat (by rw [ea, List.getElem?_map, List.getElem?_range hk]; rfl)
        obtain ⟨ee, aE⟩ : ∃ ee, atI (es.map V.int) ((k : Nat) : Int) = some (V.int ee) := ⟨es[k]'(by omega), atI_nat (by rw [List.getElem?_map, List.getElem?_eq_getElem (by omega)]; rfl)⟩
        refine rd_ixH hL6 aL ?_
        walk_at "rh"
        refine rd_sl ?_
        walk_at "rh"
        refine rd_nopart ?_
        refine rd_part ?_
        walk_at "rh"
        refine rd_ixH hE6 aE ?_
        refine rd_parti ?_
        refine rd_slS (by omega) ?_
        have cl := cutS_len wd none (some ee)
        have ll : (⟨#[ltr tn k]⟩ : Str).length = 1 := rfl
        refine rd_plusS (by rw [sizeLine_eq]; omega) ?_
        have lxs : xs.length = k := by have := congrArg List.length hf; simpa using this
        refine rd_lcend e' (by rw [exs, List.length_map]; omega) fun H11 f11 k11 e11 => ?_
        refine ⟨f'.then1 f11 fD20, hat'.mono1 f11 nDh2 nDc2, f11.at1 hL6 nLD, f11.at1 hE6 nED, xs ++ [((⟨#[ltr tn k]⟩ : Str) ++ cutS wd none (some ee))], by rw [exs]; simp, by rw [List.map_append, hf, List.range_succ, List.map_append, List.map_singleton, hd1_app]; rfl, fun x hx2 => ?_⟩
        rcases List.mem_append.mp hx2 with hx2 | hx2
        · exact hx x hx2
        · rw [List.mem_singleton.mp hx2]; exact okC_mk (wdC_app (wdC_one ltr_lt) (wdC_cut hwk)) (by rw [app_len]; omega) (by rw [app_len]; omega)
      walk_at "rh"
      have lxs : xs.length = 7 := by have := congrArg List.length hf; simpa using this
      exact q D2 xs H' fD20 lxs (nodup_of htn hf) hx f' hat' (by rw [← exs]; exact e')
    · walk_at "rh"
      refine rd_lcR fun D2 H10 fD2 f10 eD2 => ?_
      have ⟨nDh2, nDc2⟩ := hat9.new fD2
      have fD20 := (f8.trans f9).freeM fD2 (by simp [nDh2, nDc2])
      have nLD : L ≠ D2 := ne_of_none L9 fD2
      have nED : EN ≠ D2 := ne_of_none E9 fD2
      refine ⟨fun k acc H' => Fr [h, c] H H' ∧ HAt H' h c n ∧ H' L = some (.lst letters) ∧ H' EN = some (.lst (es.map V.int)) ∧ ∃ xs : List Str, acc = xs.map V.str ∧ xs.map la1 = ((List.range k).map fun i => some (ltr tn i)) ∧ ∀ x ∈ xs, okC x,
        ⟨(f8.trans f9).trans f10.nil, hat9.mono f10, f10.at L9, f10.at E9, [], rfl, rfl, by simp⟩, fun k acc H' hk e' ⟨f', hat', hL6, hE6, xs, exs, hf, hx⟩ => ?_, fun acc H' e' ⟨f', hat', hL6, hE6, xs, exs, hf, hx⟩ => ?_⟩
      · walk_at "rh"
        refine ifT rfl ?_
        walk_at "rh"
        have e0 : (0 : Int) + ((k : Nat) : Int) = ((k : Nat) : Int) := by omega
        rw [e0]
        have aL : atI letters ((k : Nat) : Int) = some (V.str ⟨#[ltr tn k]⟩) := atI_nat (by rw [ea, List.getElem?_map, List.getElem?_range hk]; rfl)
        obtain ⟨ee, aE⟩ : ∃ ee, atI (es.map V.int) ((k : Nat) : Int) = some (V.int ee) := ⟨es[k]'(by omega), atI_nat (by rw [List.getElem?_map, List.getElem?_eq_getElem (by omega)]; rfl)⟩
        refine rd_sl ?_
        walk_at "rh"
        refine rd_nopart ?_
        refine rd_part ?_
        walk_at "rh"
        refine rd_ixH hE6 aE ?_
        refine rd_parti ?_
        refine rd_slS (by omega) ?_
        walk_at "rh"
        refine rd_ixH hL6 aL ?_
        have cl := cutS_len wd none (some ee)
        have ll : (⟨#[ltr tn k]⟩ : Str).length = 1 := rfl
        refine rd_plusS (by rw [sizeLine_eq]; omega) ?_
        have lxs : xs.length = k := by have := congrArg List.length hf; simpa using this
        refine rd_lcend e' (by rw [exs, List.length_map]; omega) fun H11 f11 k11 e11 => ?_
        refine ⟨f'.then1 f11 fD20, hat'.mono1 f11 nDh2 nDc2, f11.at1 hL6 nLD, f11.at1 hE6 nED, xs ++ [(cutS wd none (some ee) ++ (⟨#[ltr tn k]⟩ : Str))], by rw [exs]; simp, by rw [List.map_append, hf, List.range_succ, List.map_append, List.map_singleton, la1_app]; rfl, fun x hx2 => ?_⟩
        rcases List.mem_append.mp hx2 with hx2 | hx2
        · exact hx x hx2
        · rw [List.mem_singleton.mp hx2]; exact okC_mk (wdC_app (wdC_cut hwk) (wdC_one ltr_lt)) (by rw [app_len]; omega) (by rw [app_len]; omega)
      walk_at "rh"
      have lxs : xs.length = 7 := by have := congrArg List.length hf; simpa using this
      exact q D2 xs H' fD20 lxs (nodup_of htn hf) hx f' hat' (by rw [← exs]; exact e')
  have ⟨nEh, nEc⟩ := (hat5.mono f6).new nEN
  walk_at "rh"
  walk_at "nx"
  intro r2 H8 r20 r21 f8 k8 hat8
  walk_at "rh"
  have fH8 := fH7.trans f8
  have L8 : H8 L = some (.lst letters) := f8.at2 eL7 nLh nLc
  refine ite2 (fun hc => ?_) (fun hc => ?_)
  · walk_at "rh"
    have ll : letters.length = 7 := by rw [ea]; simp
    refine rd_lcL letters fun D2 H10 fD2 f10 eD2 => ?_
    have ⟨nDh2, nDc2⟩ := hat8.new fD2
    have fD20 := fH8.freeM fD2 (by simp [nDh2, nDc2])
    have nLD : L ≠ D2 := ne_of_none L8 fD2
    refine ⟨fun k acc H' => Fr [h, c] H H' ∧ HAt H' h c n ∧ H' L = some (.lst letters) ∧ ∃ es : List Int, acc = es.map V.int ∧ es.length = k,
      ⟨fH8.trans f10.nil, hat8.mono f10, f10.at L8, [], rfl, rfl⟩, fun k acc H' hk ⟨_, _, hL, _⟩ => SqL.of hL, fun k x acc H' hx e' ⟨f', hat', hL6, es, exs, hl⟩ => ?_, fun acc H' e' ⟨f', hat', hL6, es, exs, hl⟩ => ?_⟩
    · walk_at "rh"
      refine ifT rfl ?_
      walk_at "rh"
      refine rd_lenS (by rw [sizeLine_eq]; omega) ?_
      walk_at "rh"
      refine c_next hat' (by omega) fun r H11 r0 r1 f11 k11 hat11 => ?_
      have lk : k < letters.length := (List.getElem?_eq_some_iff.mp hx).1
      refine rd_lcend (f11.at2 e' nDh2 nDc2) (by rw [exs, List.length_map]; omega) fun H12 f12 k12 e12 => ?_
      refine ⟨(f'.trans f11).then1 f12 fD20, hat11.mono1 f12 nDh2 nDc2, f12.at1 (f11.at2 hL6 nLh nLc) nLD, es ++ [r], by rw [exs]; simp, by simp [hl]⟩
    walk_at "rh"
    exact rest D2 es H' f' hat' hL6 (by rw [← exs]; exact e') (by omega) nDh2 nDc2
  · walk_at "rh"
    exact rest EN (List.replicate 7 (wd.length : Int)) H8 fH8 hat8 L8 (f8.at2 eEN nEh nEc) (by simp) nEh nEc
end
end Lf
namespace Lf
open PySem PySem.Spec PyProof.Rows L2
/-! ### expressions and statements that are let by (G, last, W: as in k30's drawing, not used) -/
def smE : Ex → Prop
  | .num n => 0 ≤ n ∧ n ≤ 999
  | .name x => okC x
  | .add a b => smE a ∧ smE b
  | .mul a b => smE a ∧ smE b
def GoodSet (_ : Str → Prop) (_ : Str) (x : Str) (_ : Ex) : Prop := okC x
mutual
def gdS (G : Str → Prop) (last : Str) (W : Nat) : Sm → Prop
  | .say e => depE e < 4 ∧ smE e
  | .set x e => depE e < 4 ∧ smE e ∧ GoodSet G last x e
  | .lap g m r => depE m < 4 ∧ smE m ∧ okC g ∧ gdL G last W r
def gdL (G : Str → Prop) (last : Str) (W : Nat) : List Sm → Prop
  | [] => True
  | s :: r => gdS G last W s ∧ gdL G last W r
end
section
variable {G : Str → Prop} {last x g : Str}
theorem good_num {v : Int} (hl : okC x) (_ : v.natAbs ≤ 8) : GoodSet G last x (.num v) := hl
theorem good_next {v : Int} (hl : okC x) (_ : okC g) (_ : v.natAbs ≤ 4) : GoodSet G last x (.add (.name g) (.num v)) := hl
theorem good_odd (hl : okC x) (_ : okC x) : GoodSet G last x (.add (.name last) (.name x)) := hl
theorem good_last (hl : okC last) : GoodSet G last last (.num 0) := hl
def PaB (_ : Str → Prop) (_ : Str) (_ : Nat) (_ : Ex) : Prop := True
theorem pa_name : PaB G last 1 (.name x) := trivial
theorem pa_num {v : Int} (_ : v.natAbs < 2 ^ 40) : PaB G last 1 (.num v) := trivial
theorem pa_gg {g1 g2 : Str} (_ : G g1) (_ : G g2) : PaB G last 1 (.mul (.name g1) (.name g2)) := trivial
theorem pa_times {v : Int} (_ : 0 ≤ v ∧ v ≤ 3) : PaB G last 3 (.mul (.num v) (.name x)) := trivial
theorem pa_add {c d : Nat} {e1 e2 : Ex} (_ : PaB G last c e1) (_ : PaB G last d e2) : PaB G last (c + d) (.add e1 e2) := trivial
theorem PaB.good {c : Nat} {e : Ex} (hx : okC x) (_ : okC x) (_ : PaB G last c e) (_ : c ≤ 8) : GoodSet G last x e := hx
end
end Lf
namespace Lf
open PySem PySem.Spec PyProof.Rows L2
/-! ### expressions, drawn -/
theorem rd_ifc {σ : L2.St} {H : Hp} {D : Ends} {tt : TT} {t u : TS} (h : ∀ N : Bool → Hp → Prop, (∀ H1, t D σ H1 → N true H1) → (∀ H1, u D σ H1 → N false H1) → tt σ H N) : tIfS tt t u D σ H :=
  h (fun b H1 => if b = true then t D σ H1 else u D σ H1) (fun H1 q => by rw [if_pos rfl]; exact q) (fun H1 q => by rw [if_neg (by decide)]; exact q)
theorem dp_strs {K : PySem.W.Frag} {H : Hp} : ∀ (ns : List Str), DpAll K H (ns.map V.str) (ns.map PyData.str)
  | [] => .nil
  | _ :: r => .cons (.str _) (dp_strs r)
theorem canLay_strs : ∀ (ns : List Str), (∀ x ∈ ns, okC x) → PyData.canLayAll0 (ns.map PyData.str) = true
  | [], _ => rfl
  | x :: r, h => by
    have h1 : PyData.strOk x = true := (h x (by simp)).1
    simp [PyData.canLayAll0, PyData.canLay0, canLay_strs r fun y hy => h y (List.mem_cons_of_mem _ hy), h1]
theorem depth_strs : ∀ (ns : List Str), PyData.depthAll (ns.map PyData.str) = 0
  | [] => rfl
  | _ :: r => by simp [PyData.depthAll, PyData.depth, depth_strs r]
theorem shaped_strs {ns : List Str} (h : ∀ x ∈ ns, okC x) : SeqAt.shaped (.list (ns.map PyData.str)) = true := by
  simp [SeqAt.shaped, PyData.canLay0, canLay_strs ns h, PyData.depth, depth_strs]
theorem eqv_nilS (ns : List Str) : PyData.eqv (.list (ns.map PyData.str)) (.list []) = decide (ns = []) := by
  cases ns <;> simp [PyData.eqv, PyData.eqvAll]
theorem rd_neNilS {K : PySem.W.Frag} {H : Hp} {Q : VK} {a p : Addr} {ns : List Str} (hk : ∀ x ∈ ns, okC x) (h : SqL K H a (ns.map V.str)) (h2 : SqL K H p []) (q : Q (.bl (!decide (ns = []))) H) : rNeA K (.ref a) (.ref p) H Q :=
  rd_neD (.lst h (dp_strs ns)) (.lst h2 .nil) (shaped_strs hk) (shaped_strs (ns := []) (by simp)) (by rw [eqv_nilS]; exact q)
theorem rd_eqNilS {K : PySem.W.Frag} {H : Hp} {Q : VK} {a p : Addr} {ns : List Str} (hk : ∀ x ∈ ns, okC x) (h : SqL K H a (ns.map V.str)) (h2 : SqL K H p []) (q : Q (.bl (decide (ns = []))) H) : rEqA K (.ref a) (.ref p) H Q :=
  rd_eqD (.lst h (dp_strs ns)) (.lst h2 .nil) (shaped_strs hk) (shaped_strs (ns := []) (by simp)) (by rw [eqv_nilS]; exact q)
theorem atI_strs {ns : List Str} {i : Int} (h0 : 0 ≤ i) (h : i < (ns.length : Int)) : ∃ y, y ∈ ns ∧ atI (ns.map V.str) i = some (.str y) := by
  have hk : i.toNat < ns.length := by omega
  refine ⟨ns[i.toNat], List.getElem_mem hk, ?_⟩
  have e : i = ((i.toNat : Nat) : Int) := by omega
  have q : atI (ns.map V.str) ((i.toNat : Nat) : Int) = some (.str ns[i.toNat]) := atI_nat (by rw [List.getElem?_map, List.getElem?_eq_getElem hk]; rfl)
  rw [← e] at q
  exact q
theorem pick2 {x y : V} {k : Bool} : atI [x, y] (if k = true then 1 else 0) = some (if k = true then y else x) := by cases k <;> rfl
theorem len_ns (ns : List Str) : ((ns.map V.str).length : Int) = (ns.length : Int) := by rw [List.length_map]
theorem Rp2 {K : PySem.W.Frag} {H : Hp} {t : Addr} {w : Str} {x : D} {v : V} (e : H t = some (.tup [.str w, v])) (h : Rp K H x v) : Rp K H (.tup [.str w, x]) (.ref t) := ⟨t, _, rfl, SqT.of e, _, _, rfl, rfl, _, _, rfl, h, rfl⟩
theorem Rp3 {K : PySem.W.Frag} {H : Hp} {t : Addr} {w : Str} {x y : D} {v u : V} (e : H t = some (.tup [.str w, v, u])) (h : Rp K H x v) (g : Rp K H y u) : Rp K H (.tup [.str w, x, y]) (.ref t) := ⟨t, _, rfl, SqT.of e, _, _, rfl, rfl, _, _, rfl, h, _, _, rfl, g, rfl⟩
theorem Rp4 {K : PySem.W.Frag} {H : Hp} {t : Addr} {w : Str} {x y z : D} {v u o : V} (e : H t = some (.tup [.str w, v, u, o])) (h : Rp K H x v) (g : Rp K H y u) (k : Rp K H z o) : Rp K H (.tup [.str w, x, y, z]) (.ref t) :=
  ⟨t, _, rfl, SqT.of e, _, _, rfl, rfl, _, _, rfl, h, _, _, rfl, g, _, _, rfl, k, rfl⟩
def spPart (K : PySem.W.Frag) (n m : Nat) : Sp := fun vs H Q _ => ∃ (h c l : Addr) (ns : List Str) (dd : Nat), vs = [.ref h, .ref l, .int ((dd : Nat) : Int)] ∧ dd < m ∧ dd ≤ 2 ∧ HAt H h c n ∧ H l = some (.lst (ns.map V.str)) ∧ l ≠ h ∧ l ≠ c ∧ ns.length ≤ 100 ∧ (∀ x ∈ ns, okC x) ∧
  ∀ v e H2, Fr [h, c] H H2 → HAt H2 h c n → depE e ≤ dd → smE e → Rp K H2 (encE e) v → Q v H2
section
variable {P : Program} {w : World} {K : PySem.W.Frag} {mg : Str → Option Value} {base : Heap}
abbrev s__law_part : Stmt := top 73
abbrev N__law_part : List Str := ["_law_h", "_law_some", "_law_deep", "_law_way", "_law_word", "_law_one"]
theorem sc__law_part : FnScope N__law_part ["_law_h", "_law_some", "_law_deep"] (defScope s__law_part) := ⟨rfl, rfl, rfl, by decide +kernel, rfl, by decide +kernel, by decide +kernel⟩
theorem ok_part1 (T : Blt mg) (n m : Nat) (F : Here K mg "_law_part" s__law_part ["_law_h", "_law_some", "_law_deep"]) (D__law_next : DefOk P w K mg base CX0 "_law_next" ["_law_h", "_law_many"] 1 (spNext n))
    (D__law_part : DefOk P w K mg base CX0 "_law_part" ["_law_h", "_law_some", "_law_deep"] (m + 1) (spPart K n m)) : DefOk P w K mg base CX0 "_law_part" ["_law_h", "_law_some", "_law_deep"] (m + 2) (spPart K n (m + 1)) := by
  refine F.ok sc__law_part (fun vs H Q E h => ?_) (fun f cdv A outer s H vs Q E hr h => ?_)
  · obtain ⟨_, _, _, _, _, rfl, _⟩ := h; rfl
  obtain ⟨h, c, l, ns, dd, rfl, hm, hd2, hat, hl, nlh, nlc, hns, hok, q⟩ := h
  have hu64 := hr.units
  have hr__law_next := hr.mono (j := 1) (by omega)
  have hr__law_part := hr.mono (j := m + 1) (by omega)
  refine ⟨_, (pss_cons (ps_set (i := 3) sc__law_part.nd rfl (Or.inl rfl) (pe_callD D__law_next hr__law_next pass0 (pa_cons (pv 0) (pa_cons pe_int pa_nil))))
    (pss_cons (ps_if (PW.pt (pw_or (pt_cmpR (op_eqA hu64) (pv 2) pe_int (nomark _)) (pw_or (pt_cmpR op_lt (pv 3) pe_int (nomark _)) (pw_or1 (pt_cmpR (op_eqA hu64) (pv 1) (pe_lst pa_nil) (nomark _))))))
    (pss_cons (ps_if (PW.pt (pw_or (pt_cmpR (op_eqA hu64) (pv 1) (pe_lst pa_nil) (nomark _)) (pw_or1 (pt_cmpR (op_eqA hu64) (pe_callD D__law_next hr__law_next pass0 (pa_cons (pv 0) (pa_cons pe_int pa_nil))) pe_int (nomark _)))))
    (pss_one (ps_ret (pe_tup (pa_cons pe_str (pa_cons (pe_ix ix_seq (pe_lst (pa_cons (pe_callD D__law_next hr__law_next pass0 (pa_cons (pv 0) (pa_cons pe_int pa_nil))) (pa_cons (pe_callD D__law_next hr__law_next pass0 (pa_cons (pv 0) (pa_cons pe_int pa_nil))) pa_nil))) (pe_callTy call_intA (by rfl) T.n_int (by decide +kernel) (pa_cons (pe_cmpR (op_eqA hu64) (pe_callD D__law_next hr__law_next pass0 (pa_cons (pv 0) (pa_cons pe_int pa_nil))) pe_int (nomark _)) pa_nil)) (fun _ _ => rfl)) pa_nil)))))
    pss_nil)
    (pss_one (ps_ret (pe_tup (pa_cons pe_str (pa_cons (pe_ix ix_seq (pv 1) (pe_callD D__law_next hr__law_next pass0 (pa_cons (pv 0) (pa_cons (pe_callB call_lenA (by rfl) T.n_len PySem.boot_len (pa_cons (pv 1) pa_nil)) pa_nil))) (fun _ _ => rfl)) pa_nil))))))
    pss_nil)
    (pss_cons (ps_set (i := 4) sc__law_part.nd rfl (Or.inl rfl) (pe_ifExp (pt_cmpR op_lt (pv 3) pe_int (nomark _)) pe_str pe_str))
    (pss_cons (ps_set (i := 5) sc__law_part.nd rfl (Or.inl rfl) (pe_callD D__law_part hr__law_part pass0 (pa_cons (pv 0) (pa_cons (pv 1) (pa_cons (pe_op op_sub (pv 2) pe_int) pa_nil)))))
    (pss_one (ps_ret (pe_tup (pa_cons (pv 4) (pa_cons (pv 5) (pa_cons (pe_callD D__law_part hr__law_part pass0 (pa_cons (pv 0) (pa_cons (pv 1) (pa_cons (pe_op op_sub (pv 2) pe_int) pa_nil)))) pa_nil)))))))))), ?_⟩
  walk_at "rs"
  with_reducible refine rd_seq ?_
  walk_at "rs"
  walk_at "nx"
  intro way H1 w0 w1 f1 k1 hat1
  walk_at "rs"
  with_reducible refine rd_seq ?_
  refine rd_ifc fun N hT hU => ?_
  have leaf : ∀ H2, Fr [h, c] H H2 → HAt H2 h c n → N true H2 := fun H2 f2 hat2 => by
    refine hT _ ?_
    with_reducible refine rd_seq ?_
    refine rd_ifc fun N2 hT2 hU2 => ?_
    have num : ∀ H3, Fr [h, c] H H3 → HAt H3 h c n → N2 true H3 := fun H3 f3 hat3 => by
      refine hT2 _ ?_
      walk_at "rh"
      walk_at "nx"
      intro a H4 a0 a1 f4 k4 hat4
      walk_at "rh"
      walk_at "nx"
      intro b H5 b0 b1 f5 k5 hat5
      walk_at "rh"
      refine rd_newL (by simp) fun p H6 np f6 ep => ?_
      have ⟨nph, npc⟩ := hat5.new np
      have hat6 := hat5.mono f6
      walk_at "rh"
      walk_at "nx"
      intro g H7 g0 g1 f7 k7 hat7
      walk_at "rh"
      refine rd_ixH (f7.at2 ep nph npc) pick2 ?_
      walk_at "rh"
      refine rd_newT (by simp) fun t H8 nt f8 et => ?_
      walk_at "rh"
      have FF := (((f3.trans f4).trans f5).trans f6.nil).trans f7
      have e2 : (if decide (V.int g = V.int 0) = true then V.int b else V.int a) = V.int (if decide (V.int g = V.int 0) = true then b else a) := by split <;> rfl
      rw [e2] at et
      exact q _ (.num _) H8 (FF.trans f8.nil) (hat7.mono f8) (Nat.zero_le _) (by show 0 ≤ (if _ then _ else _ : Int) ∧ (if _ then _ else _ : Int) ≤ 999; split <;> omega) (Rp2 et rfl)
    walk_at "rs"
    refine rd_newL (by simp) fun p H3 np f3 ep => ?_
    have hat3 := hat2.mono f3
    refine rd_eqNilS hok (SqL.of (f3.at (f2.at2 hl nlh nlc))) (SqL.of ep) ?_
    walk_at "rs"
    refine ite2 (fun hc => num H3 (f2.trans f3.nil) hat3) (fun hc => ?_)
    have hne : ns ≠ [] := by simpa using hc
    have hpos : 0 < ns.length := List.length_pos_iff.mpr hne
    walk_at "rs"
    walk_at "nx"
    intro g H4 g0 g1 f4 k4 hat4
    walk_at "rs"
    have f24 := (f2.trans f3.nil).trans f4
    cases hdec : decide (V.int g = V.int 0) with
    | true => exact num H4 f24 hat4
    | false =>
      refine hU2 _ ?_
      walk_at "rs"
      dsimp only
      walk_at "rh"
      have l4 := f24.at2 hl nlh nlc
      rw [len_ns]
      refine c_next hat4 (by omega) fun r H5 r0 r1 f5 k5 hat5 => ?_
      obtain ⟨y, hy, ay⟩ := atI_strs r0 r1
      refine rd_ixH (f5.at2 l4 nlh nlc) ay ?_
      walk_at "rh"
      refine rd_newT (by simp) fun t H6 nt f6 et => ?_
      walk_at "rh"
      exact q _ (.name y) H6 ((f24.trans f5).trans f6.nil) (hat5.mono f6) (Nat.zero_le _) (hok y hy) (Rp2 et rfl)
  walk_at "rs"
  have e0 : decide (V.int ((dd : Nat) : Int) = V.int 0) = decide (dd = 0) := by
    refine decide_eq_decide.mpr ⟨fun z => ?_, fun z => by rw [z]; rfl⟩
    have := V.int.inj z; omega
  rw [e0]
  refine ite2 (fun hc => leaf H1 f1 hat1) (fun hc => ?_)
  have hd0 : dd ≠ 0 := by simpa using hc
  walk_at "rs"
  refine ite2 (fun hc => leaf H1 f1 hat1) (fun hc => ?_)
  walk_at "rs"
  refine rd_newL (by simp) fun p H3 np f3 ep => ?_
  have hat3 := hat1.mono f3
  have f13 := f1.trans f3.nil
  refine rd_eqNilS hok (SqL.of (f3.at (f1.at2 hl nlh nlc))) (SqL.of ep) ?_
  walk_at "rs"
  cases hdec : decide (ns = []) with
  | true => exact leaf H3 f13 hat3
  | false =>
    refine hU _ ?_
    dsimp only
    walk_at "rh"
    have l3 := f13.at2 hl nlh nlc
    obtain ⟨d1, rfl⟩ : ∃ d1, dd = d1 + 1 := ⟨dd - 1, by omega⟩
    have ed : (((d1 + 1 : Nat) : Int) - 1) = ((d1 : Nat) : Int) := by omega
    refine ite2 (fun _ => ?_) (fun _ => ?_)
    · walk_at "rh"
      refine ⟨h, c, l, ns, d1, by rw [ed]; rfl, by omega, by omega, hat3, l3, nlh, nlc, hns, hok, fun v1 e1 H4 f4 hat4 de1 se1 r1 => ?_⟩
      walk_at "rh"
      have f34 := f13.trans f4
      refine ⟨h, c, l, ns, d1, by rw [ed]; rfl, by omega, by omega, hat4, f34.at2 hl nlh nlc, nlh, nlc, hns, hok, fun v2 e2 H5 f5 hat5 de2 se2 r2 => ?_⟩
      walk_at "rh"
      refine rd_newT (by simp) fun t H6 nt f6 et => ?_
      walk_at "rh"
      have r1' := (r1.mono (hat4.kp f5)).mono f6.kp0
      exact q _ (.add e1 e2) H6 ((f34.trans f5).trans f6.nil) (hat5.mono f6) (by simp only [depE]; omega) ⟨se1, se2⟩ (Rp3 et r1' (r2.mono f6.kp0))
    · walk_at "rh"
      refine ⟨h, c, l, ns, d1, by rw [ed]; rfl, by omega, by omega, hat3, l3, nlh, nlc, hns, hok, fun v1 e1 H4 f4 hat4 de1 se1 r1 => ?_⟩
      walk_at "rh"
      have f34 := f13.trans f4
      refine ⟨h, c, l, ns, d1, by rw [ed]; rfl, by omega, by omega, hat4, f34.at2 hl nlh nlc, nlh, nlc, hns, hok, fun v2 e2 H5 f5 hat5 de2 se2 r2 => ?_⟩
      walk_at "rh"
      refine rd_newT (by simp) fun t H6 nt f6 et => ?_
      walk_at "rh"
      have r1' := (r1.mono (hat4.kp f5)).mono f6.kp0
      exact q _ (.mul e1 e2) H6 ((f34.trans f5).trans f6.nil) (hat5.mono f6) (by simp only [depE]; omega) ⟨se1, se2⟩ (Rp3 et r1' (r2.mono f6.kp0))
theorem ok_part (T : Blt mg) (n : Nat) (F : Here K mg "_law_part" s__law_part ["_law_h", "_law_some", "_law_deep"]) (D__law_next : DefOk P w K mg base CX0 "_law_next" ["_law_h", "_law_many"] 1 (spNext n)) : ∀ m, DefOk P w K mg base CX0 "_law_part" ["_law_h", "_law_some", "_law_deep"] (m + 1) (spPart K n m)
  | 0 => (none_sp F fun vs H Q E h => by obtain ⟨_, _, _, _, _, _, h, _⟩ := h; omega).mono (by omega)
  | m + 1 => ok_part1 T n m F D__law_next (ok_part T n F D__law_next m)
end
end Lf
namespace Lf
open PySem PySem.Spec PyProof.Rows L2
/-! ### measures, and what names grow by -/
theorem ite2f {c : Prop} [Decidable c] {A B : Prop} (h2 : B) (h1 : A) : if c then A else B := by split <;> assumption
theorem PaB.le {G : Str → Prop} {last : Str} {c d : Nat} {e : Ex} (_ : PaB G last c e) (_ : c ≤ d) : PaB G last d e := trivial
def spMeas (K : PySem.W.Frag) (n : Nat) : Sp := fun vs H Q _ => ∃ (h c l : Addr) (g : Str) (ns : List Str), vs = [.ref h, .str g, .ref l] ∧ HAt H h c n ∧ H l = some (.lst (ns.map V.str)) ∧ l ≠ h ∧ l ≠ c ∧ ns.length ≤ 100 ∧ okC g ∧ (∀ x ∈ ns, okC x) ∧
  ∀ v e H2, Fr [h, c] H H2 → HAt H2 h c n → depE e ≤ 2 → smE e → Rp K H2 (encE e) v → Q v H2
def spGrow (K : PySem.W.Frag) (n : Nat) : Sp := fun vs H Q _ => ∃ (G : Str → Prop) (last : Str) (h c l k : Addr) (ns ms : List Str), vs = [.ref h, .ref l, .ref k] ∧ HAt H h c n ∧ H l = some (.lst (ns.map V.str)) ∧ l ≠ h ∧ l ≠ c ∧ ns.length ≤ 100 ∧ (∀ x ∈ ns, okC x ∧ G x) ∧
  H k = some (.lst (ms.map V.str)) ∧ k ≠ h ∧ k ≠ c ∧ ms.length ≤ 100 ∧ (∀ x ∈ ms, okC x) ∧
  ∀ v e H2, Fr [h, c] H H2 → HAt H2 h c n → depE e ≤ 2 → smE e → PaB G last 4 e → Rp K H2 (encE e) v → Q v H2
section
variable {P : Program} {w : World} {K : PySem.W.Frag} {mg : Str → Option Value} {base : Heap}
abbrev s__law_measure : Stmt := top 74
abbrev N__law_measure : List Str := ["_law_h", "_law_guard", "_law_calm", "_law_name", "_law_some", "_law_found"]
theorem sc__law_measure : FnScope N__law_measure ["_law_h", "_law_guard", "_law_calm"] (defScope s__law_measure) := ⟨rfl, rfl, rfl, by decide +kernel, rfl, by decide +kernel, by decide +kernel⟩
theorem ok_meas (T : Blt mg) (n : Nat) (F : Here K mg "_law_measure" s__law_measure ["_law_h", "_law_guard", "_law_calm"]) (D__law_next : DefOk P w K mg base CX0 "_law_next" ["_law_h", "_law_many"] 1 (spNext n)) :
    DefOk P w K mg base CX0 "_law_measure" ["_law_h", "_law_guard", "_law_calm"] 2 (spMeas K n) := by
  refine F.ok sc__law_measure (fun vs H Q E h => ?_) (fun f cdv A outer s H vs Q E hr h => ?_)
  · obtain ⟨_, _, _, _, _, rfl, _⟩ := h; rfl
  obtain ⟨h, c, l, g, ns, rfl, hat, hl, nlh, nlc, hns, hgk, hok, q⟩ := h
  have hu64 := hr.units
  have hr__law_next := hr.mono (j := 1) (by omega)
  refine ⟨_, (pss_cons (ps_set (i := 3) sc__law_measure.nd rfl (Or.inl rfl) (pe_tup (pa_cons pe_str (pa_cons (pv 1) pa_nil))))
    (pss_cons (ps_set (i := 4) sc__law_measure.nd rfl (Or.inl rfl) (pe_lst (pa_cons (pv 3) (pa_cons (pe_tup (pa_cons pe_str (pa_cons (pv 3) (pa_cons (pe_tup (pa_cons pe_str (pa_cons (pe_callD D__law_next hr__law_next pass0 (pa_cons (pv 0) (pa_cons pe_int pa_nil))) pa_nil))) pa_nil)))) (pa_cons (pe_tup (pa_cons pe_str (pa_cons (pe_tup (pa_cons pe_str (pa_cons (pe_op op_plus pe_int (pe_callD D__law_next hr__law_next pass0 (pa_cons (pv 0) (pa_cons pe_int pa_nil)))) pa_nil))) (pa_cons (pv 3) pa_nil)))) pa_nil)))))
    (pss_cons (ps_set (i := 5) sc__law_measure.nd rfl (Or.inl rfl) (pe_ix ix_seq (pe_op op_plus (pv 4) (pe_lst (pa_cons (pe_tup (pa_cons pe_str (pa_cons (pv 3) (pa_cons (pv 3) pa_nil)))) pa_nil))) (pe_callD D__law_next hr__law_next pass0 (pa_cons (pv 0) (pa_cons pe_int pa_nil))) (fun _ _ => rfl)))
    (pss_cons (ps_if (PW.pt (pw_and (pt_cmpR (op_neA hu64) (pv 2) (pe_lst pa_nil) (nomark _)) (pw_and1 (pt_cmpR (op_eqA hu64) (pe_callD D__law_next hr__law_next pass0 (pa_cons (pv 0) (pa_cons pe_int pa_nil))) pe_int (nomark _)))))
    (pss_one (ps_set (i := 5) sc__law_measure.nd rfl (Or.inl rfl) (pe_tup (pa_cons pe_str (pa_cons (pv 5) (pa_cons (pe_tup (pa_cons pe_str (pa_cons (pe_ix ix_seq (pv 2) (pe_callD D__law_next hr__law_next pass0 (pa_cons (pv 0) (pa_cons (pe_callB call_lenA (by rfl) T.n_len PySem.boot_len (pa_cons (pv 2) pa_nil)) pa_nil))) (fun _ _ => rfl)) pa_nil))) pa_nil))))))
    pss_nil)
    (pss_one (ps_ret (pv 5))))))), ?_⟩
  walk_at "rh"
  refine rd_newT (by simp) fun t0 H1 nt0 f1 et0 => ?_
  have r0 : Rp K H1 (encE (.name g)) (.ref t0) := Rp2 et0 rfl
  walk_at "rh"
  walk_at "nx"
  intro a H2 a0 a1 f2 k2 hat2
  walk_at "rh"
  refine rd_newT (by simp) fun t1 H3 nt1 f3 et1 => ?_
  walk_at "rh"
  refine rd_newT (by simp) fun t2 H4 nt2 f4 et2 => ?_
  walk_at "rh"
  have k14 : Kp H1 H4 := by walk_at "kp"
  have r2 : Rp K H4 (encE (.add (.name g) (.num a))) (.ref t2) := Rp3 et2 (r0.mono k14) ((show Rp K H3 (encE (.num a)) (.ref t1) from Rp2 et1 rfl).mono f4.kp0)
  walk_at "nx"
  intro b H5 b0 b1 f5 k5 hat5
  walk_at "rh"
  refine rd_newT (by simp) fun t3 H6 nt3 f6 et3 => ?_
  walk_at "rh"
  refine rd_newT (by simp) fun t4 H7 nt4 f7 et4 => ?_
  walk_at "rh"
  have k17 : Kp H1 H7 := by walk_at "kp"
  have r4 : Rp K H7 (encE (.mul (.num (1 + b)) (.name g))) (.ref t4) := Rp3 et4 ((show Rp K H6 (encE (.num (1 + b))) (.ref t3) from Rp2 et3 rfl).mono f7.kp0) (r0.mono k17)
  refine rd_newL (by simp) fun p8 H8 np8 f8 ep8 => ?_
  walk_at "rh"
  refine rd_newT (by simp) fun t5 H9 nt5 f9 et5 => ?_
  have k19 : Kp H1 H9 := by walk_at "kp"
  have r5 : Rp K H9 (encE (.mul (.name g) (.name g))) (.ref t5) := Rp3 et5 (r0.mono k19) (r0.mono k19)
  walk_at "rh"
  refine rd_newL (by simp) fun p10 H10 np10 f10 ep10 => ?_
  refine rd_plusL (f10.at (f9.at ep8)) ep10 (by rw [sizeLine_eq]; simp) fun p11 H11 np11 f11 ep11 => ?_
  have hat11 := (((hat5.mono f6).mono f7).mono f8).mono f9 |>.mono f10 |>.mono f11
  have ⟨n11h, n11c⟩ := (((hat5.mono f6).mono f7).mono f8).mono f9 |>.mono f10 |>.new np11
  walk_at "rh"
  refine c_next hat11 (by omega) fun j H12 j0 j1 f12 k12 hat12 => ?_
  obtain ⟨u, hu, au⟩ := atI_in (vs := [V.ref t0, .ref t2, .ref t4] ++ [.ref t5]) j0 (by simpa using j1)
  refine rd_ixH (f12.at2 ep11 n11h n11c) au ?_
  have k9 : Kp H9 H12 := (f10.kp0.trans f11.kp0).trans k12
  have k7 : Kp H7 H12 := (f8.kp0.trans f9.kp0).trans k9
  have k4 : Kp H4 H12 := ((k5.trans f6.kp0).trans f7.kp0).trans k7
  have k1 : Kp H1 H12 := k14.trans k4
  have hu2 : ∃ e, depE e ≤ 1 ∧ smE e ∧ Rp K H12 (encE e) u := by
    simp only [List.cons_append, List.nil_append, List.mem_cons, List.not_mem_nil, or_false] at hu
    rcases hu with rfl | rfl | rfl | rfl
    · exact ⟨.name g, Nat.zero_le _, hgk, r0.mono k1⟩
    · exact ⟨.add (.name g) (.num a), by simp [depE], ⟨hgk, by show 0 ≤ a ∧ a ≤ 999; omega⟩, r2.mono k4⟩
    · exact ⟨.mul (.num (1 + b)) (.name g), by simp [depE], ⟨by show 0 ≤ (1 + b) ∧ (1 + b) ≤ 999; omega, hgk⟩, r4.mono k7⟩
    · exact ⟨.mul (.name g) (.name g), by simp [depE], ⟨hgk, hgk⟩, r5.mono k9⟩
  obtain ⟨e, de, se, re⟩ := hu2
  have FF : Fr [h, c] H H12 := (((((((((f1.nil.trans f2).trans f3.nil).trans f4.nil).trans f5).trans f6.nil).trans f7.nil).trans f8.nil).trans f9.nil).trans f10.nil |>.trans f11.nil |>.trans f12)
  walk_at "rs"
  with_reducible refine rd_seqc fun N hN => ?_
  have done : ∀ o x H13, Fr [h, c] H H13 → HAt H13 h c n → (∃ e, depE e ≤ 2 ∧ smE e ∧ Rp K H13 (encE e) x) → N [some (.ref h), some (.str g), some (.ref l), some (.ref t0), o, some x] H13 := fun o x H13 f13 hat13 ⟨e, de, se, re⟩ => by
    refine hN _ _ ?_
    walk_at "rh"
    exact q _ e H13 f13 hat13 de se re
  refine rd_ifc fun N2 hT hU => ?_
  walk_at "rh"
  refine rd_newL (by simp) fun p13 H13 np13 f13 ep13 => ?_
  have l13 := f13.at (FF.at2 hl nlh nlc)
  refine rd_neNilS hok (SqL.of l13) (SqL.of ep13) ?_
  walk_at "rh"
  have hat13 := hat12.mono f13
  have no : ∀ H14, Fr [h, c] H12 H14 → HAt H14 h c n → N2 false H14 := fun H14 f14 hat14 => by
    refine hU _ ?_
    walk_at "rh"
    exact done _ _ H14 (FF.trans f14) hat14 ⟨e, by omega, se, re.mono (hat12.kp f14)⟩
  refine ite2 (fun hc => ?_) (fun hc => no H13 f13.nil hat13)
  have hne : ns ≠ [] := by simpa using hc
  have hpos : 0 < ns.length := List.length_pos_iff.mpr hne
  walk_at "rh"
  refine c_next hat13 (by omega) fun z H14 z0 z1 f14 k14 hat14 => ?_
  walk_at "rh"
  cases hdec : decide (V.int z = V.int 0) with
  | false => exact no H14 (f13.nil.trans f14) hat14
  | true =>
    refine hT _ ?_
    walk_at "rh"
    dsimp only
    have F14 := (FF.trans f13.nil).trans f14
    have l14 := F14.at2 hl nlh nlc
    try rw [len_ns]
    refine c_next hat14 (by omega) fun r H15 r0 r1 f15 k15 hat15 => ?_
    obtain ⟨y, hy, ay⟩ := atI_strs r0 r1
    refine rd_ixH (f15.at2 l14 nlh nlc) ay ?_
    walk_at "rh"
    refine rd_newT (by simp) fun t16 H16 nt16 f16 et16 => ?_
    walk_at "rh"
    refine rd_newT (by simp) fun t17 H17 nt17 f17 et17 => ?_
    walk_at "rh"
    have kk : Kp H12 H17 := (((f13.kp0.trans k14).trans k15).trans f16.kp0).trans f17.kp0
    exact done _ _ H17 (((F14.trans f15).trans f16.nil).trans f17.nil) ((hat15.mono f16).mono f17) ⟨.add e (.name y), by simp only [depE]; omega, ⟨se, hok y hy⟩, Rp3 et17 (re.mono kk) ((show Rp K H16 (encE (.name y)) (.ref t16) from Rp2 et16 rfl).mono f17.kp0)⟩
abbrev s__law_grow : Stmt := top 76
abbrev N__law_grow : List Str := ["_law_h", "_law_low", "_law_some", "_law_one", "_law_other"]
theorem sc__law_grow : FnScope N__law_grow ["_law_h", "_law_low", "_law_some"] (defScope s__law_grow) := ⟨rfl, rfl, rfl, by decide +kernel, rfl, by decide +kernel, by decide +kernel⟩
theorem ok_grow (T : Blt mg) (n : Nat) (F : Here K mg "_law_grow" s__law_grow ["_law_h", "_law_low", "_law_some"]) (D__law_next : DefOk P w K mg base CX0 "_law_next" ["_law_h", "_law_many"] 1 (spNext n)) :
    DefOk P w K mg base CX0 "_law_grow" ["_law_h", "_law_low", "_law_some"] 2 (spGrow K n) := by
  refine F.ok sc__law_grow (fun vs H Q E h => ?_) (fun f cdv A outer s H vs Q E hr h => ?_)
  · obtain ⟨_, _, _, _, _, _, _, _, rfl, _⟩ := h; rfl
  obtain ⟨G, last, h, c, l, m, ns, ms, rfl, hat, hl, nlh, nlc, hns, hok, hm, nmh, nmc, hms, hokm, q⟩ := h
  have hu64 := hr.units
  have hr__law_next := hr.mono (j := 1) (by omega)
  refine ⟨_, (pss_cons (ps_set (i := 3) sc__law_grow.nd rfl (Or.inl rfl) (pe_tup (pa_cons pe_str (pa_cons (pe_callD D__law_next hr__law_next pass0 (pa_cons (pv 0) (pa_cons pe_int pa_nil))) pa_nil))))
    (pss_cons (ps_if (PW.pt (pw_and (pt_cmpR (op_neA hu64) (pv 1) (pe_lst pa_nil) (nomark _)) (pw_and1 (pt_cmpR op_gt (pe_callD D__law_next hr__law_next pass0 (pa_cons (pv 0) (pa_cons pe_int pa_nil))) pe_int (nomark _)))))
    (pss_cons (ps_set (i := 3) sc__law_grow.nd rfl (Or.inl rfl) (pe_tup (pa_cons pe_str (pa_cons (pe_ix ix_seq (pv 1) (pe_callD D__law_next hr__law_next pass0 (pa_cons (pv 0) (pa_cons (pe_callB call_lenA (by rfl) T.n_len PySem.boot_len (pa_cons (pv 1) pa_nil)) pa_nil))) (fun _ _ => rfl)) pa_nil))))
    (pss_one (ps_if (pt_cmpR (op_eqA hu64) (pe_callD D__law_next hr__law_next pass0 (pa_cons (pv 0) (pa_cons pe_int pa_nil))) pe_int (nomark _))
    (pss_one (ps_set (i := 3) sc__law_grow.nd rfl (Or.inl rfl) (pe_tup (pa_cons pe_str (pa_cons (pv 3) (pa_cons (pe_tup (pa_cons pe_str (pa_cons (pe_ix ix_seq (pv 1) (pe_callD D__law_next hr__law_next pass0 (pa_cons (pv 0) (pa_cons (pe_callB call_lenA (by rfl) T.n_len PySem.boot_len (pa_cons (pv 1) pa_nil)) pa_nil))) (fun _ _ => rfl)) pa_nil))) pa_nil))))))
    pss_nil)))
    pss_nil)
    (pss_cons (ps_set (i := 4) sc__law_grow.nd rfl (Or.inl rfl) (pe_tup (pa_cons pe_str (pa_cons (pe_ix ix_seq (pe_lst (pa_cons (pe_callD D__law_next hr__law_next pass0 (pa_cons (pv 0) (pa_cons pe_int pa_nil))) (pa_cons (pe_callD D__law_next hr__law_next pass0 (pa_cons (pv 0) (pa_cons pe_int pa_nil))) pa_nil))) (pe_callD D__law_next hr__law_next pass0 (pa_cons (pv 0) (pa_cons pe_int pa_nil))) (fun _ _ => rfl)) pa_nil))))
    (pss_cons (ps_if (PW.pt (pw_and (pt_cmpR (op_neA hu64) (pv 2) (pe_lst pa_nil) (nomark _)) (pw_and1 (pt_cmpR (op_eqA hu64) (pe_callD D__law_next hr__law_next pass0 (pa_cons (pv 0) (pa_cons pe_int pa_nil))) pe_int (nomark _)))))
    (pss_cons (ps_set (i := 4) sc__law_grow.nd rfl (Or.inl rfl) (pe_tup (pa_cons pe_str (pa_cons (pe_ix ix_seq (pv 2) (pe_callD D__law_next hr__law_next pass0 (pa_cons (pv 0) (pa_cons (pe_callB call_lenA (by rfl) T.n_len PySem.boot_len (pa_cons (pv 2) pa_nil)) pa_nil))) (fun _ _ => rfl)) pa_nil))))
    (pss_one (ps_if (pt_cmpR (op_eqA hu64) (pe_callD D__law_next hr__law_next pass0 (pa_cons (pv 0) (pa_cons pe_int pa_nil))) pe_int (nomark _))
    (pss_one (ps_set (i := 4) sc__law_grow.nd rfl (Or.inl rfl) (pe_tup (pa_cons pe_str (pa_cons (pe_tup (pa_cons pe_str (pa_cons (pe_callD D__law_next hr__law_next pass0 (pa_cons (pv 0) (pa_cons pe_int pa_nil))) pa_nil))) (pa_cons (pv 4) pa_nil))))))
    pss_nil)))
    pss_nil)
    (pss_one (ps_ret (pe_tup (pa_cons pe_str (pa_cons (pv 3) (pa_cons (pv 4) pa_nil)))))))))), ?_⟩
  walk_at "rs"
  with_reducible refine rd_seq ?_
  walk_at "rs"
  walk_at "nx"
  intro a H1 a0 a1 f1 k1 hat1
  walk_at "rs"
  refine rd_newT (by simp) fun t1 H2 nt1 f2 et1 => ?_
  walk_at "rs"
  have F2 := f1.trans f2.nil
  have hat2 := hat1.mono f2
  have p1 : ∃ e, depE e ≤ 1 ∧ smE e ∧ PaB G last 1 e ∧ Rp K H2 (encE e) (.ref t1) := ⟨.num a, Nat.zero_le _, by show 0 ≤ a ∧ a ≤ 999; omega, pa_num (by omega), Rp2 et1 rfl⟩
  with_reducible refine rd_seqc fun N hN => ?_
  have part2 : ∀ x H3, Fr [h, c] H H3 → HAt H3 h c n → (∃ e, depE e ≤ 1 ∧ smE e ∧ PaB G last 1 e ∧ Rp K H3 (encE e) x) → N [some (.ref h), some (.ref l), some (.ref m), some x, none] H3 := fun x H3 F3 hat3 ⟨e1, de1, se1, pb1, re1⟩ => by
    refine hN _ _ ?_
    clear hN p1
    walk_at "rs"
    with_reducible refine rd_seq ?_
    walk_at "rs"
    walk_at "nx"
    intro b H4 b0 b1 f4 k4 hat4
    walk_at "rs"
    walk_at "nx"
    intro b' H5 b0' b1' f5 k5 hat5
    walk_at "rs"
    refine rd_newL (by simp) fun p6 H6 np6 f6 ep6 => ?_
    have ⟨n6h, n6c⟩ := hat5.new np6
    have hat6 := hat5.mono f6
    walk_at "rs"
    walk_at "nx"
    intro j H7 j0 j1 f7 k7 hat7
    have ja : ∃ v : Int, atI [V.int b, .int b'] j = some (.int v) ∧ (0 ≤ v ∧ v ≤ 999) := by
      have : j = 0 ∨ j = 1 := by omega
      rcases this with rfl | rfl
      · exact ⟨b, rfl, by omega⟩
      · exact ⟨b', rfl, by omega⟩
    obtain ⟨v, av, hv⟩ := ja
    refine rd_ixH (f7.at2 ep6 n6h n6c) av ?_
    walk_at "rs"
    refine rd_newT (by simp) fun t8 H8 nt8 f8 et8 => ?_
    walk_at "rs"
    have F8 := ((((F3.trans f4).trans f5).trans f6.nil).trans f7).trans f8.nil
    have K8 : Kp H3 H8 := (((k4.trans k5).trans f6.kp0).trans k7).trans f8.kp0
    have hat8 := hat7.mono f8
    have p2 : ∃ e, depE e ≤ 1 ∧ smE e ∧ PaB G last 3 e ∧ Rp K H8 (encE e) (.ref t8) := ⟨.num v, Nat.zero_le _, by show 0 ≤ v ∧ v ≤ 999; omega, (pa_num (by omega)).le (by omega), Rp2 et8 rfl⟩
    with_reducible refine rd_seqc fun N3 hN3 => ?_
    have part3 : ∀ y H9, Fr [h, c] H H9 → Kp H3 H9 → HAt H9 h c n → (∃ e, depE e ≤ 1 ∧ smE e ∧ PaB G last 3 e ∧ Rp K H9 (encE e) y) → N3 [some (.ref h), some (.ref l), some (.ref m), some x, some y] H9 := fun y H9 F9 K9 hat9 ⟨e2, de2, se2, pb2, re2⟩ => by
      refine hN3 _ _ ?_
      clear hN3 p2
      walk_at "rh"
      refine rd_newT (by simp) fun t10 H10 nt10 f10 et10 => ?_
      walk_at "rh"
      exact q _ (.add e1 e2) H10 (F9.trans f10.nil) (hat9.mono f10) (by simp only [depE]; omega) ⟨se1, se2⟩ (pa_add pb1 pb2) (Rp3 et10 ((re1.mono K9).mono f10.kp0) (re2.mono f10.kp0))
    refine rd_ifc fun N4 hT hU => ?_
    walk_at "rh"
    refine rd_newL (by simp) fun p9 H9 np9 f9 ep9 => ?_
    have m9 := f9.at (F8.at2 hm nmh nmc)
    refine rd_neNilS hokm (SqL.of m9) (SqL.of ep9) ?_
    walk_at "rh"
    have no : ∀ H10, Fr [h, c] H8 H10 → HAt H10 h c n → N4 false H10 := fun H10 f10 hat10 => by
      refine hU _ ?_
      walk_at "rh"
      obtain ⟨e, x1, x2, x3, x4⟩ := p2
      exact part3 _ H10 (F8.trans f10) (K8.trans (hat8.kp f10)) hat10 ⟨e, x1, x2, x3, x4.mono (hat8.kp f10)⟩
    refine ite2 (fun hc => ?_) (fun hc => no H9 f9.nil (hat8.mono f9))
    have hpos : 0 < ms.length := List.length_pos_iff.mpr (by simpa using hc)
    walk_at "rh"
    refine c_next (hat8.mono f9) (by omega) fun z H10 z0 z1 f10 k10 hat10 => ?_
    walk_at "rh"
    cases hdec : decide (V.int z = V.int 0) with
    | false => exact no H10 (f9.nil.trans f10) hat10
    | true =>
      refine hT _ ?_
      with_reducible refine rd_seq ?_
      walk_at "rs"
      have F10 := (F8.trans f9.nil).trans f10
      have m10 := F10.at2 hm nmh nmc
      try rw [len_ns]
      refine c_next hat10 (by omega) fun r H11 r0 r1 f11 k11 hat11 => ?_
      obtain ⟨y, hy, ay⟩ := atI_strs r0 r1
      refine rd_ixH (f11.at2 m10 nmh nmc) ay ?_
      walk_at "rs"
      refine rd_newT (by simp) fun t12 H12 nt12 f12 et12 => ?_
      walk_at "rs"
      have F12 := (F10.trans f11).trans f12.nil
      have hat12 := hat11.mono f12
      have K12 : Kp H3 H12 := (((K8.trans f9.kp0).trans k10).trans k11).trans f12.kp0
      have ry : Rp K H12 (encE (.name y)) (.ref t12) := Rp2 et12 rfl
      walk_at "nx"
      intro z2 H13 z20 z21 f13 k13 hat13
      walk_at "rs"
      refine Lf.ite2f ?_ ?_
      · skip
        walk_at "rh"
        exact part3 _ H13 (F12.trans f13) (K12.trans k13) hat13 ⟨.name y, Nat.zero_le _, hokm y hy, pa_name.le (by omega), ry.mono k13⟩
      · skip
        walk_at "rh"
        walk_at "nx"
        intro u H14 u0 u1 f14 k14 hat14
        walk_at "rh"
        refine rd_newT (by simp) fun t15 H15 nt15 f15 et15 => ?_
        walk_at "rh"
        refine rd_newT (by simp) fun t16 H16 nt16 f16 et16 => ?_
        walk_at "rh"
        exact part3 _ H16 (((((F12.trans f13).trans f14).trans f15.nil).trans f16.nil)) ((((K12.trans k13).trans k14).trans f15.kp0).trans f16.kp0) ((hat14.mono f15).mono f16)
          ⟨.mul (.num u) (.name y), by simp [depE], ⟨by show 0 ≤ u ∧ u ≤ 999; omega, hokm y hy⟩, pa_times ⟨u0, by omega⟩, Rp3 et16 ((show Rp K H15 (encE (.num u)) (.ref t15) from Rp2 et15 rfl).mono f16.kp0) ((((ry.mono k13).mono k14).mono f15.kp0).mono f16.kp0)⟩
  refine rd_ifc fun N4 hT hU => ?_
  walk_at "rh"
  refine rd_newL (by simp) fun p9 H9 np9 f9 ep9 => ?_
  have l9 := f9.at (F2.at2 hl nlh nlc)
  refine rd_neNilS (fun x hx => (hok x hx).1) (SqL.of l9) (SqL.of ep9) ?_
  walk_at "rh"
  have no : ∀ H10, Fr [h, c] H2 H10 → HAt H10 h c n → N4 false H10 := fun H10 f10 hat10 => by
    refine hU _ ?_
    walk_at "rh"
    obtain ⟨e, x1, x2, x3, x4⟩ := p1
    exact part2 _ H10 (F2.trans f10) hat10 ⟨e, x1, x2, x3, x4.mono (hat2.kp f10)⟩
  refine ite2 (fun hc => ?_) (fun hc => no H9 f9.nil (hat2.mono f9))
  have hpos : 0 < ns.length := List.length_pos_iff.mpr (by simpa using hc)
  walk_at "rh"
  refine c_next (hat2.mono f9) (by omega) fun z H10 z0 z1 f10 k10 hat10 => ?_
  walk_at "rh"
  cases hdec : decide (z > 0) with
  | false => exact no H10 (f9.nil.trans f10) hat10
  | true =>
    refine hT _ ?_
    with_reducible refine rd_seq ?_
    walk_at "rs"
    have F10 := (F2.trans f9.nil).trans f10
    have l10 := F10.at2 hl nlh nlc
    try rw [len_ns]
    refine c_next hat10 (by omega) fun r H11 r0 r1 f11 k11 hat11 => ?_
    obtain ⟨y, hy, ay⟩ := atI_strs r0 r1
    refine rd_ixH (f11.at2 l10 nlh nlc) ay ?_
    walk_at "rs"
    refine rd_newT (by simp) fun t12 H12 nt12 f12 et12 => ?_
    walk_at "rs"
    have F12 := (F10.trans f11).trans f12.nil
    have hat12 := hat11.mono f12
    have ry : Rp K H12 (encE (.name y)) (.ref t12) := Rp2 et12 rfl
    walk_at "nx"
    intro z2 H13 z20 z21 f13 k13 hat13
    walk_at "rs"
    refine Lf.ite2f ?_ ?_
    · skip
      walk_at "rh"
      exact part2 _ H13 (F12.trans f13) hat13 ⟨.name y, Nat.zero_le _, (hok y hy).1, pa_name, ry.mono k13⟩
    · skip
      walk_at "rh"
      have F13 := F12.trans f13
      have l13 := F13.at2 hl nlh nlc
      try rw [len_ns]
      refine c_next hat13 (by omega) fun r' H14 r0' r1' f14 k14 hat14 => ?_
      obtain ⟨y2, hy2, ay2⟩ := atI_strs r0' r1'
      refine rd_ixH (f14.at2 l13 nlh nlc) ay2 ?_
      walk_at "rh"
      refine rd_newT (by simp) fun t15 H15 nt15 f15 et15 => ?_
      walk_at "rh"
      refine rd_newT (by simp) fun t16 H16 nt16 f16 et16 => ?_
      walk_at "rh"
      exact part2 _ H16 (((F13.trans f14).trans f15.nil).trans f16.nil) ((hat14.mono f15).mono f16)
        ⟨.mul (.name y) (.name y2), by simp [depE], ⟨(hok y hy).1, (hok y2 hy2).1⟩, pa_gg (hok y hy).2 (hok y2 hy2).2, Rp3 et16 ((((ry.mono k13).mono k14).mono f15.kp0).mono f16.kp0) ((show Rp K H15 (encE (.name y2)) (.ref t15) from Rp2 et15 rfl).mono f16.kp0)⟩
end
end Lf
namespace Lf
open PySem PySem.Spec PyProof.Rows L2
/-! ### rows and laps, drawn -/
structure Nm7 (xs : List Str) : Prop where
  len : xs.length = 7
  nd : xs.Nodup
  ok : ∀ x ∈ xs, okC x
def Gs (xs : List Str) (x : Str) : Prop := ∃ i, i < 3 ∧ xs[i]? = some x
def lastN (xs : List Str) : Str := xs[6]?.getD ""
theorem nm7_cases {xs : List Str} (h : xs.length = 7) : ∃ a0 a1 a2 a3 a4 a5 a6, xs = [a0, a1, a2, a3, a4, a5, a6] := by
  match xs, h with
  | [a0, a1, a2, a3, a4, a5, a6], _ => exact ⟨a0, a1, a2, a3, a4, a5, a6, rfl⟩
theorem gs_iff {a0 a1 a2 a3 a4 a5 a6 x : Str} : Gs [a0, a1, a2, a3, a4, a5, a6] x ↔ x = a0 ∨ x = a1 ∨ x = a2 := by
  constructor
  · rintro ⟨i, hi, e⟩
    have : i = 0 ∨ i = 1 ∨ i = 2 := by omega
    rcases this with rfl | rfl | rfl
    · exact .inl (Option.some.inj e).symm
    · exact .inr (.inl (Option.some.inj e).symm)
    · exact .inr (.inr (Option.some.inj e).symm)
  · rintro (rfl | rfl | rfl)
    · exact ⟨0, by omega, rfl⟩
    · exact ⟨1, by omega, rfl⟩
    · exact ⟨2, by omega, rfl⟩
theorem guard_at {xs : List Str} (h : Nm7 xs) {i : Int} (h0 : 0 ≤ i) (h1 : i ≤ 2) : ∃ g, atI (xs.map V.str) i = some (.str g) ∧ okC g ∧ okC g := by
  obtain ⟨y, hy, e⟩ := atI_strs (ns := xs) h0 (by have := h.len; omega)
  exact ⟨y, e, h.ok y hy, h.ok y hy⟩
theorem other_at {xs : List Str} (h : Nm7 xs) {i : Int} (h0 : 3 ≤ i) (h1 : i ≤ 5) : ∃ g, atI (xs.map V.str) i = some (.str g) ∧ okC g ∧ okC g := by
  obtain ⟨y, hy, e⟩ := atI_strs (ns := xs) (i := i) (by omega) (by have := h.len; omega)
  exact ⟨y, e, h.ok y hy, h.ok y hy⟩
theorem last_at {xs : List Str} (h : Nm7 xs) : atI (xs.map V.str) 6 = some (.str (lastN xs)) ∧ okC (lastN xs) := by
  obtain ⟨a0, a1, a2, a3, a4, a5, a6, rfl⟩ := nm7_cases h.len
  exact ⟨rfl, h.ok a6 (by simp)⟩
theorem cut_strs (xs : List Str) (lo hi : Option Int) : ∃ ms : List Str, cutV (xs.map V.str) lo hi = ms.map V.str ∧ ms.length ≤ xs.length ∧ ∀ x ∈ ms, x ∈ xs := by
  refine ⟨(xs.drop (HT.sIx xs.length 0 lo)).take (HT.sIx xs.length xs.length hi - HT.sIx xs.length 0 lo), ?_, ?_, fun x hx => List.mem_of_mem_drop (List.mem_of_mem_take hx)⟩
  · unfold cutV
    rw [List.length_map, List.map_take, List.map_drop]
  · rw [List.length_take, List.length_drop]; omega
theorem low_at {xs : List Str} (h : Nm7 xs) {d : Nat} (hd : d ≤ 3) : ∃ ns : List Str, cutV (xs.map V.str) none (some (d : Int)) = ns.map V.str ∧ ns.length ≤ 7 ∧ ∀ x ∈ ns, okC x ∧ Gs xs x := by
  obtain ⟨ns, e, hl, hm⟩ := cut_strs xs none (some (d : Int))
  refine ⟨ns, e, by have := h.len; omega, fun x hx => ⟨h.ok x (hm x hx), ?_⟩⟩
  obtain ⟨a0, a1, a2, a3, a4, a5, a6, rfl⟩ := nm7_cases h.len
  have inj : ∀ l m : List Str, l.map V.str = m.map V.str → l = m := by
    intro l
    induction l with
    | nil => intro m z; cases m with | nil => rfl | cons _ _ => cases z
    | cons a l ih =>
      intro m z
      cases m with
      | nil => cases z
      | cons b m =>
        simp only [List.map_cons, List.cons.injEq, V.str.injEq] at z
        rw [z.1, ih m z.2]
  have : d = 0 ∨ d = 1 ∨ d = 2 ∨ d = 3 := by omega
  rcases this with rfl | rfl | rfl | rfl
  · have q := inj [] ns e
    subst q; simp at hx
  · have q := inj [a0] ns e
    subst q; exact gs_iff.mpr (by simp at hx; exact .inl hx)
  · have q := inj [a0, a1] ns e
    subst q; exact gs_iff.mpr (by simp at hx; rcases hx with z | z <;> simp [z])
  · have q := inj [a0, a1, a2] ns e
    subst q; exact gs_iff.mpr (by simpa using hx)
theorem rpl_snoc {K : PySem.W.Frag} {H : Hp} {x : D} {u : V} (hu : Rp K H x u) : ∀ {ds : List D} {vs : List V}, RpL K H ds vs → RpL K H (ds ++ [x]) (vs ++ [u])
  | [], vs, z => by
    cases (show vs = [] from z)
    exact ⟨u, [], rfl, hu, rfl⟩
  | d :: ds, vs, z => by
    obtain ⟨v, r, rfl, z1, z2⟩ := z
    exact ⟨v, _, rfl, z1, rpl_snoc hu z2⟩
theorem encL_app : ∀ (a b : List Sm), encL (a ++ b) = encL a ++ encL b
  | [], b => rfl
  | x :: a, b => by simp [encL, encL_app a b]
theorem gd_app {G : Str → Prop} {last : Str} {W : Nat} : ∀ {a b : List Sm}, gdL G last W a → gdL G last W b → gdL G last W (a ++ b)
  | [], b, _, h => h
  | x :: a, b, h, g => ⟨h.1, gd_app h.2 g⟩
theorem depL_app : ∀ (a b : List Sm), depL (a ++ b) = max (depL a) (depL b)
  | [], b => by simp [depL]
  | x :: a, b => by simp only [List.cons_append, depL, depL_app a b]; omega
theorem cntL_app : ∀ (a b : List Sm), cntL (a ++ b) = cntL a + cntL b
  | [], b => by simp [cntL]
  | x :: a, b => by simp only [List.cons_append, cntL, cntL_app a b]; omega
/-- the parts of a row that is being drawn -/
structure RowI (K : PySem.W.Frag) (H : Hp) (p : Addr) (r : List Sm) (vs : List V) : Prop where
  at_ : H p = some (.lst vs)
  rp : RpL K H (encL r) vs
theorem RowI.len {K : PySem.W.Frag} {H : Hp} {p : Addr} {r : List Sm} {vs : List V} (h : RowI K H p r vs) : vs.length = r.length := by
  rw [RpL.length h.rp, encL_len]
theorem RowI.push {K : PySem.W.Frag} {H H2 : Hp} {p : Addr} {r : List Sm} {vs : List V} {s : Sm} {v : V} (h : RowI K H p r vs) (k : Kp H H2) (e : H2 p = some (.lst (vs ++ [v]))) (hv : Rp K H2 (encS s) v) : RowI K H2 p (r ++ [s]) (vs ++ [v]) :=
  ⟨e, by rw [encL_app]; exact rpl_snoc hv (h.rp.mono k)⟩
theorem RowI.mono {K : PySem.W.Frag} {H H2 : Hp} {p : Addr} {r : List Sm} {vs : List V} (h : RowI K H p r vs) (k : Kp H H2) (e : H2 p = H p) : RowI K H2 p r vs := ⟨by rw [e]; exact h.at_, h.rp.mono k⟩
def spLapD (K : PySem.W.Frag) (n j : Nat) : Sp := fun vs H Q _ => ∃ (h c l : Addr) (xs : List Str) (d : Nat) (odd : Bool), vs = [.ref h, .ref l, .int (d : Int), .bl odd] ∧ Nm7 xs ∧ HAt H h c n ∧ H l = some (.lst (xs.map V.str)) ∧ l ≠ h ∧ l ≠ c ∧ d ≤ 2 ∧ 3 ≤ d + j ∧
  ∀ v g m r H2, Fr [h, c] H H2 → HAt H2 h c n → gdS (Gs xs) (lastN xs) 6 (.lap g m r) → depL r ≤ 2 - d → cntL r + 1 ≤ 6 + 4 * (2 - d) → Rp K H2 (encS (.lap g m r)) v → Q v H2
def spRowD (K : PySem.W.Frag) (n j : Nat) : Sp := fun vs H Q _ => ∃ (h c l : Addr) (xs : List Str) (d : Nat) (odd : Bool), vs = [.ref h, .ref l, .int (d : Int), .bl odd] ∧ Nm7 xs ∧ HAt H h c n ∧ H l = some (.lst (xs.map V.str)) ∧ l ≠ h ∧ l ≠ c ∧ d ≤ 3 ∧ 3 ≤ d + j ∧
  ∀ v r H2, Fr [h, c] H H2 → HAt H2 h c n → gdL (Gs xs) (lastN xs) 6 r → r.length ≤ 4 → (d = 3 → r.length ≤ 3 ∧ cntL r ≤ 3) → depL r ≤ 3 - d → cntL r ≤ 5 + 4 * (3 - d) → Rp K H2 (encR r) v → Q v H2
section
variable {P : Program} {w : World} {K : PySem.W.Frag} {mg : Str → Option Value} {base : Heap}
abbrev s__law_lap : Stmt := top 75
abbrev N__law_lap : List Str := ["_law_h", "_law_names_here", "_law_depth", "_law_odd", "_law_guard", "_law_inner", "_law_last", "_law_more"]
theorem sc__law_lap : FnScope N__law_lap ["_law_h", "_law_names_here", "_law_depth", "_law_odd"] (defScope s__law_lap) := ⟨rfl, rfl, rfl, by decide +kernel, rfl, by decide +kernel, by decide +kernel⟩
theorem ok_lapD (T : Blt mg) (n j k : Nat) (hk : 2 ≤ k) (F : Here K mg "_law_lap" s__law_lap ["_law_h", "_law_names_here", "_law_depth", "_law_odd"]) (D__law_next : DefOk P w K mg base CX0 "_law_next" ["_law_h", "_law_many"] 1 (spNext n))
    (D__law_measure : DefOk P w K mg base CX0 "_law_measure" ["_law_h", "_law_guard", "_law_calm"] 2 (spMeas K n)) (D__law_row : DefOk P w K mg base CX0 "_law_row" ["_law_h", "_law_names_here", "_law_depth", "_law_odd"] k (spRowD K n j)) :
    DefOk P w K mg base CX0 "_law_lap" ["_law_h", "_law_names_here", "_law_depth", "_law_odd"] (k + 1) (spLapD K n (j + 1)) := by
  refine F.ok sc__law_lap (fun vs H Q E h => ?_) (fun f cdv A outer s H vs Q E hr h => ?_)
  · obtain ⟨_, _, _, _, _, _, rfl, _⟩ := h; rfl
  obtain ⟨h, c, l, xs, d, odd, rfl, nm, hat, hl, nlh, nlc, hd, hj, q⟩ := h
  have hu64 := hr.units
  have hr__law_next := hr.mono (j := 1) (by omega)
  have hr__law_measure := hr.mono (j := 2) (by omega)
  have hr__law_row := hr.mono (j := k) (by omega)
  refine ⟨_, (pss_cons (ps_set (i := 4) sc__law_lap.nd rfl (Or.inl rfl) (pe_ix ix_seq (pv 1) (pv 2) (fun _ _ => rfl)))
    (pss_cons (ps_if (PW.pt (pw_and (pt_val (pv 3)) (pw_and1 (pt_cmpR (op_eqA hu64) (pe_callD D__law_next hr__law_next pass0 (pa_cons (pv 0) (pa_cons pe_int pa_nil))) pe_int (nomark _)))))
    (pss_cons (ps_set (i := 5) sc__law_lap.nd rfl (Or.inl rfl) (pe_callD D__law_row hr__law_row pass0 (pa_cons (pv 0) (pa_cons (pv 1) (pa_cons pe_int (pa_cons (pv 3) pa_nil))))))
    (pss_cons (ps_set (i := 6) sc__law_lap.nd rfl (Or.inl rfl) (pe_tup (pa_cons pe_str (pa_cons (pe_ix ix_seq (pv 1) pe_int (fun _ _ => rfl)) pa_nil))))
    (pss_cons (ps_set (i := 7) sc__law_lap.nd rfl (Or.inl rfl) (pe_tup (pa_cons (pe_tup (pa_cons pe_str (pa_cons (pv 4) (pa_cons (pe_tup (pa_cons pe_str (pa_cons (pv 6) (pa_cons (pe_tup (pa_cons pe_str (pa_cons (pv 4) pa_nil))) pa_nil)))) pa_nil)))) (pa_cons (pe_tup (pa_cons pe_str (pa_cons (pe_ix ix_seq (pv 1) pe_int (fun _ _ => rfl)) (pa_cons (pe_tup (pa_cons pe_str (pa_cons pe_int pa_nil))) pa_nil)))) pa_nil))))
    (pss_one (ps_ret (pe_tup (pa_cons pe_str (pa_cons (pv 4) (pa_cons (pe_tup (pa_cons pe_str (pa_cons (pe_tup (pa_cons pe_str (pa_cons (pv 4) pa_nil))) (pa_cons (pv 6) pa_nil)))) (pa_cons (pe_tup (pa_cons pe_str (pa_cons (pe_op op_plus (pe_ix ix_seq (pv 5) pe_int (fun _ _ => rfl)) (pv 7)) pa_nil))) pa_nil))))))))))
    pss_nil)
    (pss_one (ps_ret (pe_tup (pa_cons pe_str (pa_cons (pv 4) (pa_cons (pe_callD D__law_measure hr__law_measure pass0 (pa_cons (pv 0) (pa_cons (pv 4) (pa_cons (pe_slice sl_any (pv 1) po_none (po_some (pv 2))) pa_nil)))) (pa_cons (pe_callD D__law_row hr__law_row pass0 (pa_cons (pv 0) (pa_cons (pv 1) (pa_cons (pe_op op_plus (pv 2) pe_int) (pa_cons (pv 3) pa_nil))))) pa_nil))))))))), ?_⟩
  obtain ⟨g, ag, gg, gl⟩ := guard_at nm (i := (d : Int)) (by omega) (by omega)
  have la := last_at nm
  walk_at "rs"
  with_reducible refine rd_seq ?_
  walk_at "rs"
  refine rd_ixH hl ag ?_
  walk_at "rs"
  with_reducible refine rd_seq ?_
  refine rd_ifc fun N hT hU => ?_
  have even : ∀ H2, Fr [h, c] H H2 → HAt H2 h c n → N false H2 := fun H2 f2 hat2 => by
    refine hU _ ?_
    walk_at "rh"
    dsimp only
    walk_at "rh"
    have l2 := f2.at2 hl nlh nlc
    refine rd_sl ?_
    walk_at "rh"
    refine rd_nopart ?_
    refine rd_part ?_
    walk_at "rh"
    refine rd_parti ?_
    obtain ⟨ns, ens, hns, hok⟩ := low_at nm (d := d) (by omega)
    refine rd_slL (SqL.of l2) fun p H3 np f3 ep => ?_
    rw [ens] at ep
    have ⟨nph, npc⟩ := hat2.new np
    walk_at "rh"
    refine ⟨h, c, p, g, ns, rfl, hat2.mono f3, ep, nph, npc, by omega, gg, fun x hx => (hok x hx).1, fun v1 m H4 f4 hat4 dm sm rm => ?_⟩
    walk_at "rh"
    have f34 := (f2.trans f3.nil).trans f4
    refine ⟨h, c, l, xs, d + 1, odd, by simp, nm, hat4, f34.at2 hl nlh nlc, nlh, nlc, by omega, by omega, fun v2 r H5 f5 hat5 gr lr _ dr cr rr => ?_⟩
    walk_at "rh"
    refine rd_newT (by simp) fun t H6 nt f6 et => ?_
    walk_at "rh"
    have rm' := (rm.mono (hat4.kp f5)).mono f6.kp0
    refine q _ g m r H6 ((f34.trans f5).trans f6.nil) (hat5.mono f6) ⟨by omega, sm, gg, gr⟩ (by omega) (by omega) (Rp4 et rfl rm' (rr.mono f6.kp0))
  walk_at "rs"
  refine ite2 (fun ho => ?_) (fun _ => even H (Fr.refl _ _) hat)
  walk_at "rs"
  walk_at "nx"
  intro z H1 z0 z1 f1 k1 hat1
  walk_at "rs"
  cases hdec : decide (V.int z = V.int 0) with
  | false => exact even H1 f1 hat1
  | true =>
    refine hT _ ?_
    clear hT hU even
    walk_at "rh"
    have l1 := f1.at2 hl nlh nlc
    refine ⟨h, c, l, xs, 3, odd, rfl, nm, hat1, l1, nlh, nlc, by omega, by omega, fun v1 r H2 f2 hat2 gr lr lr3 dr cr rr => ?_⟩
    obtain ⟨ta, _, rfl, hTa, _, _, rfl, rfl, _, _, rfl, ⟨tb, vs, rfl, hTb, hvs⟩, rfl⟩ := rr
    have l2 := f2.at2 l1 nlh nlc
    walk_at "rh"
    refine rd_ixH l2 la.1 ?_
    walk_at "rh"
    refine rd_newT (by simp) fun t3 H3 nt3 f3 e3 => ?_
    have r3 : Rp K H3 (encE (.name (lastN xs))) (.ref t3) := Rp2 e3 rfl
    walk_at "rh"
    refine rd_newT (by simp) fun t4 H4 nt4 f4 e4 => ?_
    have r4 : Rp K H4 (encE (.name g)) (.ref t4) := Rp2 e4 rfl
    walk_at "rh"
    refine rd_newT (by simp) fun t5 H5 nt5 f5 e5 => ?_
    have r5 : Rp K H5 (encE (.add (.name (lastN xs)) (.name g))) (.ref t5) := Rp3 e5 ((r3.mono f4.kp0).mono f5.kp0) (r4.mono f5.kp0)
    walk_at "rh"
    refine rd_newT (by simp) fun t6 H6 nt6 f6 e6 => ?_
    have r6 : Rp K H6 (encS (.set g (.add (.name (lastN xs)) (.name g)))) (.ref t6) := Rp3 e6 rfl (r5.mono f6.kp0)
    walk_at "rh"
    have l6 := f6.at (f5.at (f4.at (f3.at l2)))
    refine rd_ixH l6 la.1 ?_
    walk_at "rh"
    refine rd_newT (by simp) fun t7 H7 nt7 f7 e7 => ?_
    walk_at "rh"
    refine rd_newT (by simp) fun t8 H8 nt8 f8 e8 => ?_
    have r8 : Rp K H8 (encS (.set (lastN xs) (.num 0))) (.ref t8) := Rp3 e8 rfl ((show Rp K H7 (encE (.num 0)) (.ref t7) from Rp2 e7 rfl).mono f8.kp0)
    walk_at "rh"
    refine rd_newT (by simp) fun t9 H9 nt9 f9 e9 => ?_
    walk_at "rh"
    refine rd_newT (by simp) fun t10 H10 nt10 f10 e10 => ?_
    have r10 : Rp K H10 (encE (.name g)) (.ref t10) := Rp2 e10 rfl
    walk_at "rh"
    refine rd_newT (by simp) fun t11 H11 nt11 f11 e11 => ?_
    have k3 : Kp H3 H11 := (((((((f4.kp0.trans f5.kp0).trans f6.kp0).trans f7.kp0).trans f8.kp0).trans f9.kp0).trans f10.kp0).trans f11.kp0)
    have r11 : Rp K H11 (encE (.add (.name g) (.name (lastN xs)))) (.ref t11) := Rp3 e11 (r10.mono f11.kp0) (r3.mono k3)
    have k2 : Kp H2 H11 := f3.kp0.trans k3
    walk_at "rh"
    have k9 : Kp H9 H11 := f10.kp0.trans f11.kp0
    refine rd_plusT (k2.sq hTb) (k9.sq (SqT.of e9)) (by have := RpL.length hvs; rw [encL_len] at this; rw [sizeLine_eq]; simp only [List.length_cons, List.length_nil]; omega) fun p12 H12 f12 e12 => ?_
    walk_at "rh"
    refine rd_newT (by simp) fun t13 H13 nt13 f13 e13 => ?_
    walk_at "rh"
    refine rd_newT (by simp) fun t14 H14 nt14 f14 e14 => ?_
    walk_at "rh"
    have kk : Kp H11 H14 := (f12.kp0.trans f13.kp0).trans f14.kp0
    have gr2 : gdL (Gs xs) (lastN xs) 6 (r ++ [.set g (.add (.name (lastN xs)) (.name g)), .set (lastN xs) (.num 0)]) :=
      gd_app gr ⟨⟨by simp [depE], ⟨la.2, gg⟩, good_odd gl gg⟩, ⟨by simp [depE], by show (0 : Int) ≤ 0 ∧ (0 : Int) ≤ 999; decide, good_last la.2⟩, trivial⟩
    have rw12 : RpL K H12 (encL (r ++ [.set g (.add (.name (lastN xs)) (.name g)), .set (lastN xs) (.num 0)])) (vs ++ [.ref t6, .ref t8]) := by
      have e : vs ++ [V.ref t6, .ref t8] = (vs ++ [.ref t6]) ++ [.ref t8] := by simp
      rw [encL_app, e]
      have e2 : encL r ++ encL [.set g (.add (.name (lastN xs)) (.name g)), .set (lastN xs) (.num 0)] = (encL r ++ [encS (.set g (.add (.name (lastN xs)) (.name g)))]) ++ [encS (.set (lastN xs) (.num 0))] := by simp [encL]
      rw [e2]
      have k6 : Kp H6 H12 := (((f7.kp0.trans f8.kp0).trans f9.kp0).trans k9).trans f12.kp0
      have k8 : Kp H8 H12 := (f9.kp0.trans k9).trans f12.kp0
      exact rpl_snoc (r8.mono k8) (rpl_snoc (r6.mono k6) (hvs.mono (k2.trans f12.kp0)))
    have rrow : Rp K H13 (encR (r ++ [.set g (.add (.name (lastN xs)) (.name g)), .set (lastN xs) (.num 0)])) (.ref t13) := Rp2 e13 ((show Rp K H12 (.tup (encL _)) (.ref p12) from ⟨p12, _, rfl, e12, rw12⟩).mono f13.kp0)
    have FF : Fr [h, c] H2 H14 := (((((((((((f3.trans f4).trans f5).trans f6).trans f7).trans f8).trans f9).trans f10).trans f11).trans f12).trans f13).trans f14).nil
    have FN : Fr [] H2 H14 := (((((((((((f3.trans f4).trans f5).trans f6).trans f7).trans f8).trans f9).trans f10).trans f11).trans f12).trans f13).trans f14)
    refine q _ g (.add (.name g) (.name (lastN xs))) _ H14 ((f1.trans f2).trans FF) (hat2.mono FN) ⟨by simp [depE], ⟨gg, la.2⟩, gg, gr2⟩ ?_ ?_ (Rp4 e14 rfl (r11.mono kk) (rrow.mono f14.kp0))
    · rw [depL_app]; simp only [depL, depS]; omega
    · have := lr3 rfl
      rw [cntL_app]; simp only [cntL, cntS]; omega
end
end Lf
namespace Lf
open PySem PySem.Spec PyProof.Rows L2
section
variable {P : Program} {w : World} {K : PySem.W.Frag} {mg : Str → Option Value} {base : Heap}
abbrev s__law_row : Stmt := top 77
abbrev N__law_row : List Str := ["_law_h", "_law_names_here", "_law_depth", "_law_odd", "_law_parts", "_law_low", "_law_laps", "_law_k", "_law_way", "_law_at", "_law_part_here", "_law_some"]
theorem sc__law_row : FnScope N__law_row ["_law_h", "_law_names_here", "_law_depth", "_law_odd"] (defScope s__law_row) := ⟨rfl, rfl, rfl, by decide +kernel, rfl, by decide +kernel, by decide +kernel⟩
theorem ok_rowD (T : Blt mg) (n j k : Nat) (hk : 5 ≤ k) (F : Here K mg "_law_row" s__law_row ["_law_h", "_law_names_here", "_law_depth", "_law_odd"]) (D__law_next : DefOk P w K mg base CX0 "_law_next" ["_law_h", "_law_many"] 1 (spNext n))
    (D__law_part : DefOk P w K mg base CX0 "_law_part" ["_law_h", "_law_some", "_law_deep"] 4 (spPart K n 3)) (D__law_grow : DefOk P w K mg base CX0 "_law_grow" ["_law_h", "_law_low", "_law_some"] 2 (spGrow K n))
    (D__law_lap : DefOk P w K mg base CX0 "_law_lap" ["_law_h", "_law_names_here", "_law_depth", "_law_odd"] k (spLapD K n j)) :
    DefOk P w K mg base CX0 "_law_row" ["_law_h", "_law_names_here", "_law_depth", "_law_odd"] (k + 1) (spRowD K n j) := by
  refine F.ok sc__law_row (fun vs H Q E h => ?_) (fun f cdv A outer s H vs Q E hr h => ?_)
  · obtain ⟨_, _, _, _, _, _, rfl, _⟩ := h; rfl
  obtain ⟨h, c, l, xs, d, odd, rfl, nm, hat, hl, nlh, nlc, hd, hj, q⟩ := h
  have hu64 := hr.units
  have hr__law_next := hr.mono (j := 1) (by omega)
  have hr__law_part := hr.mono (j := 4) (by omega)
  have hr__law_grow := hr.mono (j := 2) (by omega)
  have hr__law_lap := hr.mono (j := k) (by omega)
  refine ⟨_, (pss_cons (ps_set (i := 4) sc__law_row.nd rfl (Or.inl rfl) (pe_lst pa_nil))
    (pss_cons (ps_set (i := 5) sc__law_row.nd rfl (Or.inl rfl) (pe_slice sl_any (pv 1) po_none (po_some (pv 2))))
    (pss_cons (ps_set (i := 6) sc__law_row.nd rfl (Or.inl rfl) (pv 2))
    (pss_cons (ps_for PassesOwn.never rfl (pi_range1 (by rfl) T.n_range (pa_cons (pe_op op_plus pe_int (pe_callD D__law_next hr__law_next pass0 (pa_cons (pv 0) (pa_cons pe_int pa_nil)))) pa_nil)) (pg_name (i := 7) sc__law_row.nd rfl (Or.inl rfl))
    (pss_cons (ps_set (i := 8) sc__law_row.nd rfl (Or.inl rfl) (pe_callD D__law_next hr__law_next pass0 (pa_cons (pv 0) (pa_cons pe_int pa_nil))))
    (pss_one (ps_if (pt_cmpR op_lt (pv 8) pe_int (nomark _))
    (pss_cons (ps_set (i := 9) sc__law_row.nd rfl (Or.inl rfl) (pe_op op_plus pe_int (pe_callD D__law_next hr__law_next pass0 (pa_cons (pv 0) (pa_cons pe_int pa_nil)))))
    (pss_cons (ps_set (i := 10) sc__law_row.nd rfl (Or.inl rfl) (pe_callD D__law_grow hr__law_grow pass0 (pa_cons (pv 0) (pa_cons (pv 5) (pa_cons (pe_slice sl_any (pv 1) (po_some pe_int) (po_some (pv 9))) pa_nil)))))
    (pss_cons (ps_if (pt_cmpR op_gt (pe_callD D__law_next hr__law_next pass0 (pa_cons (pv 0) (pa_cons pe_int pa_nil))) pe_int (nomark _))
    (pss_one (ps_set (i := 10) sc__law_row.nd rfl (Or.inl rfl) (pe_tup (pa_cons pe_str (pa_cons (pe_tup (pa_cons pe_str (pa_cons (pe_ix ix_seq (pv 1) (pv 9) (fun _ _ => rfl)) pa_nil))) (pa_cons (pv 10) pa_nil))))))
    pss_nil)
    (pss_one (ps_expr (pe_bm PySem.F.plainAttrs_list PySem.F.slot_list_append PySem.F.type_list_append mt_append (pv 4) (pa_cons (pe_tup (pa_cons pe_str (pa_cons (pe_ix ix_seq (pv 1) (pv 9) (fun _ _ => rfl)) (pa_cons (pv 10) pa_nil)))) pa_nil)))))))
    (pss_one (ps_if (PW.pt (pw_or (pt_cmpR (op_eqA hu64) (pv 8) pe_int (nomark _)) (pw_or1 (pt_cmpR op_gt (pv 6) pe_int (nomark _)))))
    (pss_one (ps_expr (pe_bm PySem.F.plainAttrs_list PySem.F.slot_list_append PySem.F.type_list_append mt_append (pv 4) (pa_cons (pe_tup (pa_cons pe_str (pa_cons (pe_callD D__law_part hr__law_part pass0 (pa_cons (pv 0) (pa_cons (pe_op op_plus (pv 5) (pe_slice sl_any (pv 1) (po_some pe_int) (po_some pe_int))) (pa_cons pe_int pa_nil)))) pa_nil))) pa_nil))))
    (pss_cons (ps_set (i := 6) sc__law_row.nd rfl (Or.inl rfl) pe_int)
    (pss_cons (ps_if (PW.pt (pw_or (pt_cmpR op_gt (pv 2) pe_int (nomark _)) (pw_or1 (pt_cmpR (op_eqA hu64) (pe_callD D__law_next hr__law_next pass0 (pa_cons (pv 0) (pa_cons pe_int pa_nil))) pe_int (nomark _)))))
    (pss_cons (ps_set (i := 11) sc__law_row.nd rfl (Or.inl rfl) (pe_lst (pa_cons (pe_tup (pa_cons pe_str (pa_cons (pe_callD D__law_next hr__law_next pass0 (pa_cons (pv 0) (pa_cons pe_int pa_nil))) pa_nil))) pa_nil)))
    (pss_cons (ps_expr (pe_bm PySem.F.plainAttrs_list PySem.F.slot_list_append PySem.F.type_list_append mt_append (pv 11) (pa_cons (pe_tup (pa_cons pe_str (pa_cons (pe_tup (pa_cons pe_str (pa_cons (pe_ix ix_seq (pv 1) (pe_callB (call_max2A rfl) (by rfl) T.n_max (by decide +kernel) (pa_cons pe_int (pa_cons (pe_op op_sub (pv 2) pe_int) pa_nil))) (fun _ _ => rfl)) pa_nil))) (pa_cons (pe_tup (pa_cons pe_str (pa_cons (pe_callD D__law_next hr__law_next pass0 (pa_cons (pv 0) (pa_cons pe_int pa_nil))) pa_nil))) pa_nil)))) pa_nil)))
    (pss_one (ps_expr (pe_bm PySem.F.plainAttrs_list PySem.F.slot_list_append PySem.F.type_list_append mt_append (pv 4) (pa_cons (pe_tup (pa_cons pe_str (pa_cons (pe_ix ix_seq (pv 1) (pv 2) (fun _ _ => rfl)) (pa_cons (pe_ix ix_seq (pv 11) (pe_callD D__law_next hr__law_next pass0 (pa_cons (pv 0) (pa_cons pe_int pa_nil))) (fun _ _ => rfl)) pa_nil)))) pa_nil))))))
    pss_nil)
    (pss_one (ps_expr (pe_bm PySem.F.plainAttrs_list PySem.F.slot_list_append PySem.F.type_list_append mt_append (pv 4) (pa_cons (pe_callD D__law_lap hr__law_lap pass0 (pa_cons (pv 0) (pa_cons (pv 1) (pa_cons (pv 2) (pa_cons (pv 3) pa_nil))))) pa_nil))))))))))))
    (pss_one (ps_ret (pe_tup (pa_cons pe_str (pa_cons (pe_callTy call_tupleA (by rfl) T.n_tuple (by decide +kernel) (pa_cons (pv 4) pa_nil)) pa_nil))))))))), ?_⟩
  have l7 := nm.len
  walk_at "rs"
  with_reducible refine rd_seq ?_
  walk_at "rs"
  refine rd_newL (by simp) fun pp H1 npp f1 epp => ?_
  have ⟨nph, npc⟩ := hat.new npp
  have hat1 := hat.mono f1
  have l1 := f1.at hl
  walk_at "rs"
  with_reducible refine rd_seq ?_
  walk_at "rs"
  refine rd_sl ?_
  walk_at "rs"
  refine rd_nopart ?_
  refine rd_part ?_
  walk_at "rs"
  refine rd_parti ?_
  obtain ⟨ns, ens, hns, hok⟩ := low_at nm hd
  refine rd_slL (SqL.of l1) fun lw H2 nlw f2 elw => ?_
  rw [ens] at elw
  have ⟨nwh, nwc⟩ := hat1.new nlw
  have npw : pp ≠ lw := ne_of_none epp nlw
  have npl : pp ≠ l := (ne_of_none hl npp).symm
  have nwl : lw ≠ l := (ne_of_none l1 nlw).symm
  have hat2 := hat1.mono f2
  walk_at "rs"
  with_reducible refine rd_seq ?_
  walk_at "rs"
  with_reducible refine rd_seqc fun N hN => ?_
  walk_at "rs"
  walk_at "nx"
  intro m H3 m0 m1 f3 k3 hat3
  walk_at "rs"
  refine rd_rng1 (by omega) ?_
  have F3 : Fr [h, c] H H3 := (f1.trans f2).nil.trans f3
  have e12 : (3 - d) + d = 3 := by omega
  refine rd_forR (fun i σ H' => ∃ (laps : Int) (e : Nat) (r : List Sm) (vs : List V) (u7 u8 u9 u10 u11 : Option V), σ = [some (.ref h), some (.ref l), some (.int (d : Int)), some (.bl odd), some (.ref pp), some (.ref lw), some (.int laps), u7, u8, u9, u10, u11] ∧ Fr [h, c] H H' ∧ HAt H' h c n ∧
      H' lw = some (.lst (ns.map V.str)) ∧ H' l = some (.lst (xs.map V.str)) ∧ RowI K H' pp r vs ∧ gdL (Gs xs) (lastN xs) 6 r ∧ r.length ≤ i + e ∧ cntL r ≤ i + e * (6 + 4 * (2 - d)) ∧ depL r ≤ 3 - d ∧ ((e = 0 ∧ laps = (d : Int)) ∨ (e = 1 ∧ laps = 3 ∧ d ≤ 2)))
    ⟨(d : Int), 0, [], [], none, none, none, none, none, rfl, F3, hat3, f3.at2 elw nwh nwc, f3.at2 (f2.at l1) nlh nlc, ⟨f3.at2 (f2.at epp) nph npc, rfl⟩, trivial, by simp, by simp [cntL], by simp [depL], .inl ⟨rfl, rfl⟩⟩
    (fun i σ H' hi hσ => ?_) (fun σ H' hσ => ?_)
  · obtain ⟨laps, e, r, vs, u7, u8, u9, u10, u11, rfl, f', hat', lw', l', hR, hg, hlen, hcnt, hdep, hlaps⟩ := hσ
    have hle : e ≤ 1 := by rcases hlaps with z | z <;> omega
    have hvl := hR.len
    have hi3 : i < 3 := by omega
    have fp : H pp = none := npp
    walk_at "rs"
    with_reducible refine rd_seq ?_
    walk_at "rs"
    walk_at "nx"
    intro way H4 w0 w1 f4 k4 hat4
    walk_at "rs"
    have F4 := f'.trans f4
    have lw4 := f4.at2 lw' nwh nwc
    have l4 := f4.at2 l' nlh nlc
    have p4 := f4.at2 hR.at_ nph npc
    refine ite2 (fun hw => ?_) (fun hw => ?_)
    · -- a set
      walk_at "rs"
      with_reducible refine rd_seq ?_
      walk_at "rs"
      walk_at "nx"
      intro a H5 a0 a1 f5 k5 hat5
      obtain ⟨y, ay, ny, yl⟩ := other_at nm (i := 3 + a) (by omega) (by omega)
      walk_at "rs"
      with_reducible refine rd_seq ?_
      walk_at "rs"
      refine rd_sl ?_
      walk_at "rs"
      refine rd_part ?_
      walk_at "rs"
      refine rd_parti ?_
      refine rd_part ?_
      walk_at "rs"
      refine rd_parti ?_
      obtain ⟨ms, ems, hms, hmm⟩ := cut_strs xs (some 3) (some (3 + a))
      have l5 := f5.at2 l4 nlh nlc
      refine rd_slL (SqL.of l5) fun lc H6 nlc6 f6 elc => ?_
      rw [ems] at elc
      have ⟨nch, ncc⟩ := hat5.new nlc6
      walk_at "rs"
      refine ⟨Gs xs, lastN xs, h, c, lw, lc, ns, ms, rfl, hat5.mono f6, f6.at (f5.at2 lw4 nwh nwc), nwh, nwc, by omega, hok, elc, nch, ncc, by omega, fun x hx => nm.ok x (hmm x hx), fun v e1 H7 f7 hat7 de se pe re => ?_⟩
      walk_at "rs"
      have F7 : Fr [h, c] H H7 := (F4.trans f5).trans (f6.nil.trans f7)
      have k7 : Kp H' H7 := ((k4.trans k5).trans f6.kp0).trans ((hat5.mono f6).kp f7)
      have l7' := f7.at2 (f6.at l5) nlh nlc
      have lw7 := f7.at2 (f6.at (f5.at2 lw4 nwh nwc)) nwh nwc
      have p7 := f7.at2 (f6.at (f5.at2 p4 nph npc)) nph npc
      with_reducible refine rd_seqc fun N2 hN2 => ?_
      have fin : ∀ x H8, Fr [h, c] H7 H8 → HAt H8 h c n → (∃ ex, depE ex ≤ 3 ∧ smE ex ∧ PaB (Gs xs) (lastN xs) 5 ex ∧ Rp K H8 (encE ex) x) → N2 [some (.ref h), some (.ref l), some (.int (d : Int)), some (.bl odd), some (.ref pp), some (.ref lw), some (.int laps), some (.int (0 + (i : Int))), some (.int way), some (.int (3 + a)), some x, u11] H8 := fun x H8 f8 hat8 ⟨ex, de, se, pe, re⟩ => by
        refine hN2 _ _ ?_
        have p8 := f8.at2 p7 nph npc
        have l8 := f8.at2 l7' nlh nlc
        walk_at "rh"
        refine rd_ixH l8 ay ?_
        walk_at "rh"
        refine rd_newT (by simp) fun t H9 nt f9 et => ?_
        walk_at "rh"
        refine rd_app (f9.at p8) (by omega) fun H10 f10 k10 e10 => ?_
        walk_at "rh"
        have rs : Rp K H9 (encS (.set y ex)) (.ref t) := Rp3 et rfl (re.mono f9.kp0)
        have kk : Kp H' H10 := ((k7.trans (hat7.kp f8)).trans f9.kp0).trans k10
        refine ⟨laps, e, r ++ [.set y ex], vs ++ [.ref t], _, _, _, _, _, rfl, ((F7.trans f8).trans f9.nil).then1 f10 fp, (hat8.mono f9).mono1 f10 nph npc, f10.at1 (f9.at (f8.at2 lw7 nwh nwc)) npw.symm, f10.at1 (f9.at l8) npl.symm, hR.push (s := .set y ex) kk e10 (rs.mono k10), gd_app (b := [.set y ex]) hg ⟨⟨by omega, se, pe.good ny yl (by omega)⟩, trivial⟩, by simp; omega, ?_, ?_, hlaps⟩
        · rw [cntL_app]; simp only [cntL, cntS]; omega
        · rw [depL_app]; simp only [depL, depS]; omega
      walk_at "rs"
      walk_at "nx"
      intro z H8 z0 z1 f8 k8 hat8
      walk_at "rs"
      refine ite2 (fun hz => ?_) (fun hz => ?_)
      · walk_at "rh"
        have l8 := f8.at2 l7' nlh nlc
        refine rd_ixH l8 ay ?_
        walk_at "rh"
        refine rd_newT (by simp) fun t9 H9 nt9 f9 et9 => ?_
        walk_at "rh"
        refine rd_newT (by simp) fun t10 H10 nt10 f10 et10 => ?_
        walk_at "rh"
        exact fin _ H10 ((f8.trans f9.nil).trans f10.nil) ((hat8.mono f9).mono f10) ⟨.add (.name y) e1, by simp only [depE]; omega, ⟨ny, se⟩, (pa_add pa_name pe).le (by omega), Rp3 et10 ((show Rp K H9 (encE (.name y)) (.ref t9) from Rp2 et9 rfl).mono f10.kp0) ((((re.mono k8).mono f9.kp0).mono f10.kp0))⟩
      · walk_at "rh"
        exact fin _ H8 f8 hat8 ⟨e1, by omega, se, pe.le (by omega), re.mono k8⟩
    · dsimp only
      refine rd_ifc fun N3 hT hU => ?_
      have say : N3 true H4 := by
        refine hT _ ?_
        walk_at "rh"
        refine rd_sl ?_
        walk_at "rh"
        refine rd_part ?_
        walk_at "rh"
        refine rd_parti ?_
        refine rd_part ?_
        walk_at "rh"
        refine rd_parti ?_
        obtain ⟨ms, ems, hms, hmm⟩ := cut_strs xs (some 3) (some 6)
        refine rd_slL (SqL.of l4) fun lc H6 nlc6 f6 elc => ?_
        rw [ems] at elc
        refine rd_plusL (f6.at lw4) elc (by rw [sizeLine_eq]; simp only [List.length_map]; omega) fun la H7 nla f7 ela => ?_
        rw [← List.map_append] at ela
        have hat7 := (hat4.mono f6).mono f7
        have ⟨nah, nac⟩ := (hat4.mono f6).new nla
        walk_at "rh"
        refine ⟨h, c, la, ns ++ ms, 2, rfl, by omega, by omega, hat7, ela, nah, nac, by rw [List.length_append]; omega, fun x hx => ?_, fun v ex H8 f8 hat8 de se re => ?_⟩
        · rcases List.mem_append.mp hx with hx | hx
          · exact (hok x hx).1
          · exact nm.ok x (hmm x hx)
        walk_at "rh"
        refine rd_newT (by simp) fun t H9 nt f9 et => ?_
        have F8 : Fr [h, c] H H8 := (F4.trans (f6.trans f7).nil).trans f8
        have p8 := f8.at2 ((f6.trans f7).at p4) nph npc
        walk_at "rh"
        refine rd_app (f9.at p8) (by omega) fun H10 f10 k10 e10 => ?_
        walk_at "rh"
        have rs : Rp K H9 (encS (.say ex)) (.ref t) := Rp2 et (re.mono f9.kp0)
        have kk : Kp H' H10 := ((((k4.trans f6.kp0).trans f7.kp0).trans (hat7.kp f8)).trans f9.kp0).trans k10
        refine ⟨laps, e, r ++ [.say ex], vs ++ [.ref t], _, _, _, _, _, rfl, (F8.trans f9.nil).then1 f10 fp, (hat8.mono f9).mono1 f10 nph npc, f10.at1 (f9.at (f8.at2 ((f6.trans f7).at lw4) nwh nwc)) npw.symm, f10.at1 (f9.at (f8.at2 ((f6.trans f7).at l4) nlh nlc)) npl.symm, hR.push (s := .say ex) kk e10 (rs.mono k10), gd_app (b := [.say ex]) hg ⟨⟨by omega, se⟩, trivial⟩, by simp; omega, ?_, ?_, hlaps⟩
        · rw [cntL_app]; simp only [cntL, cntS]; omega
        · rw [depL_app]; simp only [depL, depS]; omega
      walk_at "rs"
      refine ite2 (fun _ => say) (fun _ => ?_)
      walk_at "rs"
      by_cases hl3 : 2 < laps
      · rw [decide_eq_true hl3]; exact say
      rw [decide_eq_false hl3]
      refine hU _ ?_
      clear hT hU say
      obtain ⟨he0, hd2⟩ : e = 0 ∧ d ≤ 2 := by
        rcases hlaps with z | z <;> omega
      subst he0
      rw [Nat.zero_mul] at hcnt
      obtain ⟨g, ag, gg, gl⟩ := guard_at nm (i := (d : Int)) (by omega) (by omega)
      walk_at "rs"
      with_reducible refine rd_seq ?_
      walk_at "rs"
      with_reducible refine rd_seqc fun N4 hN4 => ?_
      have kp4 : Kp H' H4 := k4
      -- the row so far, then the lap
      have fin : ∀ (r1 : List Sm) (vs1 : List V) (u : Option V) (H6 : Hp), Fr [h, c] H H6 → HAt H6 h c n → H6 lw = some (.lst (ns.map V.str)) → H6 l = some (.lst (xs.map V.str)) → RowI K H6 pp r1 vs1 → gdL (Gs xs) (lastN xs) 6 r1 → r1.length ≤ i + 1 → cntL r1 ≤ i + 1 → depL r1 ≤ 3 - d →
          N4 [some (.ref h), some (.ref l), some (.int (d : Int)), some (.bl odd), some (.ref pp), some (.ref lw), some (.int 3), some (.int (0 + (i : Int))), some (.int way), u9, u10, u] H6 := fun r1 vs1 u H6 f6 hat6 lw6 l6 hR1 hg1 hlen1 hcnt1 hdep1 => by
        refine hN4 _ _ ?_
        have p6 := hR1.at_
        walk_at "rh"
        refine ⟨h, c, l, xs, d, odd, rfl, nm, hat6, l6, nlh, nlc, hd2, hj, fun v g m r2 H7 f7 hat7 gs dr cr rs => ?_⟩
        have hvl1 := hR1.len
        walk_at "rh"
        refine rd_app (f7.at2 hR1.at_ nph npc) (by omega) fun H8 f8 k8 e8 => ?_
        walk_at "rh"
        have kk : Kp H6 H8 := (hat6.kp f7).trans k8
        refine ⟨3, 1, r1 ++ [.lap g m r2], vs1 ++ [v], _, _, _, _, _, rfl, (f6.trans f7).then1 f8 fp, hat7.mono1 f8 nph npc, f8.at1 (f7.at2 lw6 nwh nwc) npw.symm, f8.at1 (f7.at2 l6 nlh nlc) npl.symm, hR1.push (s := .lap g m r2) kk e8 (rs.mono k8), gd_app hg1 ⟨gs, trivial⟩, by simp; omega, ?_, ?_, .inr ⟨rfl, rfl, hd2⟩⟩
        · rw [cntL_app]; simp only [cntL, cntS]; omega
        · rw [depL_app]; simp only [depL, depS]; omega
      have R4 : RowI K H4 pp r vs := ⟨p4, hR.rp.mono k4⟩
      refine rd_ifc fun N5 hT hU => ?_
      have yes : ∀ H5, Fr [h, c] H4 H5 → HAt H5 h c n → N5 true H5 := fun H5 f5 hat5 => by
        refine hT _ ?_
        with_reducible refine rd_seq ?_
        walk_at "rs"
        walk_at "nx"
        intro a H6 a0 a1 f6 k6 hat6
        walk_at "rs"
        refine rd_newT (by simp) fun t7 H7 nt7 f7 e7 => ?_
        walk_at "rs"
        refine rd_newL (by simp) fun sl H8 nsl f8 e8 => ?_
        have hat8 := (hat6.mono f7).mono f8
        have ⟨nsh, nsc⟩ := (hat6.mono f7).new nsl
        have F8 : Fr [h, c] H4 H8 := (f5.trans f6).trans (f7.trans f8).nil
        have l8 := F8.at2 l4 nlh nlc
        have p8 := F8.at2 p4 nph npc
        have lw8 := F8.at2 lw4 nwh nwc
        have nsp : sl ≠ pp := (ne_of_none (((f7.at ((f5.trans f6).at2 p4 nph npc)))) nsl).symm
        have nslw : sl ≠ lw := (ne_of_none (((f7.at ((f5.trans f6).at2 lw4 nwh nwc)))) nsl).symm
        have nsll : sl ≠ l := (ne_of_none (((f7.at ((f5.trans f6).at2 l4 nlh nlc)))) nsl).symm
        have hsl0 : H sl = none := (F4.trans (f5.trans f6)).freeM (f7.free nsl) (by simp [nsh, nsc])
        walk_at "rs"
        with_reducible refine rd_seq ?_
        walk_at "rh"
        obtain ⟨g1, ag1, gg1, gl1⟩ := guard_at nm (i := if (d : Int) - 1 > 0 then (d : Int) - 1 else 0) (by split <;> omega) (by split <;> omega)
        refine rd_ixH l8 ag1 ?_
        walk_at "rh"
        refine rd_newT (by simp) fun t9 H9 nt9 f9 e9 => ?_
        walk_at "rh"
        refine c_next (hat8.mono f9) (by omega) fun b H10 b0 b1 f10 k10 hat10 => ?_
        walk_at "rh"
        refine rd_newT (by simp) fun t11 H11 nt11 f11 e11 => ?_
        walk_at "rh"
        refine rd_newT (by simp) fun t12 H12 nt12 f12 e12 => ?_
        walk_at "rh"
        have F12 : Fr [h, c] H8 H12 := (f9.nil.trans f10).trans (f11.trans f12).nil
        have s12 := F12.at2 e8 nsh nsc
        refine rd_app s12 (by simp) fun H13 f13 k13 e13 => ?_
        walk_at "rh"
        have l13 := f13.at1 (F12.at2 l8 nlh nlc) nsll.symm
        have p13 := f13.at1 (F12.at2 p8 nph npc) nsp.symm
        have lw13 := f13.at1 (F12.at2 lw8 nwh nwc) nslw.symm
        have hat13 := ((hat10.mono f11).mono f12).mono1 f13 nsh nsc
        walk_at "rh"
        refine rd_ixH l13 ag ?_
        walk_at "rh"
        refine c_next hat13 (by omega) fun z H14 z0 z1 f14 k14 hat14 => ?_
        obtain ⟨u, hu, au⟩ := atI_in (vs := [V.ref t7] ++ [.ref t12]) z0 (by simpa using z1)
        refine rd_ixH (f14.at2 e13 nsh nsc) au ?_
        walk_at "rh"
        refine rd_newT (by simp) fun t15 H15 nt15 f15 e15 => ?_
        walk_at "rh"
        have k7 : Kp H7 H14 := (((((f8.kp0.trans f9.kp0).trans k10).trans f11.kp0).trans f12.kp0).trans k13).trans k14
        have k12 : Kp H12 H14 := k13.trans k14
        have hu2 : ∃ ex, depE ex ≤ 1 ∧ smE ex ∧ GoodSet (Gs xs) (lastN xs) g ex ∧ Rp K H14 (encE ex) u := by
          simp only [List.cons_append, List.nil_append, List.mem_cons, List.not_mem_nil, or_false] at hu
          rcases hu with rfl | rfl
          · exact ⟨.num a, Nat.zero_le _, by show 0 ≤ a ∧ a ≤ 999; omega, good_num gl (by omega), (show Rp K H7 (encE (.num a)) (.ref t7) from Rp2 e7 rfl).mono k7⟩
          · exact ⟨.add (.name g1) (.num b), by simp [depE], ⟨gg1, by show 0 ≤ b ∧ b ≤ 999; omega⟩, good_next gl gg1 (by omega),
              (show Rp K H12 (encE (.add (.name g1) (.num b))) (.ref t12) from Rp3 e12 ((((show Rp K H9 (encE (.name g1)) (.ref t9) from Rp2 e9 rfl).mono k10).mono f11.kp0).mono f12.kp0) ((show Rp K H11 (encE (.num b)) (.ref t11) from Rp2 e11 rfl).mono f12.kp0)).mono k12⟩
        obtain ⟨ex, dx, sx, gx, rx⟩ := hu2
        have p15 := f15.at (f14.at2 p13 nph npc)
        have hvl4 := R4.len
        refine rd_app p15 (by omega) fun H16 f16 k16 e16 => ?_
        walk_at "rh"
        have rs : Rp K H15 (encS (.set g ex)) (.ref t15) := Rp3 e15 rfl (rx.mono f15.kp0)
        have kk : Kp H4 H16 := (((((hat4.kp (f5.trans f6)).trans f7.kp0).trans k7).trans f15.kp0).trans k16)
        have hF : Fr [h, c] H H13 := (((F4.trans F8).trans F12).then1 f13 hsl0)
        refine fin (r ++ [.set g ex]) (vs ++ [.ref t15]) _ H16 (((hF.trans f14).trans f15.nil).then1 f16 fp) ((hat14.mono f15).mono1 f16 nph npc) (f16.at1 (f15.at (f14.at2 lw13 nwh nwc)) npw.symm) (f16.at1 (f15.at (f14.at2 l13 nlh nlc)) npl.symm) (R4.push (s := .set g ex) kk e16 (rs.mono k16)) (gd_app (b := [.set g ex]) hg ⟨⟨by omega, sx, gx⟩, trivial⟩) (by simp; omega) ?_ ?_
        · rw [cntL_app]; simp only [cntL, cntS]; omega
        · rw [depL_app]; simp only [depL, depS]; omega
      walk_at "rs"
      refine ite2 (fun _ => yes H4 (Fr.refl _ _) hat4) (fun _ => ?_)
      walk_at "rs"
      walk_at "nx"
      intro z H5 z0 z1 f5 k5 hat5
      walk_at "rs"
      cases hdec : decide (V.int z = V.int 0) with
      | true => exact yes H5 f5 hat5
      | false =>
        refine hU _ ?_
        walk_at "rs"
        exact fin r vs _ H5 (F4.trans f5) hat5 (f5.at2 lw4 nwh nwc) (f5.at2 l4 nlh nlc) ⟨f5.at2 p4 nph npc, (hR.rp.mono k4).mono k5⟩ hg (by omega) (by omega) hdep
  · obtain ⟨laps, e, r, vs, u7, u8, u9, u10, u11, rfl, f', hat', lw', l', hR, hg, hlen, hcnt, hdep, hlaps⟩ := hσ
    refine hN _ _ ?_
    walk_at "rh"
    refine rd_tupL (SqL.of hR.at_) fun t4 H4 nt4 f4 e4 => ?_
    walk_at "rh"
    refine rd_newT (by simp) fun t5 H5 nt5 f5 e5 => ?_
    walk_at "rh"
    have hm3 : (1 + m - 0).toNat ≤ 3 := by omega
    refine q _ r H5 ((f'.trans f4.nil).trans f5.nil) ((hat'.mono f4).mono f5) hg ?_ ?_ hdep ?_ (Rp2 e5 ((show Rp K H4 (.tup (encL r)) (.ref t4) from ⟨t4, _, rfl, SqT.of e4, hR.rp.mono f4.kp0⟩).mono f5.kp0))
    · rcases hlaps with z | z <;> omega
    · intro hd3
      rcases hlaps with z | z
      · rw [z.1] at hcnt; omega
      · omega
    · rcases hlaps with z | z
      · rw [z.1] at hcnt; omega
      · rw [z.1] at hcnt; omega
end
end Lf
namespace Lf
open PySem PySem.Spec PyProof.Rows L2
/-! ### drawn programs are let by -/
def bE : Ex → B
  | .num n => .tup [.str "num", .int n]
  | .name x => .tup [.str "name", .str x]
  | .add a b => .tup [.str "add", bE a, bE b]
  | .mul a b => .tup [.str "times", bE a, bE b]
mutual
def bS : Sm → B
  | .say e => .tup [.str "say", bE e]
  | .set x e => .tup [.str "set", .str x, bE e]
  | .lap g m r => .tup [.str "lap", .str g, bE m, .tup [.str "row", .tup (bL r)]]
def bL : List Sm → List B
  | [] => []
  | s :: r => bS s :: bL r
end
def bR (r : List Sm) : B := .tup [.str "row", .tup (bL r)]
theorem okC.len {x : Str} (h : okC x) : x.length ≤ 8 := by
  have h := h.2
  simp only [okName, Bool.and_eq_true, decide_eq_true_eq] at h
  exact h.1.2
section
variable {K : PySem.W.Frag} {H : Hp} {t : Addr} {b c d e f : B} {v u x y z : V}
theorem rs_ (s : Str) (h : s.length ≤ 1000 := by decide +kernel) : Rb K H (.str s) (.str s) := ⟨rfl, h⟩
theorem rb0 (h : SqT K H t []) : Rb K H (.tup []) (.ref t) := ⟨t, _, rfl, h, by simp, rfl⟩
theorem rb1 (h : SqT K H t [v]) (h1 : Rb K H b v) : Rb K H (.tup [b]) (.ref t) := ⟨t, _, rfl, h, by simp, _, _, rfl, h1, rfl⟩
theorem rb2 (h : SqT K H t [v, u]) (h1 : Rb K H b v) (h2 : Rb K H c u) : Rb K H (.tup [b, c]) (.ref t) := ⟨t, _, rfl, h, by simp, _, _, rfl, h1, _, _, rfl, h2, rfl⟩
theorem rb3 (h : SqT K H t [v, u, x]) (h1 : Rb K H b v) (h2 : Rb K H c u) (h3 : Rb K H d x) : Rb K H (.tup [b, c, d]) (.ref t) := ⟨t, _, rfl, h, by simp, _, _, rfl, h1, _, _, rfl, h2, _, _, rfl, h3, rfl⟩
theorem rb4 (h : SqT K H t [v, u, x, y]) (h1 : Rb K H b v) (h2 : Rb K H c u) (h3 : Rb K H d x) (h4 : Rb K H e y) : Rb K H (.tup [b, c, d, e]) (.ref t) := ⟨t, _, rfl, h, by simp, _, _, rfl, h1, _, _, rfl, h2, _, _, rfl, h3, _, _, rfl, h4, rfl⟩
theorem rb5 (h : SqT K H t [v, u, x, y, z]) (h1 : Rb K H b v) (h2 : Rb K H c u) (h3 : Rb K H d x) (h4 : Rb K H e y) (h5 : Rb K H f z) : Rb K H (.tup [b, c, d, e, f]) (.ref t) := ⟨t, _, rfl, h, by simp, _, _, rfl, h1, _, _, rfl, h2, _, _, rfl, h3, _, _, rfl, h4, _, _, rfl, h5, rfl⟩
end
section
variable {K : PySem.W.Frag} {H : Hp} {G : Str → Prop} {last : Str} {W : Nat}
theorem cvE : ∀ {e : Ex} {v : V}, smE e → Rp K H (encE e) v → Rb K H (bE e) v
  | .num n, _, _, ⟨a, _, rfl, s, _, _, rfl, rfl, _, _, rfl, rfl, rfl⟩ => rb2 s (rs_ "num") rfl
  | .name x, _, h, ⟨a, _, rfl, s, _, _, rfl, rfl, _, _, rfl, rfl, rfl⟩ => rb2 s (rs_ "name") (rs_ x (by have := okC.len (show okC x from h); omega))
  | .add e1 e2, _, h, ⟨a, _, rfl, s, _, _, rfl, rfl, _, _, rfl, h1, _, _, rfl, h2, rfl⟩ => rb3 s (rs_ "add") (cvE h.1 h1) (cvE h.2 h2)
  | .mul e1 e2, _, h, ⟨a, _, rfl, s, _, _, rfl, rfl, _, _, rfl, h1, _, _, rfl, h2, rfl⟩ => rb3 s (rs_ "times") (cvE h.1 h1) (cvE h.2 h2)
theorem cnt_len : ∀ r : List Sm, r.length ≤ cntL r
  | [] => Nat.le_refl _
  | s :: r => by
    have := cnt_len r
    have h1 : 1 ≤ cntS s := by cases s <;> simp [cntS]
    simp only [List.length_cons, cntL]; omega
mutual
theorem cvS : ∀ {s : Sm} {v : V}, gdS G last W s → cntS s ≤ 1000 → Rp K H (encS s) v → Rb K H (bS s) v
  | .say e, _, g, _, ⟨a, _, rfl, s, _, _, rfl, rfl, _, _, rfl, h1, rfl⟩ => rb2 s (rs_ "say") (cvE g.2 h1)
  | .set x e, _, g, _, ⟨a, _, rfl, s, _, _, rfl, rfl, _, _, rfl, rfl, _, _, rfl, h2, rfl⟩ => rb3 s (rs_ "set") (rs_ x (by have := okC.len (show okC x from g.2.2); omega)) (cvE g.2.1 h2)
  | .lap x m r, _, g, hc, h => by
    obtain ⟨a, _, rfl, s, _, _, rfl, rfl, _, _, rfl, rfl, v2, _, rfl, h2, v3, _, rfl, h3, rfl⟩ := h
    obtain ⟨a2, _, rfl, s2, _, _, rfl, rfl, v4, _, rfl, h4, rfl⟩ := h3
    obtain ⟨a3, vs, rfl, s3, hr⟩ := h4
    refine rb4 s (rs_ "lap") (rs_ x (by have := okC.len g.2.2.1; omega)) (cvE g.2.1 h2) (rb2 s2 (rs_ "row") ⟨a3, vs, rfl, s3, ?_, cvL g.2.2.2 (by simp only [cntS] at hc; omega) hr⟩)
    have l1 := RpL.length hr
    have l2 := cnt_len r
    have l3 : (encL r).length = r.length := encL_len r
    simp only [cntS] at hc; omega
theorem cvL : ∀ {r : List Sm} {vs : List V}, gdL G last W r → cntL r ≤ 1000 → RpL K H (encL r) vs → RbL K H (bL r) vs
  | [], _, _, _, h => h
  | s :: r, _, g, hc, ⟨v, vs, e, h1, h2⟩ => ⟨v, vs, e, cvS g.1 (by simp only [cntL] at hc; omega) h1, cvL g.2 (by simp only [cntL] at hc; omega) h2⟩
end
theorem cvR {r : List Sm} {v : V} (g : gdL G last W r) (hc : cntL r ≤ 1000) (h : Rp K H (encR r) v) : Rb K H (bR r) v := by
  obtain ⟨a, _, rfl, s, _, _, rfl, rfl, _, _, rfl, ⟨a3, vs, rfl, s3, hr⟩, rfl⟩ := h
  refine rb2 s (rs_ "row") ⟨a3, vs, rfl, s3, ?_, cvL g hc hr⟩
  have l1 := RpL.length hr
  have l2 := cnt_len r
  have l3 : (encL r).length = r.length := encL_len r
  omega
theorem ok_bE : ∀ {e : Ex} {m : Nat}, smE e → depE e < m → okPart m (bE e) = true
  | .num n, m + 1, h, _ => by
    obtain ⟨h1, h2⟩ := h
    show okBody (okPart m) "num" [.int n] = true
    simp [okBody, okNum, h1, h2]
  | .name x, m + 1, h, _ => by
    show okBody (okPart m) "name" [.str x] = true
    unfold okBody
    rw [if_neg (by decide), if_pos rfl]
    exact h.2
  | .add a b, m + 1, h, hd => by
    simp only [depE] at hd
    show okBody (okPart m) "add" [bE a, bE b] = true
    unfold okBody
    rw [if_neg (by decide), if_neg (by decide), if_pos (.inl rfl)]
    simp only [ok_bE h.1 (show depE a < m by omega), ok_bE h.2 (show depE b < m by omega), Bool.and_self]
  | .mul a b, m + 1, h, hd => by
    simp only [depE] at hd
    show okBody (okPart m) "times" [bE a, bE b] = true
    unfold okBody
    rw [if_neg (by decide), if_neg (by decide), if_pos (.inr rfl)]
    simp only [ok_bE h.1 (show depE a < m by omega), ok_bE h.2 (show depE b < m by omega), Bool.and_self]
mutual
theorem ok_bS : ∀ {s : Sm} {m : Nat}, gdS G last W s → depS s ≤ m → okSt m (bS s) = some (cntS s)
  | .say e, m, g, _ => by
    rw [okSt_eq]
    show stBy _ (.tup [.str "say", bE e]) = _
    rw [st_say, if_pos (ok_bE g.2 (by have := g.1; omega))]
    rfl
  | .set x e, m, g, _ => by
    rw [okSt_eq]
    show stBy _ (.tup [.str "set", .str x, bE e]) = _
    rw [st_set, if_pos ⟨(show okC x from g.2.2).2, ok_bE g.2.1 (by have := g.1; omega)⟩]
    rfl
  | .lap x e r, m + 1, g, hd => by
    rw [okSt_eq]
    show stBy _ (.tup [.str "lap", .str x, bE e, .tup [.str "row", .tup (bL r)]]) = _
    rw [st_lap, if_pos ⟨g.2.2.1.2, ok_bE g.2.1 (by have := g.1; omega)⟩]
    have h := ok_bL (m := m) g.2.2.2 (by simp only [depS] at hd; omega)
    simp only [gOf, rowBy, if_true, h, cntS, Option.map_some, Option.some.injEq]
    omega
  | .lap x e r, 0, g, hd => by simp [depS] at hd
theorem ok_bL : ∀ {r : List Sm} {m : Nat}, gdL G last W r → depL r ≤ m → sumO (okSt m) (bL r) = some (cntL r)
  | [], _, _, _ => rfl
  | s :: r, m, g, hd => by
    simp only [depL] at hd
    simp only [bL, sumO, ok_bS (m := m) g.1 (by omega), ok_bL (m := m) g.2 (by omega), Option.bind_some, Option.map_some, cntL]
end
theorem ok_bR {r : List Sm} (g : gdL G last W r) (hd : depL r ≤ 3) (hc : cntL r ≤ 40) : okProg (bR r) = true := by
  have e : okRow 3 (bR r) = some (cntL r) := by
    show rowBy (okSt 3) (.tup [.str "row", .tup (bL r)]) = _
    simp only [rowBy, if_true, ok_bL (m := 3) g hd]
  simp [okProg, e, hc]
end
/-! ### a bad statement spoils the program -/
theorem sumO_bad (f : B → Option Nat) : ∀ (xs ys : List B) (b : B), f b = none → sumO f (xs ++ b :: ys) = none
  | [], ys, b, h => by simp [sumO, h]
  | x :: xs, ys, b, h => by
    simp only [List.cons_append, sumO, sumO_bad f xs ys b h]
    cases f x <;> rfl
theorem row_bad {m : Nat} {xs ys : List B} {b : B} (h : okSt m b = none) : okRow m (.tup [.str "row", .tup (xs ++ b :: ys)]) = none := by
  simp only [okRow, rowBy, if_true, sumO_bad _ xs ys b h]
theorem prog_none {b : B} (h : okRow 3 b = none) : okProg b = false := by simp [okProg, h]
end Lf
namespace Lf
open PySem PySem.Spec PyProof.Rows L2
/-! ### bad parts, drawn -/
def AllB (K : PySem.W.Frag) (H : Hp) (p : B → Prop) (vs : List V) : Prop := ∀ v ∈ vs, ∃ b, Rb K H b v ∧ p b
section
variable {K : PySem.W.Frag} {H H1 : Hp} {p : B → Prop} {v : V} {vs ws : List V} {b : B}
theorem allB_nil : AllB K H p [] := fun _ z => absurd z (by simp)
theorem allB_cons (r : Rb K H b v) (h : p b) (g : AllB K H p vs) : AllB K H p (v :: vs) := fun u z => by
  rcases List.mem_cons.mp z with z | z
  · subst z; exact ⟨b, r, h⟩
  · exact g u z
theorem allB_app (h : AllB K H p vs) (g : AllB K H p ws) : AllB K H p (vs ++ ws) := fun u z => by
  rcases List.mem_append.mp z with z | z
  · exact h u z
  · exact g u z
theorem AllB.mono (h : AllB K H p vs) (k : Kb H H1) : AllB K H1 p vs := fun u z => by
  obtain ⟨b, r, q⟩ := h u z
  exact ⟨b, r.mono k, q⟩
theorem HAt.kb {h c : Addr} {n : Nat} (a : HAt H h c n) (a1 : HAt H1 h c n) (f : Fr [h, c] H H1) : Kb H H1 := ⟨a.kp f, fun l xs e => by
  obtain ⟨_, _, _, _, eh, ec, _⟩ := a1
  by_cases c1 : l = h
  · subst c1; exact ⟨_, eh⟩
  by_cases c2 : l = c
  · subst c2; exact ⟨_, ec⟩
  exact ⟨xs, f.at2 e c1 c2⟩⟩
end
theorem dep_bE : ∀ {e : Ex} {m : Nat}, okPart m (bE e) = true → depE e < m
  | .num n, m + 1, _ => by simp [depE]
  | .name x, m + 1, _ => by simp [depE]
  | .add a b, m + 1, h => by
    have h : okBody (okPart m) "add" [bE a, bE b] = true := h
    unfold okBody at h
    rw [if_neg (by decide), if_neg (by decide), if_pos (.inl rfl)] at h
    simp only [Bool.and_eq_true] at h
    have h1 := dep_bE h.1
    have h2 := dep_bE h.2
    simp only [depE]; omega
  | .mul a b, m + 1, h => by
    have h : okBody (okPart m) "times" [bE a, bE b] = true := h
    unfold okBody at h
    rw [if_neg (by decide), if_neg (by decide), if_pos (.inr rfl)] at h
    simp only [Bool.and_eq_true] at h
    have h1 := dep_bE h.1
    have h2 := dep_bE h.2
    simp only [depE]; omega
  | .num _, 0, h => by cases h
  | .name _, 0, h => by cases h
  | .add _ _, 0, h => by cases h
  | .mul _ _, 0, h => by cases h
def spBadP (K : PySem.W.Frag) (n : Nat) : Sp := fun vs H Q _ => ∃ h c, vs = [.ref h] ∧ HAt H h c n ∧ ∀ v b H2, Fr [h, c] H H2 → HAt H2 h c n → Rb K H2 b v → okPart 5 b = false → Q v H2
local macro_rules | `(tactic| walk_at "kb") => `(tactic| first
  | assumption
  | exact Lf.Kb.refl _
  | ((refine' Lf.Kb.trans ?k3 (Lf.Fr.kb0 ?k1)); (case k1 => assumption); (case k3 => (walk_at "kb")))
  | ((refine' Lf.Kb.trans ?k3 ?k1); (case k1 => assumption); (case k3 => (walk_at "kb"))))
local macro_rules | `(tactic| walk_at "fr") => `(tactic| first
  | assumption
  | exact Lf.Fr.refl _ _
  | ((refine' Lf.Fr.trans ?k3 ?k1); (case k1 => assumption); (case k3 => (walk_at "fr"))))
section
variable {P : Program} {w : World} {K : PySem.W.Frag} {mg : Str → Option Value} {base : Heap}
abbrev s__law_bad_part : Stmt := top 79
abbrev N__law_bad_part : List Str := ["_law_h", "_law_some", "_law_one", "_law_deep", "_law_k"]
theorem sc__law_bad_part : FnScope N__law_bad_part ["_law_h"] (defScope s__law_bad_part) := ⟨rfl, rfl, rfl, by decide +kernel, rfl, by decide +kernel, by decide +kernel⟩
theorem ok_badP (T : Blt mg) (n : Nat) (F : Here K mg "_law_bad_part" s__law_bad_part ["_law_h"]) (D__law_next : DefOk P w K mg base CX0 "_law_next" ["_law_h", "_law_many"] 1 (spNext n)) :
    DefOk P w K mg base CX0 "_law_bad_part" ["_law_h"] 2 (spBadP K n) := by
  refine F.ok sc__law_bad_part (fun vs H Q E h => ?_) (fun f cdv A outer s H vs Q E hr h => ?_)
  · obtain ⟨_, _, rfl, _⟩ := h; rfl
  obtain ⟨h, c, rfl, hat, q⟩ := h
  have hu64 := hr.units
  have hr__law_next := hr.mono (j := 1) (by omega)
  refine ⟨_, (pss_cons (ps_set (i := 1) sc__law_bad_part.nd rfl (Or.inl rfl) (pe_lst (pa_cons (pe_tup (pa_cons pe_str (pa_cons (pe_un un_neg pe_int) pa_nil))) (pa_cons (pe_tup (pa_cons pe_str (pa_cons pe_int pa_nil))) (pa_cons (pe_tup (pa_cons pe_str (pa_cons pe_bl pa_nil))) (pa_cons (pe_tup (pa_cons pe_str (pa_cons pe_str pa_nil))) (pa_cons (pe_tup (pa_cons pe_str pa_nil)) (pa_cons (pe_tup (pa_cons pe_str (pa_cons pe_int (pa_cons pe_int pa_nil)))) (pa_cons (pe_tup (pa_cons pe_str (pa_cons pe_str pa_nil))) pa_nil)))))))))
    (pss_cons (ps_set (i := 1) sc__law_bad_part.nd rfl (Or.inl rfl) (pe_op op_plus (pv 1) (pe_lst (pa_cons (pe_tup (pa_cons pe_str (pa_cons pe_str pa_nil))) (pa_cons (pe_tup (pa_cons pe_str (pa_cons pe_str pa_nil))) (pa_cons (pe_tup (pa_cons pe_str (pa_cons pe_str pa_nil))) (pa_cons (pe_tup (pa_cons pe_str (pa_cons pe_int pa_nil))) (pa_cons (pe_tup (pa_cons pe_str pa_nil)) pa_nil))))))))
    (pss_cons (ps_set (i := 2) sc__law_bad_part.nd rfl (Or.inl rfl) (pe_tup (pa_cons pe_str (pa_cons pe_int pa_nil))))
    (pss_cons (ps_set (i := 1) sc__law_bad_part.nd rfl (Or.inl rfl) (pe_op op_plus (pv 1) (pe_lst (pa_cons (pe_tup (pa_cons pe_str (pa_cons (pv 2) (pa_cons (pv 2) pa_nil)))) (pa_cons (pe_tup (pa_cons pe_str (pa_cons (pv 2) pa_nil))) (pa_cons (pe_tup (pa_cons pe_str (pa_cons (pv 2) (pa_cons (pv 2) (pa_cons (pv 2) pa_nil))))) (pa_cons (pe_tup (pa_cons pe_str (pa_cons pe_int (pa_cons pe_int pa_nil)))) (pa_cons (pe_tup pa_nil) (pa_cons pe_int (pa_cons pe_non (pa_cons (pe_lst (pa_cons pe_str (pa_cons pe_int pa_nil))) pa_nil)))))))))))
    (pss_cons (ps_set (i := 3) sc__law_bad_part.nd rfl (Or.inl rfl) (pe_tup (pa_cons pe_str (pa_cons pe_int pa_nil))))
    (pss_cons (ps_for PassesOwn.never rfl (pi_range1 (by rfl) T.n_range (pa_cons pe_int pa_nil)) (pg_name (i := 4) sc__law_bad_part.nd rfl (Or.inl rfl))
    (pss_one (ps_set (i := 3) sc__law_bad_part.nd rfl (Or.inl rfl) (pe_ix ix_seq (pe_lst (pa_cons (pe_tup (pa_cons pe_str (pa_cons (pv 3) (pa_cons (pe_tup (pa_cons pe_str (pa_cons pe_int pa_nil))) pa_nil)))) (pa_cons (pe_tup (pa_cons pe_str (pa_cons (pe_tup (pa_cons pe_str (pa_cons pe_int pa_nil))) (pa_cons (pv 3) pa_nil)))) pa_nil))) (pe_callD D__law_next hr__law_next pass0 (pa_cons (pv 0) (pa_cons pe_int pa_nil))) (fun _ _ => rfl)))))
    (pss_one (ps_ret (pe_ix ix_seq (pe_op op_plus (pv 1) (pe_lst (pa_cons (pv 3) pa_nil))) (pe_callD D__law_next hr__law_next pass0 (pa_cons (pv 0) (pa_cons (pe_op op_plus (pe_callB call_lenA (by rfl) T.n_len PySem.boot_len (pa_cons (pv 1) pa_nil)) pe_int) pa_nil))) (fun _ _ => rfl)))))))))), ?_⟩
  walk_at "rs"
  with_reducible refine rd_seq ?_
  walk_at "rs"
  refine rd_newT (by simp) fun t101 H101 nt101 f101 et101 => ?_
  have r101 : Rb K H101 (.tup [(.str "num"), (.int (-1))]) (.ref t101) := rb2 (SqT.of et101) (rs_ "num") rfl
  walk_at "rs"
  refine rd_newT (by simp) fun t102 H102 nt102 f102 et102 => ?_
  have r102 : Rb K H102 (.tup [(.str "num"), (.int 1000)]) (.ref t102) := rb2 (SqT.of et102) (rs_ "num") rfl
  walk_at "rs"
  refine rd_newT (by simp) fun t103 H103 nt103 f103 et103 => ?_
  have r103 : Rb K H103 (.tup [(.str "num"), (.bl true)]) (.ref t103) := rb2 (SqT.of et103) (rs_ "num") rfl
  walk_at "rs"
  refine rd_newT (by simp) fun t104 H104 nt104 f104 et104 => ?_
  have r104 : Rb K H104 (.tup [(.str "num"), (.str "1")]) (.ref t104) := rb2 (SqT.of et104) (rs_ "num") (rs_ "1")
  walk_at "rs"
  refine rd_newT (by simp) fun t105 H105 nt105 f105 et105 => ?_
  have r105 : Rb K H105 (.tup [(.str "num")]) (.ref t105) := rb1 (SqT.of et105) (rs_ "num")
  walk_at "rs"
  refine rd_newT (by simp) fun t106 H106 nt106 f106 et106 => ?_
  have r106 : Rb K H106 (.tup [(.str "num"), (.int 1), (.int 2)]) (.ref t106) := rb3 (SqT.of et106) (rs_ "num") rfl rfl
  walk_at "rs"
  refine rd_newT (by simp) fun t107 H107 nt107 f107 et107 => ?_
  have r107 : Rb K H107 (.tup [(.str "name"), (.str "")]) (.ref t107) := rb2 (SqT.of et107) (rs_ "name") (rs_ "")
  walk_at "rs"
  refine rd_newL (by simp) fun l_a H108 nl_a f108 el_a => ?_
  have R_a : AllB K H108 (okPart 5 · = false) [(.ref t101), (.ref t102), (.ref t103), (.ref t104), (.ref t105), (.ref t106), (.ref t107)] := (allB_cons (b := (.tup [(.str "num"), (.int (-1))])) (r101.mono (by walk_at "kb")) (by decide +kernel) (allB_cons (b := (.tup [(.str "num"), (.int 1000)])) (r102.mono (by walk_at "kb")) (by decide +kernel) (allB_cons (b := (.tup [(.str "num"), (.bl true)])) (r103.mono (by walk_at "kb")) (by decide +kernel) (allB_cons (b := (.tup [(.str "num"), (.str "1")])) (r104.mono (by walk_at "kb")) (by decide +kernel) (allB_cons (b := (.tup [(.str "num")])) (r105.mono (by walk_at "kb")) (by decide +kernel) (allB_cons (b := (.tup [(.str "num"), (.int 1), (.int 2)])) (r106.mono (by walk_at "kb")) (by decide +kernel) (allB_cons (b := (.tup [(.str "name"), (.str "")])) (r107.mono (by walk_at "kb")) (by decide +kernel) allB_nil)))))))
  walk_at "rs"
  with_reducible refine rd_seq ?_
  walk_at "rs"
  refine rd_newT (by simp) fun t109 H109 nt109 f109 et109 => ?_
  have r109 : Rb K H109 (.tup [(.str "name"), (.str "abcdefghi")]) (.ref t109) := rb2 (SqT.of et109) (rs_ "name") (rs_ "abcdefghi")
  walk_at "rs"
  refine rd_newT (by simp) fun t110 H110 nt110 f110 et110 => ?_
  have r110 : Rb K H110 (.tup [(.str "name"), (.str "A")]) (.ref t110) := rb2 (SqT.of et110) (rs_ "name") (rs_ "A")
  walk_at "rs"
  refine rd_newT (by simp) fun t111 H111 nt111 f111 et111 => ?_
  have r111 : Rb K H111 (.tup [(.str "name"), (.str "a1")]) (.ref t111) := rb2 (SqT.of et111) (rs_ "name") (rs_ "a1")
  walk_at "rs"
  refine rd_newT (by simp) fun t112 H112 nt112 f112 et112 => ?_
  have r112 : Rb K H112 (.tup [(.str "name"), (.int 5)]) (.ref t112) := rb2 (SqT.of et112) (rs_ "name") rfl
  walk_at "rs"
  refine rd_newT (by simp) fun t113 H113 nt113 f113 et113 => ?_
  have r113 : Rb K H113 (.tup [(.str "name")]) (.ref t113) := rb1 (SqT.of et113) (rs_ "name")
  walk_at "rs"
  refine rd_newL (by simp) fun l_b H114 nl_b f114 el_b => ?_
  have R_b : AllB K H114 (okPart 5 · = false) [(.ref t109), (.ref t110), (.ref t111), (.ref t112), (.ref t113)] := (allB_cons (b := (.tup [(.str "name"), (.str "abcdefghi")])) (r109.mono (by walk_at "kb")) (by decide +kernel) (allB_cons (b := (.tup [(.str "name"), (.str "A")])) (r110.mono (by walk_at "kb")) (by decide +kernel) (allB_cons (b := (.tup [(.str "name"), (.str "a1")])) (r111.mono (by walk_at "kb")) (by decide +kernel) (allB_cons (b := (.tup [(.str "name"), (.int 5)])) (r112.mono (by walk_at "kb")) (by decide +kernel) (allB_cons (b := (.tup [(.str "name")])) (r113.mono (by walk_at "kb")) (by decide +kernel) allB_nil)))))
  walk_at "rs"
  refine rd_plusL (by walk_at "hp") el_b (by rw [sizeLine_eq]; simp) fun l_c Hc nl_c f_c el_c => ?_
  have R_c := allB_app (R_a.mono (show Kb _ Hc by walk_at "kb")) (R_b.mono f_c.kb0)
  have Fc : Fr [] H Hc := by walk_at "fr"
  have hatc := hat.mono Fc
  obtain ⟨vc, Lc, el_c, R_c⟩ : ∃ vc : List V, vc.length = 12 ∧ Hc l_c = some (.lst vc) ∧ AllB K Hc (okPart 5 · = false) vc := ⟨_, rfl, el_c, R_c⟩
  walk_at "rs"
  with_reducible refine rd_seq ?_
  walk_at "rs"
  refine rd_newT (by simp) fun t115 H115 nt115 f115 et115 => ?_
  have r115 : Rb K H115 (.tup [(.str "num"), (.int 1)]) (.ref t115) := rb2 (SqT.of et115) (rs_ "num") rfl
  walk_at "rs"
  have r_one := r115
  with_reducible refine rd_seq ?_
  walk_at "rs"
  refine rd_newT (by simp) fun t116 H116 nt116 f116 et116 => ?_
  have r116 : Rb K H116 (.tup [(.str "less"), (.tup [(.str "num"), (.int 1)]), (.tup [(.str "num"), (.int 1)])]) (.ref t116) := rb3 (SqT.of et116) (rs_ "less") (r115.mono (by walk_at "kb")) (r115.mono (by walk_at "kb"))
  walk_at "rs"
  refine rd_newT (by simp) fun t117 H117 nt117 f117 et117 => ?_
  have r117 : Rb K H117 (.tup [(.str "add"), (.tup [(.str "num"), (.int 1)])]) (.ref t117) := rb2 (SqT.of et117) (rs_ "add") (r115.mono (by walk_at "kb"))
  walk_at "rs"
  refine rd_newT (by simp) fun t118 H118 nt118 f118 et118 => ?_
  have r118 : Rb K H118 (.tup [(.str "add"), (.tup [(.str "num"), (.int 1)]), (.tup [(.str "num"), (.int 1)]), (.tup [(.str "num"), (.int 1)])]) (.ref t118) := rb4 (SqT.of et118) (rs_ "add") (r115.mono (by walk_at "kb")) (r115.mono (by walk_at "kb")) (r115.mono (by walk_at "kb"))
  walk_at "rs"
  refine rd_newT (by simp) fun t119 H119 nt119 f119 et119 => ?_
  have r119 : Rb K H119 (.tup [(.str "times"), (.int 1), (.int 2)]) (.ref t119) := rb3 (SqT.of et119) (rs_ "times") rfl rfl
  walk_at "rs"
  refine rd_newT (by simp) fun t120 H120 nt120 f120 et120 => ?_
  have r120 : Rb K H120 (.tup []) (.ref t120) := rb0 (SqT.of et120) 
  walk_at "rs"
  refine rd_newL (by simp) fun t121 H121 nt121 f121 et121 => ?_
  have r121 : Rb K H121 .lst (.ref t121) := ⟨t121, _, rfl, et121⟩
  walk_at "rs"
  refine rd_newL (by simp) fun l_d H122 nl_d f122 el_d => ?_
  have R_d : AllB K H122 (okPart 5 · = false) [(.ref t116), (.ref t117), (.ref t118), (.ref t119), (.ref t120), (.int 7), .non, (.ref t121)] := (allB_cons (b := (.tup [(.str "less"), (.tup [(.str "num"), (.int 1)]), (.tup [(.str "num"), (.int 1)])])) (r116.mono (by walk_at "kb")) (by decide +kernel) (allB_cons (b := (.tup [(.str "add"), (.tup [(.str "num"), (.int 1)])])) (r117.mono (by walk_at "kb")) (by decide +kernel) (allB_cons (b := (.tup [(.str "add"), (.tup [(.str "num"), (.int 1)]), (.tup [(.str "num"), (.int 1)]), (.tup [(.str "num"), (.int 1)])])) (r118.mono (by walk_at "kb")) (by decide +kernel) (allB_cons (b := (.tup [(.str "times"), (.int 1), (.int 2)])) (r119.mono (by walk_at "kb")) (by decide +kernel) (allB_cons (b := (.tup [])) (r120.mono (by walk_at "kb")) (by decide +kernel) (allB_cons (b := (.int 7)) rfl (by decide +kernel) (allB_cons (b := .non) rfl (by decide +kernel) (allB_cons (b := .lst) (r121.mono (by walk_at "kb")) (by decide +kernel) allB_nil))))))))
  walk_at "rs"
  have Fd : Fr [] Hc H122 := by walk_at "fr"
  refine rd_plusL (Fd.at el_c) el_d (by rw [sizeLine_eq, Lc]; simp) fun l_e He nl_e f_e el_e => ?_
  have R_e := allB_app (R_c.mono (Fd.trans f_e).kb0) (R_d.mono f_e.kb0)
  have Fe : Fr [] H He := (Fc.trans Fd).trans f_e
  have ⟨neh, nec⟩ := (hat.mono (Fc.trans Fd)).new nl_e
  obtain ⟨ve, Le, el_e, R_e⟩ : ∃ ve : List V, ve.length = 20 ∧ He l_e = some (.lst ve) ∧ AllB K He (okPart 5 · = false) ve := ⟨_, by rw [List.length_append, Lc]; rfl, el_e, R_e⟩
  have hate := hat.mono Fe
  walk_at "rs"
  with_reducible refine rd_seq ?_
  walk_at "rs"
  refine rd_newT (by simp) fun t123 H123 nt123 f123 et123 => ?_
  have r123 : Rb K H123 (.tup [(.str "num"), (.int 1)]) (.ref t123) := rb2 (SqT.of et123) (rs_ "num") rfl
  walk_at "rs"
  have r_deep := r123
  have kef : Kb He H123 := by walk_at "kb"
  have ed : H123 l_e = some (.lst ve) := by walk_at "hp"
  have Ff : Fr [] H H123 := by walk_at "fr"
  have hatf := hat.mono Ff
  with_reducible refine rd_seqc fun N hN => ?_
  walk_at "rs"
  refine rd_forR (fun i σ H' => ∃ v u e, σ = [some (.ref h), some (.ref l_e), some (.ref t115), some v, u] ∧ Fr [h, c] H H' ∧ HAt H' h c n ∧ H' l_e = some (.lst ve) ∧ Kb He H' ∧ Rb K H' (bE e) v ∧ depE e = i)
    ⟨_, _, .num 1, rfl, Ff.nil, hatf, ed, kef, r_deep, rfl⟩ (fun i σ H' hi hσ => ?_) (fun σ H' hσ => ?_)
  · obtain ⟨v, u, e, rfl, f', hat', e', k', re, de⟩ := hσ
    clear hN
    walk_at "rs"
    refine rd_newT (by simp) fun t124 H124 nt124 f124 et124 => ?_
    have r124 : Rb K H124 (.tup [(.str "num"), (.int 1)]) (.ref t124) := rb2 (SqT.of et124) (rs_ "num") rfl
    walk_at "rs"
    refine rd_newT (by simp) fun t125 H125 nt125 f125 et125 => ?_
    have r125 : Rb K H125 (.tup [(.str "add"), (bE e), (.tup [(.str "num"), (.int 1)])]) (.ref t125) := rb3 (SqT.of et125) (rs_ "add") (re.mono (by walk_at "kb")) (r124.mono (by walk_at "kb"))
    walk_at "rs"
    refine rd_newT (by simp) fun t126 H126 nt126 f126 et126 => ?_
    have r126 : Rb K H126 (.tup [(.str "num"), (.int 0)]) (.ref t126) := rb2 (SqT.of et126) (rs_ "num") rfl
    walk_at "rs"
    refine rd_newT (by simp) fun t127 H127 nt127 f127 et127 => ?_
    have r127 : Rb K H127 (.tup [(.str "times"), (.tup [(.str "num"), (.int 0)]), (bE e)]) (.ref t127) := rb3 (SqT.of et127) (rs_ "times") (r126.mono (by walk_at "kb")) (re.mono (by walk_at "kb"))
    walk_at "rs"
    refine rd_newL (by simp) fun l_g H128 nl_g f128 el_g => ?_
    have R_g : AllB K H128 (fun b => ∃ e' : Ex, b = bE e' ∧ depE e' = i + 1) [(.ref t125), (.ref t127)] := (allB_cons (b := (.tup [(.str "add"), (bE e), (.tup [(.str "num"), (.int 1)])])) (r125.mono (by walk_at "kb")) (by first | exact ⟨.add e (.num 1), rfl, by simp [depE]; omega⟩ | exact ⟨.mul (.num 0) e, rfl, by simp [depE]; omega⟩) (allB_cons (b := (.tup [(.str "times"), (.tup [(.str "num"), (.int 0)]), (bE e)])) (r127.mono (by walk_at "kb")) (by first | exact ⟨.add e (.num 1), rfl, by simp [depE]; omega⟩ | exact ⟨.mul (.num 0) e, rfl, by simp [depE]; omega⟩) allB_nil))
    walk_at "rs"
    have Fg : Fr [] H' H128 := by walk_at "fr"
    have hatg := hat'.mono Fg
    have ⟨ngh, ngc⟩ := (hat'.mono (show Fr [] H' H127 by walk_at "fr")).new nl_g
    refine c_next hatg (by omega) fun j Hj j0 j1 fj kj hatj => ?_
    obtain ⟨u2, hu2, au2⟩ := atI_in (vs := [_, _]) j0 (by simpa using j1)
    refine rd_ixH (fj.at2 el_g ngh ngc) au2 ?_
    obtain ⟨_, ru, e2, rfl, de2⟩ := R_g u2 hu2
    walk_at "rs"
    have kgj := hatg.kb hatj fj
    exact ⟨u2, _, e2, rfl, (f'.trans Fg.nil).trans fj, hatj, fj.at2 (Fg.at e') neh nec, (k'.trans Fg.kb0).trans kgj, ru.mono kgj, de2⟩
  · obtain ⟨v, u, e, rfl, f', hat', e', k', re, de⟩ := hσ
    refine hN _ _ ?_
    walk_at "rs"
    refine rd_newL (by simp) fun l_m Hm nl_m fm em => ?_
    refine rd_plusL (fm.at e') em (by rw [sizeLine_eq, Le]; simp) fun l_n Hn nl_n fn en => ?_
    walk_at "rs"
    have hatn := (hat'.mono fm).mono fn
    have ⟨nnh, nnc⟩ := (hat'.mono fm).new nl_n
    have R_n : AllB K Hn (okPart 5 · = false) (ve ++ [v]) := allB_app (R_e.mono ((k'.trans fm.kb0).trans fn.kb0)) (allB_cons ((re.mono fm.kb0).mono fn.kb0) (by
      cases hd : okPart 5 (bE e) with
      | false => rfl
      | true => have := dep_bE hd; omega) allB_nil)
    have e20 := (fm.trans fn).at e'
    try (refine rd_lenH e20 ?_; walk_at "rs")
    rw [Le]
    refine c_next hatn (by omega) fun j Hj j0 j1 fj kj hatj => ?_
    obtain ⟨u2, hu2, au2⟩ := atI_in (vs := ve ++ [v]) j0 (by rw [List.length_append, Le]; simpa using j1)
    refine rd_ixH (fj.at2 en nnh nnc) au2 ?_
    obtain ⟨b2, ru, hb2⟩ := R_n u2 hu2
    walk_at "rs"
    exact q u2 b2 Hj (((f'.trans fm.nil).trans fn.nil).trans fj) hatj (ru.mono (hatn.kb hatj fj)) hb2
end
end Lf
namespace Lf
open PySem PySem.Spec PyProof.Rows L2
/-! ### bad statements, drawn -/
def badS (b : B) : Prop := okSt 3 b = none ∧ okSt 2 b = none
instance (b : B) : Decidable (badS b) := inferInstanceAs (Decidable (_ ∧ _))
theorem badS_set {b : B} (h : okPart 5 b = false) : badS (.tup [.str "set", .str "a", b]) := by
  constructor <;> (rw [okSt_eq, st_set, if_neg (by rw [h]; simp)])
theorem badS_say {b : B} (h : okPart 5 b = false) : badS (.tup [.str "say", b]) := by
  constructor <;> (rw [okSt_eq, st_say, if_neg (by rw [h]; simp)])
theorem badS_lap {b c : B} (h : okPart 5 b = false) : badS (.tup [.str "lap", .str "a", b, c]) := by
  constructor <;> (rw [okSt_eq, st_lap, if_neg (by rw [h]; simp)])
def lapDeep : Nat → B → Prop
  | 0, _ => True
  | j + 1, b => ∃ x y b', b = .tup [.str "row", .tup [.tup [.str "lap", x, y, b']]] ∧ lapDeep j b'
theorem deep_bad : ∀ {j m : Nat} {b : B}, lapDeep j b → m < j → okRow m b = none
  | j + 1, m, b, ⟨x, y, b', e, h⟩, hm => by
    subst e
    have key : okSt m (.tup [.str "lap", x, y, b']) = none := by
      rw [okSt_eq, st_lap]
      split
      · cases m with
        | zero => rfl
        | succ m =>
          have q : okRow m b' = none := deep_bad h (by omega)
          show Option.map _ (rowBy (okSt m) b') = none
          rw [show rowBy (okSt m) b' = none from q]; rfl
      · rfl
    exact row_bad (xs := []) (ys := []) key
theorem deep_st {x y b : B} (h : lapDeep 3 b) : badS (.tup [.str "lap", x, y, b]) := by
  constructor
  · rw [okSt_eq, st_lap]
    split
    · show Option.map _ (okRow 2 b) = none
      rw [deep_bad h (by omega)]; rfl
    · rfl
  · rw [okSt_eq, st_lap]
    split
    · show Option.map _ (okRow 1 b) = none
      rw [deep_bad h (by omega)]; rfl
    · rfl
theorem abcd_nat : ∀ j : Nat, j < 4 → ("abcd" : Str).cps.toList[j]? = some (97 + j) := by decide +kernel
theorem abcd_at {i : Nat} (h : i < 4) : atI ("abcd" : Str).cps.toList (0 + (i : Int)) = some (97 + i) := by
  rw [Int.zero_add]
  exact atI_nat (abcd_nat i h)
theorem rs1 {K : PySem.W.Frag} {H : Hp} {c : Nat} : Rb K H (.str ⟨#[c]⟩) (.str ⟨#[c]⟩) := ⟨rfl, by show 1 ≤ 1000; decide⟩
def spBad (K : PySem.W.Frag) (n : Nat) : Sp := fun vs H Q _ => ∃ h c, vs = [.ref h] ∧ HAt H h c n ∧ ∀ v b H2, Fr [h, c] H H2 → HAt H2 h c n → Rb K H2 b v → badS b → Q v H2
local macro_rules | `(tactic| walk_at "kb") => `(tactic| first
  | assumption
  | exact Lf.Kb.refl _
  | ((refine' Lf.Kb.trans ?k3 (Lf.Fr.kb0 ?k1)); (case k1 => assumption); (case k3 => (walk_at "kb")))
  | ((refine' Lf.Kb.trans ?k3 ?k1); (case k1 => assumption); (case k3 => (walk_at "kb"))))
local macro_rules | `(tactic| walk_at "fr") => `(tactic| first
  | assumption
  | exact Lf.Fr.refl _ _
  | ((refine' Lf.Fr.trans ?k3 ?k1); (case k1 => assumption); (case k3 => (walk_at "fr"))))
section
variable {P : Program} {w : World} {K : PySem.W.Frag} {mg : Str → Option Value} {base : Heap}
abbrev s__law_bad : Stmt := top 80
abbrev N__law_bad : List Str := ["_law_h", "_law_bad_here", "_law_good", "_law_row_here", "_law_some", "_law_odd", "_law_deep", "_law_k"]
theorem sc__law_bad : FnScope N__law_bad ["_law_h"] (defScope s__law_bad) := ⟨rfl, rfl, rfl, by decide +kernel, rfl, by decide +kernel, by decide +kernel⟩
theorem ok_bad (T : Blt mg) (n : Nat) (F : Here K mg "_law_bad" s__law_bad ["_law_h"]) (D__law_next : DefOk P w K mg base CX0 "_law_next" ["_law_h", "_law_many"] 1 (spNext n)) (D__law_bad_part : DefOk P w K mg base CX0 "_law_bad_part" ["_law_h"] 2 (spBadP K n)) :
    DefOk P w K mg base CX0 "_law_bad" ["_law_h"] 3 (spBad K n) := by
  refine F.ok sc__law_bad (fun vs H Q E h => ?_) (fun f cdv A outer s H vs Q E hr h => ?_)
  · obtain ⟨_, _, rfl, _⟩ := h; rfl
  obtain ⟨h, c, rfl, hat0, q⟩ := h
  have hu64 := hr.units
  have hr__law_next := hr.mono (j := 1) (by omega)
  have hr__law_bad_part := hr.mono (j := 2) (by omega)
  refine ⟨_, (pss_cons (ps_set (i := 1) sc__law_bad.nd rfl (Or.inl rfl) (pe_callD D__law_bad_part hr__law_bad_part pass0 (pa_cons (pv 0) pa_nil)))
    (pss_cons (ps_set (i := 2) sc__law_bad.nd rfl (Or.inl rfl) (pe_tup (pa_cons pe_str (pa_cons pe_str pa_nil))))
    (pss_cons (ps_set (i := 3) sc__law_bad.nd rfl (Or.inl rfl) (pe_tup (pa_cons pe_str (pa_cons (pe_tup pa_nil) pa_nil))))
    (pss_cons (ps_set (i := 4) sc__law_bad.nd rfl (Or.inl rfl) (pe_lst (pa_cons (pe_tup (pa_cons pe_str (pa_cons pe_str (pa_cons (pv 1) pa_nil)))) (pa_cons (pe_tup (pa_cons pe_str (pa_cons (pv 1) pa_nil))) (pa_cons (pe_tup (pa_cons pe_str (pa_cons pe_str (pa_cons (pv 1) (pa_cons (pv 3) pa_nil))))) (pa_cons (pe_tup (pa_cons pe_str (pa_cons pe_str (pa_cons (pv 2) pa_nil)))) (pa_cons (pe_tup (pa_cons pe_str (pa_cons pe_int (pa_cons (pv 2) pa_nil)))) pa_nil)))))))
    (pss_cons (ps_set (i := 4) sc__law_bad.nd rfl (Or.inl rfl) (pe_op op_plus (pv 4) (pe_lst (pa_cons (pe_tup (pa_cons pe_str (pa_cons pe_str pa_nil))) (pa_cons (pe_tup (pa_cons pe_str pa_nil)) (pa_cons (pe_tup (pa_cons pe_str (pa_cons (pv 2) (pa_cons (pv 2) pa_nil)))) (pa_cons (pe_tup (pa_cons pe_str (pa_cons pe_str (pa_cons (pv 2) pa_nil)))) (pa_cons (pe_tup (pa_cons pe_str (pa_cons pe_str (pa_cons (pv 2) (pa_cons (pv 3) (pa_cons (pv 3) pa_nil)))))) pa_nil))))))))
    (pss_cons (ps_for PassesOwn.never rfl (pi_list (pe_lst (pa_cons (pe_tup (pa_cons pe_str (pa_cons (pv 2) pa_nil))) (pa_cons (pe_tup (pa_cons pe_str (pa_cons (pe_lst pa_nil) pa_nil))) (pa_cons (pe_tup (pa_cons pe_str pa_nil)) (pa_cons (pe_tup pa_nil) pa_nil)))))) (pg_name (i := 5) sc__law_bad.nd rfl (Or.inl rfl))
    (pss_one (ps_expr (pe_bm PySem.F.plainAttrs_list PySem.F.slot_list_append PySem.F.type_list_append mt_append (pv 4) (pa_cons (pe_tup (pa_cons pe_str (pa_cons pe_str (pa_cons (pv 2) (pa_cons (pv 5) pa_nil))))) pa_nil)))))
    (pss_cons (ps_set (i := 4) sc__law_bad.nd rfl (Or.inl rfl) (pe_op op_plus (pv 4) (pe_lst (pa_cons (pe_tup (pa_cons pe_str (pa_cons pe_str (pa_cons (pv 2) (pa_cons (pv 3) pa_nil))))) (pa_cons (pv 3) (pa_cons (pe_tup (pa_cons pe_str (pa_cons (pv 2) pa_nil))) (pa_cons (pe_tup (pa_cons pe_str (pa_cons pe_str (pa_cons (pv 2) (pa_cons (pv 2) pa_nil))))) (pa_cons (pe_tup pa_nil) (pa_cons pe_int (pa_cons pe_non (pa_cons pe_str pa_nil)))))))))))
    (pss_cons (ps_set (i := 6) sc__law_bad.nd rfl (Or.inl rfl) (pe_tup (pa_cons pe_str (pa_cons (pe_tup (pa_cons (pe_tup (pa_cons pe_str (pa_cons (pv 2) pa_nil))) pa_nil)) pa_nil))))
    (pss_cons (ps_for PassesOwn.never rfl (pi_range1 (by rfl) T.n_range (pa_cons pe_int pa_nil)) (pg_name (i := 7) sc__law_bad.nd rfl (Or.inl rfl))
    (pss_one (ps_set (i := 6) sc__law_bad.nd rfl (Or.inl rfl) (pe_tup (pa_cons pe_str (pa_cons (pe_tup (pa_cons (pe_tup (pa_cons pe_str (pa_cons (pe_ix ix_seq pe_str (pv 7) (fun _ _ => rfl)) (pa_cons (pe_tup (pa_cons pe_str (pa_cons (pe_ix ix_seq pe_str (pv 7) (fun _ _ => rfl)) pa_nil))) (pa_cons (pv 6) pa_nil))))) pa_nil)) pa_nil))))))
    (pss_one (ps_ret (pe_ix ix_seq (pe_op op_plus (pv 4) (pe_lst (pa_cons (pe_ix ix_seq (pe_ix ix_seq (pv 6) pe_int (fun _ _ => rfl)) pe_int (fun _ _ => rfl)) pa_nil))) (pe_callD D__law_next hr__law_next pass0 (pa_cons (pv 0) (pa_cons (pe_op op_plus (pe_callB call_lenA (by rfl) T.n_len PySem.boot_len (pa_cons (pv 4) pa_nil)) pe_int) pa_nil))) (fun _ _ => rfl))))))))))))), ?_⟩
  walk_at "rs"
  with_reducible refine rd_seq ?_
  walk_at "rs"
  refine ⟨h, c, rfl, hat0, fun vb bb H0 f0 hat rbb hbb => ?_⟩
  walk_at "rs"
  with_reducible refine rd_seq ?_
  walk_at "rs"
  refine rd_newT (by simp) fun t101 H101 nt101 f101 et101 => ?_
  have r101 : Rb K H101 (.tup [(.str "name"), (.str "a")]) (.ref t101) := rb2 (SqT.of et101) (rs_ "name") (rs_ "a")
  walk_at "rs"
  have r_good := r101
  with_reducible refine rd_seq ?_
  walk_at "rs"
  refine rd_newT (by simp) fun t102 H102 nt102 f102 et102 => ?_
  have r102 : Rb K H102 (.tup []) (.ref t102) := rb0 (SqT.of et102) 
  walk_at "rs"
  refine rd_newT (by simp) fun t103 H103 nt103 f103 et103 => ?_
  have r103 : Rb K H103 (.tup [(.str "row"), (.tup [])]) (.ref t103) := rb2 (SqT.of et103) (rs_ "row") (r102.mono (by walk_at "kb"))
  walk_at "rs"
  have r_row_here := r103
  with_reducible refine rd_seq ?_
  walk_at "rs"
  refine rd_newT (by simp) fun t104 H104 nt104 f104 et104 => ?_
  have r104 : Rb K H104 (.tup [(.str "set"), (.str "a"), bb]) (.ref t104) := rb3 (SqT.of et104) (rs_ "set") (rs_ "a") (rbb.mono (by walk_at "kb"))
  walk_at "rs"
  refine rd_newT (by simp) fun t105 H105 nt105 f105 et105 => ?_
  have r105 : Rb K H105 (.tup [(.str "say"), bb]) (.ref t105) := rb2 (SqT.of et105) (rs_ "say") (rbb.mono (by walk_at "kb"))
  walk_at "rs"
  refine rd_newT (by simp) fun t106 H106 nt106 f106 et106 => ?_
  have r106 : Rb K H106 (.tup [(.str "lap"), (.str "a"), bb, (.tup [(.str "row"), (.tup [])])]) (.ref t106) := rb4 (SqT.of et106) (rs_ "lap") (rs_ "a") (rbb.mono (by walk_at "kb")) (r103.mono (by walk_at "kb"))
  walk_at "rs"
  refine rd_newT (by simp) fun t107 H107 nt107 f107 et107 => ?_
  have r107 : Rb K H107 (.tup [(.str "set"), (.str "A"), (.tup [(.str "name"), (.str "a")])]) (.ref t107) := rb3 (SqT.of et107) (rs_ "set") (rs_ "A") (r101.mono (by walk_at "kb"))
  walk_at "rs"
  refine rd_newT (by simp) fun t108 H108 nt108 f108 et108 => ?_
  have r108 : Rb K H108 (.tup [(.str "set"), (.int 3), (.tup [(.str "name"), (.str "a")])]) (.ref t108) := rb3 (SqT.of et108) (rs_ "set") rfl (r101.mono (by walk_at "kb"))
  walk_at "rs"
  refine rd_newL (by simp) fun l_a H109 nl_a f109 el_a => ?_
  have R_a : AllB K H109 badS [(.ref t104), (.ref t105), (.ref t106), (.ref t107), (.ref t108)] := (allB_cons (b := (.tup [(.str "set"), (.str "a"), bb])) (r104.mono (by walk_at "kb")) (by first | exact badS_set hbb | exact badS_say hbb | exact badS_lap hbb | decide +kernel) (allB_cons (b := (.tup [(.str "say"), bb])) (r105.mono (by walk_at "kb")) (by first | exact badS_set hbb | exact badS_say hbb | exact badS_lap hbb | decide +kernel) (allB_cons (b := (.tup [(.str "lap"), (.str "a"), bb, (.tup [(.str "row"), (.tup [])])])) (r106.mono (by walk_at "kb")) (by first | exact badS_set hbb | exact badS_say hbb | exact badS_lap hbb | decide +kernel) (allB_cons (b := (.tup [(.str "set"), (.str "A"), (.tup [(.str "name"), (.str "a")])])) (r107.mono (by walk_at "kb")) (by first | exact badS_set hbb | exact badS_say hbb | exact badS_lap hbb | decide +kernel) (allB_cons (b := (.tup [(.str "set"), (.int 3), (.tup [(.str "name"), (.str "a")])])) (r108.mono (by walk_at "kb")) (by first | exact badS_set hbb | exact badS_say hbb | exact badS_lap hbb | decide +kernel) allB_nil)))))
  walk_at "rs"
  with_reducible refine rd_seq ?_
  walk_at "rs"
  refine rd_newT (by simp) fun t110 H110 nt110 f110 et110 => ?_
  have r110 : Rb K H110 (.tup [(.str "set"), (.str "a")]) (.ref t110) := rb2 (SqT.of et110) (rs_ "set") (rs_ "a")
  walk_at "rs"
  refine rd_newT (by simp) fun t111 H111 nt111 f111 et111 => ?_
  have r111 : Rb K H111 (.tup [(.str "say")]) (.ref t111) := rb1 (SqT.of et111) (rs_ "say")
  walk_at "rs"
  refine rd_newT (by simp) fun t112 H112 nt112 f112 et112 => ?_
  have r112 : Rb K H112 (.tup [(.str "say"), (.tup [(.str "name"), (.str "a")]), (.tup [(.str "name"), (.str "a")])]) (.ref t112) := rb3 (SqT.of et112) (rs_ "say") (r101.mono (by walk_at "kb")) (r101.mono (by walk_at "kb"))
  walk_at "rs"
  refine rd_newT (by simp) fun t113 H113 nt113 f113 et113 => ?_
  have r113 : Rb K H113 (.tup [(.str "lap"), (.str "a"), (.tup [(.str "name"), (.str "a")])]) (.ref t113) := rb3 (SqT.of et113) (rs_ "lap") (rs_ "a") (r101.mono (by walk_at "kb"))
  walk_at "rs"
  refine rd_newT (by simp) fun t114 H114 nt114 f114 et114 => ?_
  have r114 : Rb K H114 (.tup [(.str "lap"), (.str "a"), (.tup [(.str "name"), (.str "a")]), (.tup [(.str "row"), (.tup [])]), (.tup [(.str "row"), (.tup [])])]) (.ref t114) := rb5 (SqT.of et114) (rs_ "lap") (rs_ "a") (r101.mono (by walk_at "kb")) (r103.mono (by walk_at "kb")) (r103.mono (by walk_at "kb"))
  walk_at "rs"
  refine rd_newL (by simp) fun l_b H115 nl_b f115 el_b => ?_
  have R_b : AllB K H115 badS [(.ref t110), (.ref t111), (.ref t112), (.ref t113), (.ref t114)] := (allB_cons (b := (.tup [(.str "set"), (.str "a")])) (r110.mono (by walk_at "kb")) (by decide +kernel) (allB_cons (b := (.tup [(.str "say")])) (r111.mono (by walk_at "kb")) (by decide +kernel) (allB_cons (b := (.tup [(.str "say"), (.tup [(.str "name"), (.str "a")]), (.tup [(.str "name"), (.str "a")])])) (r112.mono (by walk_at "kb")) (by decide +kernel) (allB_cons (b := (.tup [(.str "lap"), (.str "a"), (.tup [(.str "name"), (.str "a")])])) (r113.mono (by walk_at "kb")) (by decide +kernel) (allB_cons (b := (.tup [(.str "lap"), (.str "a"), (.tup [(.str "name"), (.str "a")]), (.tup [(.str "row"), (.tup [])]), (.tup [(.str "row"), (.tup [])])])) (r114.mono (by walk_at "kb")) (by decide +kernel) allB_nil)))))
  walk_at "rs"
  refine rd_plusL (by walk_at "hp") el_b (by rw [sizeLine_eq]; simp) fun l_c Hc nl_c f_c el_c => ?_
  have R_c := allB_app (R_a.mono (show Kb _ Hc by walk_at "kb")) (R_b.mono f_c.kb0)
  have rg := r_good.mono (show Kb _ Hc by walk_at "kb")
  have rr := r_row_here.mono (show Kb _ Hc by walk_at "kb")
  have ⟨nch, ncc⟩ := (hat.mono (show Fr [] H0 H115 by walk_at "fr")).new nl_c
  have nc0 : H0 l_c = none := (show Fr [] H0 H115 by walk_at "fr").free nl_c
  have Fc : Fr [] H0 Hc := by walk_at "fr"
  have hatc := hat.mono Fc
  obtain ⟨vc, Lc, el_c, R_c⟩ : ∃ vc : List V, vc.length = 10 ∧ Hc l_c = some (.lst vc) ∧ AllB K Hc badS vc := ⟨_, rfl, el_c, R_c⟩
  walk_at "rs"
  with_reducible refine rd_seqc fun N hN => ?_
  walk_at "rs"
  refine rd_newT (by simp) fun t116 H116 nt116 f116 et116 => ?_
  have r116 : Rb K H116 (.tup [(.str "say"), (.tup [.str "name", .str "a"])]) (.ref t116) := rb2 (SqT.of et116) (rs_ "say") (rg.mono (by walk_at "kb"))
  walk_at "rs"
  refine rd_newL (by simp) fun t117 H117 nt117 f117 et117 => ?_
  have r117 : Rb K H117 .lst (.ref t117) := ⟨t117, _, rfl, et117⟩
  walk_at "rs"
  refine rd_newT (by simp) fun t118 H118 nt118 f118 et118 => ?_
  have r118 : Rb K H118 (.tup [(.str "row"), .lst]) (.ref t118) := rb2 (SqT.of et118) (rs_ "row") (r117.mono (by walk_at "kb"))
  walk_at "rs"
  refine rd_newT (by simp) fun t119 H119 nt119 f119 et119 => ?_
  have r119 : Rb K H119 (.tup [(.str "row")]) (.ref t119) := rb1 (SqT.of et119) (rs_ "row")
  walk_at "rs"
  refine rd_newT (by simp) fun t120 H120 nt120 f120 et120 => ?_
  have r120 : Rb K H120 (.tup []) (.ref t120) := rb0 (SqT.of et120) 
  walk_at "rs"
  refine rd_newL (by simp) fun l_o H121 nl_o f121 el_o => ?_
  have R_o : AllB K H121 (fun b => badS (.tup [.str "lap", .str "a", .tup [.str "name", .str "a"], b])) [(.ref t116), (.ref t118), (.ref t119), (.ref t120)] := (allB_cons (b := (.tup [(.str "say"), (.tup [.str "name", .str "a"])])) (r116.mono (by walk_at "kb")) (by decide +kernel) (allB_cons (b := (.tup [(.str "row"), .lst])) (r118.mono (by walk_at "kb")) (by decide +kernel) (allB_cons (b := (.tup [(.str "row")])) (r119.mono (by walk_at "kb")) (by decide +kernel) (allB_cons (b := (.tup [])) (r120.mono (by walk_at "kb")) (by decide +kernel) allB_nil))))
  walk_at "rs"
  have Fo : Fr [] Hc H121 := by walk_at "fr"
  have hato := hatc.mono Fo
  have Ro0 := R_c.mono Fo.kb0
  have rg0 := rg.mono Fo.kb0
  have rr0 := rr.mono Fo.kb0
  have eco := Fo.at el_c
  have nco : l_c ≠ l_o := ne_of_none ((show Fr [] Hc H120 by walk_at "fr").at el_c) nl_o
  refine rd_forL [_, _, _, _] (fun i σ H' => ∃ vs u5, σ = [some (.ref h), some vb, some (.ref t101), some (.ref t103), some (.ref l_c), u5, none, none] ∧ Fr [h, c] H H' ∧ HAt H' h c n ∧ H' l_c = some (.lst vs) ∧ vs.length = 10 + i ∧ AllB K H' badS vs ∧ H' l_o = H121 l_o ∧ Kb H121 H')
    ⟨vc, _, rfl, f0.trans (Fc.trans Fo).nil, hato, eco, Lc, Ro0, rfl, Kb.refl _⟩ (fun k σ H' hk ⟨_, _, _, _, _, _, _, _, e, _⟩ => SqL.of (by rw [e]; exact el_o)) (fun i x σ H' hx hσ => ?_) (fun σ H' hσ => ?_)
  · obtain ⟨vs, u5, rfl, f', hat', ec', lc', R', eo', k'⟩ := hσ
    clear hN
    have hi : i < 4 := (List.getElem?_eq_some_iff.mp hx).1
    obtain ⟨b, rx, bx⟩ := (R_o.mono k') x (List.mem_of_getElem? hx)
    walk_at "rs"
    refine rd_newT (by simp) fun t5 H5 nt5 f5 et5 => ?_
    walk_at "rs"
    refine rd_app (f5.at ec') (by omega) fun H6 f6 k6 e6 => ?_
    walk_at "rs"
    have kb6 : Kb H5 H6 := f6.kbL (f5.at ec') e6
    have r5 : Rb K H5 (.tup [.str "lap", .str "a", .tup [.str "name", .str "a"], b]) (.ref t5) := rb4 (SqT.of et5) (rs_ "lap") (rs_ "a") ((rg0.mono k').mono f5.kb0) (rx.mono f5.kb0)
    refine ⟨vs ++ [.ref t5], _, rfl, (f'.trans f5.nil).then1 f6 ?_, (hat'.mono f5).mono1 f6 nch ncc, e6, by rw [List.length_append, lc']; simp; omega, allB_app (R'.mono (f5.kb0.trans kb6)) (allB_cons (r5.mono kb6) bx allB_nil), ?_, (k'.trans f5.kb0).trans kb6⟩
    · exact f0.freeM nc0 (by simp [nch, ncc])
    · have e5 : H5 l_o = H' l_o := by rw [f5.at (eo'.trans el_o), eo', el_o]
      rw [f6.at1 (e5.trans (eo'.trans el_o)) nco.symm, el_o]
  · obtain ⟨vs, u5, rfl, f', hat', ec', lc', R', eo', k'⟩ := hσ
    refine hN _ _ ?_
    have rg1 := rg0.mono k'
    have rr1 := rr0.mono k'
    clear hN R_a R_b el_a el_b hat0
    walk_at "rs"
    with_reducible refine rd_seq ?_
    walk_at "rs"
    refine rd_newT (by simp) fun t122 H122 nt122 f122 et122 => ?_
    have r122 : Rb K H122 (.tup [(.str "lap"), (.str ""), (.tup [.str "name", .str "a"]), (.tup [.str "row", .tup []])]) (.ref t122) := rb4 (SqT.of et122) (rs_ "lap") (rs_ "") (rg1.mono (by walk_at "kb")) (rr1.mono (by walk_at "kb"))
    walk_at "rs"
    refine rd_newT (by simp) fun t123 H123 nt123 f123 et123 => ?_
    have r123 : Rb K H123 (.tup [(.str "tell"), (.tup [.str "name", .str "a"])]) (.ref t123) := rb2 (SqT.of et123) (rs_ "tell") (rg1.mono (by walk_at "kb"))
    walk_at "rs"
    refine rd_newT (by simp) fun t124 H124 nt124 f124 et124 => ?_
    have r124 : Rb K H124 (.tup [(.str "set"), (.str "a"), (.tup [.str "name", .str "a"]), (.tup [.str "name", .str "a"])]) (.ref t124) := rb4 (SqT.of et124) (rs_ "set") (rs_ "a") (rg1.mono (by walk_at "kb")) (rg1.mono (by walk_at "kb"))
    walk_at "rs"
    refine rd_newT (by simp) fun t125 H125 nt125 f125 et125 => ?_
    have r125 : Rb K H125 (.tup []) (.ref t125) := rb0 (SqT.of et125) 
    walk_at "rs"
    refine rd_newL (by simp) fun l_p H126 nl_p f126 el_p => ?_
    have R_p : AllB K H126 badS [(.ref t122), (.ref t103), (.ref t123), (.ref t124), (.ref t125), (.int 5), .non, (.str "say")] := (allB_cons (b := (.tup [(.str "lap"), (.str ""), (.tup [.str "name", .str "a"]), (.tup [.str "row", .tup []])])) (r122.mono (by walk_at "kb")) (by decide +kernel) (allB_cons (b := (.tup [.str "row", .tup []])) (rr1.mono (by walk_at "kb")) (by decide +kernel) (allB_cons (b := (.tup [(.str "tell"), (.tup [.str "name", .str "a"])])) (r123.mono (by walk_at "kb")) (by decide +kernel) (allB_cons (b := (.tup [(.str "set"), (.str "a"), (.tup [.str "name", .str "a"]), (.tup [.str "name", .str "a"])])) (r124.mono (by walk_at "kb")) (by decide +kernel) (allB_cons (b := (.tup [])) (r125.mono (by walk_at "kb")) (by decide +kernel) (allB_cons (b := (.int 5)) rfl (by decide +kernel) (allB_cons (b := .non) rfl (by decide +kernel) (allB_cons (b := (.str "say")) (rs_ "say") (by decide +kernel) allB_nil))))))))
    walk_at "rs"
    have Fp : Fr [] H' H126 := by walk_at "fr"
    refine rd_plusL (Fp.at ec') el_p (by rw [sizeLine_eq, lc']; simp) fun l_q Hq nl_q f_q el_q => ?_
    have ⟨nqh, nqc⟩ := (hat'.mono Fp).new nl_q
    have R_q := allB_app (R'.mono (Fp.trans f_q).kb0) (R_p.mono f_q.kb0)
    obtain ⟨vq, Lq, el_q, R_q⟩ : ∃ vq : List V, vq.length = 22 ∧ Hq l_q = some (.lst vq) ∧ AllB K Hq badS vq := ⟨_, by rw [List.length_append, lc']; rfl, el_q, R_q⟩
    have rg2 := rg1.mono (Fp.trans f_q).kb0
    have hatq := (hat'.mono Fp).mono f_q
    have Fq := f'.trans (Fp.trans f_q).nil
    walk_at "rs"
    with_reducible refine rd_seq ?_
    walk_at "rs"
    refine rd_newT (by simp) fun t127 H127 nt127 f127 et127 => ?_
    have r127 : Rb K H127 (.tup [(.str "say"), (.tup [.str "name", .str "a"])]) (.ref t127) := rb2 (SqT.of et127) (rs_ "say") (rg2.mono (by walk_at "kb"))
    walk_at "rs"
    refine rd_newT (by simp) fun t128 H128 nt128 f128 et128 => ?_
    have r128 : Rb K H128 (.tup [(.tup [(.str "say"), (.tup [.str "name", .str "a"])])]) (.ref t128) := rb1 (SqT.of et128) (r127.mono (by walk_at "kb"))
    walk_at "rs"
    refine rd_newT (by simp) fun t129 H129 nt129 f129 et129 => ?_
    have r129 : Rb K H129 (.tup [(.str "row"), (.tup [(.tup [(.str "say"), (.tup [.str "name", .str "a"])])])]) (.ref t129) := rb2 (SqT.of et129) (rs_ "row") (r128.mono (by walk_at "kb"))
    walk_at "rs"
    have r_deep := r129
    have ed : H129 l_q = some (.lst vq) := by walk_at "hp"
    have Fd : Fr [] Hq H129 := by walk_at "fr"
    have hatd := hatq.mono Fd
    have R_d := R_q.mono Fd.kb0
    clear R_q R_p el_p el_o R_o R' eo' k'
    with_reducible refine rd_seqc fun N hN => ?_
    walk_at "rs"
    refine rd_forR (fun i σ H' => ∃ v u7 b, σ = [some (.ref h), some vb, some (.ref t101), some (.ref t103), some (.ref l_q), u5, some v, u7] ∧ Fr [h, c] H H' ∧ HAt H' h c n ∧ H' l_q = some (.lst vq) ∧ AllB K H' badS vq ∧ Rb K H' b v ∧ lapDeep i b)
      ⟨_, _, _, rfl, Fq.trans Fd.nil, hatd, ed, R_d, r_deep, trivial⟩ (fun i σ H' hi hσ => ?_) (fun σ H' hσ => ?_)
    · obtain ⟨v, u7, b, rfl, f', hat', e', R', rb', hd⟩ := hσ
      clear hN
      walk_at "rs"
      refine rd_ixS (by decide +kernel) (abcd_at hi) ?_
      walk_at "rs"
      refine rd_ixS (by decide +kernel) (abcd_at hi) ?_
      walk_at "rs"
      refine rd_newT (by simp) fun t1 H1 nt1 f1 et1 => ?_
      walk_at "rs"
      refine rd_newT (by simp) fun t2 H2 nt2 f2 et2 => ?_
      walk_at "rs"
      refine rd_newT (by simp) fun t3 H3 nt3 f3 et3 => ?_
      walk_at "rs"
      refine rd_newT (by simp) fun t4 H4 nt4 f4 et4 => ?_
      walk_at "rs"
      have q1 := rb2 (SqT.of et1) (rs_ (K := K) (H := H1) "name") rs1
      have q2 := rb4 (SqT.of et2) (rs_ (K := K) (H := H2) "lap") rs1 (q1.mono f2.kb0) ((rb'.mono f1.kb0).mono f2.kb0)
      have q3 := rb1 (SqT.of et3) (q2.mono f3.kb0)
      have q4 := rb2 (SqT.of et4) (rs_ (K := K) (H := H4) "row") (q3.mono f4.kb0)
      have F4 := ((f1.trans f2).trans f3).trans f4
      exact ⟨_, _, _, rfl, f'.trans F4.nil, hat'.mono F4, F4.at e', R'.mono F4.kb0, q4, _, _, b, rfl, hd⟩
    · obtain ⟨v, u7, b, rfl, f', hat', e', R', rb', x, y, b', rfl, hd⟩ := hσ
      refine hN _ _ ?_
      obtain ⟨a1, _, rfl, hT1, _, _, _, rfl, ⟨rfl, _⟩, v1, _, rfl, r1, rfl⟩ := rb'
      obtain ⟨a2, _, rfl, hT2, _, v2, _, rfl, r2, rfl⟩ := r1
      walk_at "rs"
      refine rd_newL (by simp) fun l_m Hm nl_m fm em => ?_
      refine rd_plusL (fm.at e') em (by rw [sizeLine_eq, Lq]; simp) fun l_n Hn nl_n fn en => ?_
      walk_at "rs"
      have hatn := (hat'.mono fm).mono fn
      have ⟨nnh, nnc⟩ := (hat'.mono fm).new nl_n
      have R_n : AllB K Hn badS (vq ++ [v2]) := allB_app ((R'.mono fm.kb0).mono fn.kb0) (allB_cons ((r2.mono fm.kb0).mono fn.kb0) (deep_st hd) allB_nil)
      have e22 := (fm.trans fn).at e'
      try (refine rd_lenH e22 ?_; walk_at "rs")
      rw [Lq]
      refine c_next hatn (by omega) fun j Hj j0 j1 fj kj hatj => ?_
      obtain ⟨u2, hu2, au2⟩ := atI_in (vs := vq ++ [v2]) j0 (by rw [List.length_append, Lq]; simpa using j1)
      refine rd_ixH (fj.at2 en nnh nnc) au2 ?_
      obtain ⟨b2, ru, hb2⟩ := R_n u2 hu2
      walk_at "rs"
      exact q u2 b2 Hj (((f'.trans fm.nil).trans fn.nil).trans fj) hatj (ru.mono (hatn.kb hatj fj)) hb2
end
end Lf
namespace Lf
open PySem PySem.Spec PyProof.Rows L2
theorem rpl_app {K : PySem.W.Frag} {H : Hp} : ∀ {ds es : List D} {vs ws : List V}, RpL K H ds vs → RpL K H es ws → RpL K H (ds ++ es) (vs ++ ws)
  | [], _, vs, _, h, g => by
    cases (show vs = [] from h)
    exact g
  | d :: ds, _, vs, _, h, g => by
    obtain ⟨v, r, rfl, h1, h2⟩ := h
    exact ⟨v, _, rfl, h1, rpl_app h2 g⟩
section
variable {K : PySem.W.Frag} {H : Hp}
theorem rbl_app : ∀ {ds es : List B} {vs ws : List V}, RbL K H ds vs → RbL K H es ws → RbL K H (ds ++ es) (vs ++ ws)
  | [], _, vs, _, h, g => by
    cases (show vs = [] from h)
    exact g
  | d :: ds, _, vs, _, h, g => by
    obtain ⟨v, r, rfl, h1, h2⟩ := h
    exact ⟨v, _, rfl, h1, rbl_app h2 g⟩
theorem rbl_drop : ∀ {ds : List B} {vs : List V} (k : Nat), RbL K H ds vs → RbL K H (ds.drop k) (vs.drop k)
  | ds, vs, 0, h => h
  | [], vs, k + 1, h => by
    cases (show vs = [] from h)
    exact rfl
  | d :: ds, vs, k + 1, h => by
    obtain ⟨v, r, rfl, h1, h2⟩ := h
    exact rbl_drop k h2
theorem rbl_take : ∀ {ds : List B} {vs : List V} (k : Nat), RbL K H ds vs → RbL K H (ds.take k) (vs.take k)
  | ds, vs, 0, h => rfl
  | [], vs, k + 1, h => by
    cases (show vs = [] from h)
    exact rfl
  | d :: ds, vs, k + 1, h => by
    obtain ⟨v, r, rfl, h1, h2⟩ := h
    exact ⟨v, _, rfl, h1, rbl_take k h2⟩
theorem rbl_cut {ds : List B} {vs : List V} (lo hi : Option Int) (h : RbL K H ds vs) : ∃ es, RbL K H es (cutV vs lo hi) ∧ es.length ≤ ds.length := by
  refine ⟨(ds.drop (HT.sIx vs.length 0 lo)).take (HT.sIx vs.length vs.length hi - HT.sIx vs.length 0 lo), rbl_take _ (rbl_drop _ h), ?_⟩
  rw [List.length_take, List.length_drop]; omega
end
def spProg (K : PySem.W.Frag) (n : Nat) : Sp := fun vs H Q _ => ∃ (h c l : Addr) (xs : List Str) (odd : Bool), vs = [.ref h, .ref l, .bl odd] ∧ Nm7 xs ∧ HAt H h c n ∧ H l = some (.lst (xs.map V.str)) ∧ l ≠ h ∧ l ≠ c ∧
  ∀ v r H2, Fr [h, c] H H2 → HAt H2 h c n → gdL (Gs xs) (lastN xs) 6 r → depL r ≤ 3 → cntL r ≤ 34 → Rp K H2 (encR r) v → Q v H2
def spSpoil (K : PySem.W.Frag) (n : Nat) : Sp := fun vs H Q _ => ∃ (h c l : Addr) (xs : List Str) (v : V) (bs : List B), vs = [.ref h, v, .ref l] ∧ HAt H h c n ∧ H l = some (.lst (xs.map V.str)) ∧ xs.length = 7 ∧ (∀ x ∈ xs, okC x) ∧ l ≠ h ∧ l ≠ c ∧ Rb K H (.tup [.str "row", .tup bs]) v ∧ bs.length ≤ 300 ∧
  ∀ v b H2, Fr [h, c] H H2 → HAt H2 h c n → Rb K H2 b v → okProg b = false → Q v H2
section
variable {P : Program} {w : World} {K : PySem.W.Frag} {mg : Str → Option Value} {base : Heap}
abbrev s__law_program : Stmt := top 78
abbrev N__law_program : List Str := ["_law_h", "_law_names_here", "_law_odd", "_law_one"]
theorem sc__law_program : FnScope N__law_program ["_law_h", "_law_names_here", "_law_odd"] (defScope s__law_program) := ⟨rfl, rfl, rfl, by decide +kernel, rfl, by decide +kernel, by decide +kernel⟩
theorem ok_prog (T : Blt mg) (n : Nat) (F : Here K mg "_law_program" s__law_program ["_law_h", "_law_names_here", "_law_odd"]) (D__law_row : DefOk P w K mg base CX0 "_law_row" ["_law_h", "_law_names_here", "_law_depth", "_law_odd"] 12 (spRowD K n 3)) :
    DefOk P w K mg base CX0 "_law_program" ["_law_h", "_law_names_here", "_law_odd"] 13 (spProg K n) := by
  refine F.ok sc__law_program (fun vs H Q E h => ?_) (fun f cdv A outer s H vs Q E hr h => ?_)
  · obtain ⟨_, _, _, _, _, rfl, _⟩ := h; rfl
  obtain ⟨h, c, l, xs, odd, rfl, nm, hat, hl, nlh, nlc, q⟩ := h
  have hr__law_row := hr.mono (j := 12) (by omega)
  refine ⟨_, (pss_cons (ps_set (i := 3) sc__law_program.nd rfl (Or.inl rfl) (pe_callD D__law_row hr__law_row pass0 (pa_cons (pv 0) (pa_cons (pv 1) (pa_cons pe_int (pa_cons (pv 2) pa_nil))))))
    (pss_one (ps_ret (pe_tup (pa_cons pe_str (pa_cons (pe_op op_plus (pe_ix ix_seq (pv 3) pe_int (fun _ _ => rfl)) (pe_ix ix_seq (pe_callD D__law_row hr__law_row pass0 (pa_cons (pv 0) (pa_cons (pv 1) (pa_cons pe_int (pa_cons (pv 2) pa_nil))))) pe_int (fun _ _ => rfl))) pa_nil)))))), ?_⟩
  walk_at "rh"
  refine ⟨h, c, l, xs, 0, odd, rfl, nm, hat, hl, nlh, nlc, by omega, by omega, fun v1 r1 H1 f1 hat1 g1 len1 _ dep1 cnt1 rp1 => ?_⟩
  obtain ⟨ta, _, rfl, hTa, _, _, rfl, rfl, _, _, rfl, ⟨tb, vs1, rfl, hTb, hv1⟩, rfl⟩ := rp1
  have lv1 : vs1.length = r1.length := by have := RpL.length hv1; rw [this, encL_len]
  walk_at "rh"
  refine ⟨h, c, l, xs, 0, odd, rfl, nm, hat1, f1.at2 hl nlh nlc, nlh, nlc, by omega, by omega, fun v2 r2 H2 f2 hat2 g2 len2 _ dep2 cnt2 rp2 => ?_⟩
  obtain ⟨tc, _, rfl, hTc, _, _, rfl, rfl, _, _, rfl, ⟨td, vs2, rfl, hTd, hv2⟩, rfl⟩ := rp2
  have lv2 : vs2.length = r2.length := by have := RpL.length hv2; rw [this, encL_len]
  have k2 := hat1.kp f2
  walk_at "rh"
  refine rd_plusT (k2.sq hTb) hTd (by rw [sizeLine_eq]; omega) fun t6 H6 f6 e6 => ?_
  walk_at "rh"
  refine rd_newT (by simp) fun t7 H7 nt7 f7 e7 => ?_
  walk_at "rh"
  have z : Rp K H6 (.tup (encL (r1 ++ r2))) (.ref t6) := ⟨t6, _, rfl, e6, by rw [encL_app]; exact (rpl_app (hv1.mono k2) hv2).mono f6.kp0⟩
  refine q _ (r1 ++ r2) H7 (((f1.trans f2).trans f6.nil).trans f7.nil) ((hat2.mono f6).mono f7) (gd_app g1 g2) (by rw [depL_app]; omega) (by rw [cntL_app]; omega) (Rp2 e7 (z.mono f7.kp0))
abbrev s__law_spoilt : Stmt := top 81
abbrev N__law_spoilt : List Str := ["_law_h", "_law_program_here", "_law_names_here", "_law_at", "_law_bad_here"]
theorem sc__law_spoilt : FnScope N__law_spoilt ["_law_h", "_law_program_here", "_law_names_here"] (defScope s__law_spoilt) := ⟨rfl, rfl, rfl, by decide +kernel, rfl, by decide +kernel, by decide +kernel⟩
theorem ok_spoil (T : Blt mg) (n : Nat) (F : Here K mg "_law_spoilt" s__law_spoilt ["_law_h", "_law_program_here", "_law_names_here"]) (D__law_next : DefOk P w K mg base CX0 "_law_next" ["_law_h", "_law_many"] 1 (spNext n)) (D__law_bad : DefOk P w K mg base CX0 "_law_bad" ["_law_h"] 3 (spBad K n)) :
    DefOk P w K mg base CX0 "_law_spoilt" ["_law_h", "_law_program_here", "_law_names_here"] 4 (spSpoil K n) := by
  refine F.ok sc__law_spoilt (fun vs H Q E h => ?_) (fun f cdv A outer s H vs Q E hr h => ?_)
  · obtain ⟨_, _, _, _, _, _, rfl, _⟩ := h; rfl
  obtain ⟨h, c, l, xs, v, bs, rfl, hat, hl, lxs, hok, nlh, nlc, hv, hbs, q⟩ := h
  have hu64 := hr.units
  have hr__law_next := hr.mono (j := 1) (by omega)
  have hr__law_bad := hr.mono (j := 3) (by omega)
  refine ⟨_, (pss_cons (ps_set (i := 3) sc__law_spoilt.nd rfl (Or.inl rfl) (pe_callD D__law_next hr__law_next pass0 (pa_cons (pv 0) (pa_cons (pe_op op_plus (pe_callB call_lenA (by rfl) T.n_len PySem.boot_len (pa_cons (pe_ix ix_seq (pv 1) pe_int (fun _ _ => rfl)) pa_nil)) pe_int) pa_nil))))
    (pss_cons (ps_set (i := 4) sc__law_spoilt.nd rfl (Or.inl rfl) (pe_callD D__law_bad hr__law_bad pass0 (pa_cons (pv 0) pa_nil)))
    (pss_cons (ps_if (pt_cmpR (op_eqA hu64) (pe_callD D__law_next hr__law_next pass0 (pa_cons (pv 0) (pa_cons pe_int pa_nil))) pe_int (nomark _))
    (pss_one (ps_set (i := 4) sc__law_spoilt.nd rfl (Or.inl rfl) (pe_tup (pa_cons pe_str (pa_cons (pe_ix ix_seq (pv 2) pe_int (fun _ _ => rfl)) (pa_cons (pe_tup (pa_cons pe_str (pa_cons (pe_ix ix_seq (pv 2) pe_int (fun _ _ => rfl)) pa_nil))) (pa_cons (pe_tup (pa_cons pe_str (pa_cons (pe_tup (pa_cons (pe_tup (pa_cons pe_str (pa_cons (pe_tup (pa_cons pe_str (pa_cons pe_int pa_nil))) pa_nil))) (pa_cons (pv 4) pa_nil))) pa_nil))) pa_nil)))))))
    pss_nil)
    (pss_one (ps_ret (pe_tup (pa_cons pe_str (pa_cons (pe_op op_plus (pe_op op_plus (pe_slice sl_any (pe_ix ix_seq (pv 1) pe_int (fun _ _ => rfl)) po_none (po_some (pv 3))) (pe_tup (pa_cons (pv 4) pa_nil))) (pe_slice sl_any (pe_ix ix_seq (pv 1) pe_int (fun _ _ => rfl)) (po_some (pv 3)) po_none)) pa_nil)))))))), ?_⟩
  obtain ⟨a1, _, rfl, hT1, _, _, _, rfl, ⟨rfl, _⟩, v1, _, rfl, ⟨a2, ws, rfl, hT2, hlw, hws⟩, rfl⟩ := hv
  have lw := RbL.length hws
  walk_at "rs"
  with_reducible refine rd_seq ?_
  walk_at "rs"
  refine c_next hat (by omega) fun at_ H1 at0 at1 f1 k1 hat1 => ?_
  walk_at "rs"
  with_reducible refine rd_seq ?_
  walk_at "rs"
  refine ⟨h, c, rfl, hat1, fun vb bb H2 f2 hat2 rb hb => ?_⟩
  have k12 := hat1.kb hat2 f2
  have k2 : Kb H H2 := (hat.kb hat1 f1).trans k12
  walk_at "rs"
  with_reducible refine rd_seqc fun N hN => ?_
  have F2 := f1.trans f2
  have fin : ∀ (vb : V) (bb : B) (H3 : Hp), Fr [h, c] H2 H3 → HAt H3 h c n → Rb K H3 bb vb → okSt 3 bb = none → N [some (.ref h), some (.ref a1), some (.ref l), some (.int at_), some vb] H3 := fun vb bb H3 f3 hat3 rb hb => by
    refine hN _ _ ?_
    have k3 := k2.trans (hat2.kb hat3 f3)
    have hT13 := k3.1.sq hT1
    have hT23 := k3.1.sq hT2
    have hws3 := hws.mono k3
    clear hN
    walk_at "rs"
    refine rd_sl ?_
    walk_at "rs"
    refine rd_nopart ?_
    refine rd_part ?_
    walk_at "rs"
    refine rd_parti ?_
    refine rd_slT hT23 fun p4 H4 f4 e4 => ?_
    walk_at "rs"
    refine rd_newT (by simp) fun t5 H5 nt5 f5 e5 => ?_
    obtain ⟨es, hes, les⟩ := rbl_cut none (some at_) hws3
    have l1 := RbL.length hes
    walk_at "rs"
    refine rd_plusT (f5.tup0 e4) (SqT.of e5) (by rw [sizeLine_eq, l1]; simp; omega) fun p6 H6 f6 e6 => ?_
    have f46 := (f4.trans f5).trans f6
    have hT16 := f46.tup0 hT13
    have hT26 := f46.tup0 hT23
    walk_at "rs"
    refine rd_sl ?_
    walk_at "rs"
    refine rd_part ?_
    walk_at "rs"
    refine rd_parti ?_
    refine rd_nopart ?_
    refine rd_slT hT26 fun p7 H7 f7 e7 => ?_
    obtain ⟨es2, hes2, les2⟩ := rbl_cut (some at_) none hws3
    have l2 := RbL.length hes2
    refine rd_plusT (f7.tup0 e6) e7 (by rw [sizeLine_eq, List.length_append, l1, l2]; simp; omega) fun p8 H8 f8 e8 => ?_
    walk_at "rs"
    refine rd_newT (by simp) fun t9 H9 nt9 f9 e9 => ?_
    walk_at "rs"
    have f38 := (f46.trans f7).trans f8
    have rr : Rb K H8 (.tup (es ++ bb :: es2)) (.ref p8) := ⟨p8, _, rfl, e8, by rw [List.length_append, List.length_append, l1, l2]; simp; omega, by
      have z := rbl_app (rbl_app (hes.mono f38.kb0) (show RbL K H8 [bb] [vb] from ⟨vb, _, rfl, rb.mono f38.kb0, rfl⟩)) (hes2.mono f38.kb0)
      rw [List.append_assoc, List.singleton_append] at z
      exact z⟩
    exact q _ _ H9 ((F2.trans f3).trans (f38.trans f9).nil) (hat3.mono (f38.trans f9)) (rb2 (SqT.of e9) (rs_ "row") (rr.mono f9.kb0)) (prog_none (row_bad hb))
  refine rd_ifc fun N2 hT hU => ?_
  walk_at "rs"
  walk_at "nx"
  intro z H3 z0 z1 f3 k3 hat3
  walk_at "rs"
  cases hdec : decide (V.int z = V.int 0) with
  | false =>
    refine hU _ ?_
    walk_at "rs"
    exact fin vb bb H3 f3 hat3 (rb.mono (hat2.kb hat3 f3)) hb.1
  | true =>
    refine hT _ ?_
    have l3 := (F2.trans f3).at2 hl nlh nlc
    obtain ⟨y, hy, ay⟩ := atI_strs (ns := xs) (i := 0) (by omega) (by omega)
    have yk := hok y hy
    have ylen := okC.len yk
    walk_at "rs"
    refine rd_ixH l3 ay ?_
    walk_at "rs"
    refine rd_ixH l3 ay ?_
    walk_at "rs"
    refine rd_newT (by simp) fun t4 H4 nt4 f4 e4 => ?_
    walk_at "rs"
    refine rd_newT (by simp) fun t5 H5 nt5 f5 e5 => ?_
    walk_at "rs"
    refine rd_newT (by simp) fun t6 H6 nt6 f6 e6 => ?_
    walk_at "rs"
    refine rd_newT (by simp) fun t7 H7 nt7 f7 e7 => ?_
    walk_at "rs"
    refine rd_newT (by simp) fun t8 H8 nt8 f8 e8 => ?_
    walk_at "rs"
    refine rd_newT (by simp) fun t9 H9 nt9 f9 e9 => ?_
    walk_at "rs"
    have f36 := (f4.trans f5).trans f6
    have f37 := f36.trans f7
    have f39 := (f37.trans f8).trans f9
    have hy : Rb K H (.str y) (.str y) := rs_ y (by omega)
    have q4 := rb2 (SqT.of e4) (rs_ (K := K) (H := H4) "name") (show Rb K H4 (.str y) (.str y) from rs_ y (by omega))
    have q5 := rb2 (SqT.of e5) (rs_ (K := K) (H := H5) "num") (show Rb K H5 (.int 1) (.int 1) from rfl)
    have q6 := rb2 (SqT.of e6) (rs_ (K := K) (H := H6) "say") (q5.mono f6.kb0)
    have q7 := rb2 (SqT.of e7) (q6.mono f7.kb0) ((rb.mono (hat2.kb hat3 f3)).mono f37.kb0)
    have q8 := rb2 (SqT.of e8) (rs_ (K := K) (H := H8) "row") (q7.mono f8.kb0)
    have q9 := rb4 (SqT.of e9) (rs_ (K := K) (H := H9) "lap") (show Rb K H9 (.str y) (.str y) from rs_ y (by omega)) (q4.mono (((((f5.trans f6).trans f7).trans f8).trans f9).kb0)) (q8.mono f9.kb0)
    refine fin _ _ H9 (f3.trans f39.nil) (hat3.mono f39) q9 ?_
    rw [okSt_eq, st_lap]
    split
    · show Option.map _ (okRow 2 _) = none
      rw [show okRow 2 (.tup [.str "row", .tup [.tup [.str "say", .tup [.str "num", .int 1]], bb]]) = none from row_bad (xs := [_]) (ys := []) hb.2]; rfl
    · rfl
end
end Lf
namespace Lf
open PySem PySem.Spec PyProof.Rows L2
def spLaw (K : PySem.W.Frag) : Sp := fun vs H Q _ => ∃ (a : Addr) (ns : List Int), vs = [.ref a] ∧ SqL K H a (ns.map V.int) ∧ ns.length ≤ 63 ∧ ∀ H', Q (.bl true) H'
theorem rd_repT {K : PySem.W.Frag} {H : Hp} {Q : VK} {l : Addr} {k : Int} {x : V} (h : SqT K H l [x]) (h1 : 2 ≤ k) (h2 : k ≤ 1000) (q : ∀ p H2, Fr [] H H2 → H2 p = some (.tup (List.replicate k.toNat x)) → Q (.ref p) H2) : rTimes K (.ref l) (.int k) H Q :=
  .inr (.inr (.inr ⟨l, k, [x], rfl, rfl, h, by simp, h1, h2, by simp, fun p hp => q p _ ((Fr.refl [] H).new hp) (by rw [upd_same]; simp)⟩))
theorem rbl_rep {K : PySem.W.Frag} {H : Hp} {b : B} {v : V} (h : Rb K H b v) : ∀ n, RbL K H (List.replicate n b) (List.replicate n v)
  | 0 => rfl
  | n + 1 => ⟨v, _, List.replicate_succ, h, rbl_rep h n⟩
theorem cut_rep {n k : Nat} {x : V} (h : k ≤ n) : cutV (List.replicate n x) none (some (k : Int)) = List.replicate k x := by
  unfold cutV
  rw [HT.sIx_none, HT.sIx_nat, List.length_replicate, Nat.min_eq_left h]
  simp [List.take_replicate, h]
theorem rd_is {x : V} {H : Hp} {Q : VK} (q : Q (.bl (decide (x = .non))) H) : (fun (x y : V) (H : Hp) (Q : VK) => y = .non ∧ Q (.bl (decide (x = .non))) H) x .non H Q := ⟨rfl, q⟩
local macro_rules | `(tactic| walk_at "kb") => `(tactic| first
  | assumption
  | exact Lf.Kb.refl _
  | ((refine' Lf.Kb.trans ?k3 (Lf.Fr.kb0 ?k1)); (case k1 => assumption); (case k3 => (walk_at "kb")))
  | ((refine' Lf.Kb.trans ?k3 ?k1); (case k1 => assumption); (case k3 => (walk_at "kb"))))
local macro_rules | `(tactic| walk_at "fr") => `(tactic| first
  | assumption
  | exact Lf.Fr.refl _ _
  | ((refine' Lf.Fr.trans ?k3 ?k1); (case k1 => assumption); (case k3 => (walk_at "fr"))))
abbrev say1 : B := .tup [.str "say", .tup [.str "num", .int 1]]
section
variable {P : Program} {w : World} {K : PySem.W.Frag} {mg : Str → Option Value} {base : Heap} {C : Addr}
abbrev s_law : Stmt := top 83
abbrev N_law : List Str := ["_law_script", "_law_h", "_law_names_here", "_law_program_here", "_law_wrong", "_law_turn", "_law_long", "_law_laps", "_law_odd", "_law_one", "_law_way", "_law_deep", "_law_k"]
theorem sc_law : FnScope N_law ["_law_script"] (defScope s_law) := ⟨rfl, rfl, rfl, by decide +kernel, rfl, by decide +kernel, by decide +kernel⟩
theorem ok_law (T : Blt mg) (D__law_next : ∀ n, DefOk P w K mg base CX0 "_law_next" ["_law_h", "_law_many"] 1 (spNext n)) (D__law_names : ∀ n, DefOk P w K mg base CX0 "_law_names" ["_law_h"] 2 (spNames7 n)) (D__law_program : ∀ n, DefOk P w K mg base CX0 "_law_program" ["_law_h", "_law_names_here", "_law_odd"] 13 (spProg K n))
    (D__law_spoilt : ∀ n, DefOk P w K mg base CX0 "_law_spoilt" ["_law_h", "_law_program_here", "_law_names_here"] 4 (spSpoil K n)) (D_need_program : DefOk P w K mg base (L2.CX P w) "need_program" ["program"] 18 (spNProg K C)) (D__law_refused : DefOk P w K mg base CX0 "_law_refused" ["_law_way", "_law_program_here"] 21 (spRefd K))
    {fa : Addr} {fd : FuncData} (F : Fun K "law" "law" s_law fa fd) : FnOk P w K mg base CX0 22 fa fd ["_law_script"] (spLaw K) := by
  refine F.ok sc_law (fun vs H Q E h => ?_) (fun cdv A outer s H vs Q E hr h => ?_)
  · obtain ⟨_, _, rfl, _⟩ := h; rfl
  obtain ⟨a, ns, rfl, hS, hlen, q⟩ := h
  have hu64 := hr.units
  have hr__law_next := hr.mono (j := 1) (by decide)
  have hr__law_names := hr.mono (j := 2) (by decide)
  have hr__law_program := hr.mono (j := 13) (by decide)
  have hr__law_spoilt := hr.mono (j := 4) (by decide)
  have hr_need_program := hr.mono (j := 18) (by decide)
  have hr__law_refused := hr.mono (j := 21) (by decide)
  have D__law_next := D__law_next ns.length
  have D__law_names := D__law_names ns.length
  have D__law_program := D__law_program ns.length
  have D__law_spoilt := D__law_spoilt ns.length
  refine ⟨_, (pss_cons (ps_set (i := 1) sc_law.nd rfl (Or.inr rfl) (pe_lst (pa_cons pe_int (pa_cons (pe_callTy call_listA (by rfl) T.n_list (by decide +kernel) (pa_cons (pv 0) pa_nil)) (pa_cons pe_int pa_nil)))))
    (pss_cons (ps_set (i := 2) sc_law.nd rfl (Or.inr rfl) (pe_callD D__law_names hr__law_names pass0 (pa_cons (pv 1) pa_nil)))
    (pss_cons (ps_set (i := 3) sc_law.nd rfl (Or.inr rfl) (pe_callD D__law_program hr__law_program pass0 (pa_cons (pv 1) (pa_cons (pv 2) (pa_cons pe_bl pa_nil)))))
    (pss_cons (ps_if (pt_cmpR op_notN (pe_callD D_need_program hr_need_program passL (pa_cons (pv 3) pa_nil)) pe_non (nomark _))
    (pss_one (ps_ret pe_bl))
    pss_nil)
    (pss_cons (ps_setLc (i := 4) (own := [("_law_turn", 5)]) (g := gName 5) (tt := tYes) (by rfl) sc_law.nd rfl rfl (sw_true rfl rfl rfl (by decide +kernel)) (pi_range1 (by rfl) T.n_range (pa_cons pe_int pa_nil)) (blkOk_by (own := [("_law_turn", 5)]) (N := N_law) (sc := defScope s_law) (by decide +kernel)) (fun _ _ _ _ _ => (pg_name (i := 5) sc_law.nd rfl (Or.inl rfl))) (fun _ _ _ _ _ => pts_nil) (fun _ _ _ _ _ => (pe_callD D__law_spoilt hr__law_spoilt pass0 (pa_cons (pv 1) (pa_cons (pv 3) (pa_cons (pv 2) pa_nil))))))
    (pss_cons (ps_set (i := 6) sc_law.nd rfl (Or.inl rfl) (pe_tup (pa_cons pe_str (pa_cons (pe_op op_timesA (pe_tup (pa_cons (pe_tup (pa_cons pe_str (pa_cons (pe_tup (pa_cons pe_str (pa_cons pe_int pa_nil))) pa_nil))) pa_nil)) (pe_op op_plus pe_int (pe_callD D__law_next hr__law_next pass0 (pa_cons (pv 1) (pa_cons pe_int pa_nil))))) pa_nil))))
    (pss_cons (ps_set (i := 7) sc_law.nd rfl (Or.inl rfl) (pe_tup (pa_cons pe_str (pa_cons (pe_op op_timesA (pe_tup (pa_cons (pe_tup (pa_cons pe_str (pa_cons pe_str (pa_cons (pe_tup (pa_cons pe_str (pa_cons pe_str pa_nil))) (pa_cons (pe_tup (pa_cons pe_str (pa_cons (pe_slice sl_any (pe_ix ix_seq (pv 6) pe_int (fun _ _ => rfl)) po_none (po_some pe_int)) pa_nil))) pa_nil))))) pa_nil)) pe_int) pa_nil))))
    (pss_cons (ps_set (i := 8) sc_law.nd rfl (Or.inl rfl) (pe_ix ix_seq (pe_lst (pa_cons (pe_tup pa_nil) (pa_cons pe_int (pa_cons pe_non (pa_cons (pe_tup (pa_cons pe_str pa_nil)) (pa_cons (pe_tup (pa_cons pe_str (pa_cons (pe_lst pa_nil) pa_nil))) (pa_cons (pe_lst (pa_cons pe_str (pa_cons (pe_tup pa_nil) pa_nil))) (pa_cons (pe_tup (pa_cons pe_str (pa_cons (pe_tup pa_nil) pa_nil))) (pa_cons (pe_tup (pa_cons pe_str (pa_cons (pe_tup pa_nil) (pa_cons (pe_tup pa_nil) pa_nil)))) pa_nil))))))))) (pe_callD D__law_next hr__law_next pass0 (pa_cons (pv 1) (pa_cons pe_int pa_nil))) (fun _ _ => rfl)))
    (pss_cons (ps_for PassesOwn.never rfl (pi_list (pe_op op_plus (pv 4) (pe_lst (pa_cons (pe_tup (pa_cons pe_str (pa_cons (pe_op op_plus (pe_slice sl_any (pe_ix ix_seq (pv 6) pe_int (fun _ _ => rfl)) po_none (po_some pe_int)) (pe_tup (pa_cons (pe_tup (pa_cons pe_str (pa_cons (pe_tup (pa_cons pe_str (pa_cons pe_int pa_nil))) pa_nil))) pa_nil))) pa_nil))) (pa_cons (pv 7) (pa_cons (pv 8) pa_nil)))))) (pg_name (i := 9) sc_law.nd rfl (Or.inl rfl))
    (pss_one (ps_for PassesOwn.never rfl (pi_range1 (by rfl) T.n_range (pa_cons pe_int pa_nil)) (pg_name (i := 10) sc_law.nd rfl (Or.inl rfl))
    (pss_one (ps_if (pt_not (pt_val (pe_callD D__law_refused hr__law_refused pass0 (pa_cons (pv 10) (pa_cons (pv 9) pa_nil)))))
    (pss_one (ps_ret pe_bl))
    pss_nil)))))
    (pss_cons (ps_set (i := 11) sc_law.nd rfl (Or.inl rfl) (pe_tup (pa_cons pe_str (pa_cons (pe_ix ix_seq (pv 2) pe_int (fun _ _ => rfl)) pa_nil))))
    (pss_cons (ps_for PassesOwn.never rfl (pi_range1 (by rfl) T.n_range (pa_cons pe_int pa_nil)) (pg_name (i := 12) sc_law.nd rfl (Or.inl rfl))
    (pss_one (ps_set (i := 11) sc_law.nd rfl (Or.inl rfl) (pe_ix ix_seq (pe_lst (pa_cons (pe_tup (pa_cons pe_str (pa_cons (pv 11) (pa_cons (pe_tup (pa_cons pe_str (pa_cons pe_int pa_nil))) pa_nil)))) (pa_cons (pe_tup (pa_cons pe_str (pa_cons (pe_tup (pa_cons pe_str (pa_cons pe_int pa_nil))) (pa_cons (pv 11) pa_nil)))) pa_nil))) (pe_callD D__law_next hr__law_next pass0 (pa_cons (pv 1) (pa_cons pe_int pa_nil))) (fun _ _ => rfl)))))
    (pss_cons (ps_if (pt_cmpR op_notN (pe_callD D_need_program hr_need_program passL (pa_cons (pe_tup (pa_cons pe_str (pa_cons (pe_tup (pa_cons (pe_tup (pa_cons pe_str (pa_cons (pv 11) pa_nil))) (pa_cons (pe_tup (pa_cons pe_str (pa_cons (pe_ix ix_seq (pv 2) pe_int (fun _ _ => rfl)) (pa_cons (pv 11) (pa_cons (pe_tup (pa_cons pe_str (pa_cons (pe_tup pa_nil) pa_nil))) pa_nil))))) pa_nil))) pa_nil))) pa_nil)) pe_non (nomark _))
    (pss_one (ps_ret pe_bl))
    pss_nil)
    (pss_one (ps_ret (pe_and (pe_cmpR op_isN (pe_callD D_need_program hr_need_program passL (pa_cons (pe_tup (pa_cons pe_str (pa_cons (pe_slice sl_any (pe_ix ix_seq (pv 6) pe_int (fun _ _ => rfl)) po_none (po_some pe_int)) pa_nil))) pa_nil)) pe_non (nomark _)) (pe_one (pe_cmpR op_isN (pe_callD D_need_program hr_need_program passL (pa_cons (pe_tup (pa_cons pe_str (pa_cons (pe_tup pa_nil) pa_nil))) pa_nil)) pe_non (nomark _)))))))))))))))))), ?_⟩
  walk_at "rs"
  with_reducible refine rd_seq ?_
  walk_at "rs"
  refine rd_list hS fun c H1 fc f1 ec => ?_
  walk_at "rs"
  refine rd_newL (by simp) fun h H2 fh f2 eh => ?_
  have ec2 := f2.at ec
  have ne : h ≠ c := (ne_of_none ec fh).symm
  have hat : HAt H2 h c ns.length := ⟨ne, 23, 0, ns, eh, ec2, by decide, rfl⟩
  walk_at "rs"
  with_reducible refine rd_seq ?_
  walk_at "rs"
  refine ⟨h, c, rfl, hat, fun l xs H3 nl hl7 hnd hok f3 hat3 el => ?_⟩
  have nm : Nm7 xs := ⟨hl7, hnd, hok⟩
  have ⟨nlh, nlc⟩ := hat.new nl
  walk_at "rs"
  with_reducible refine rd_seq ?_
  walk_at "rs"
  refine ⟨h, c, l, xs, true, rfl, nm, hat3, el, nlh, nlc, fun v r H4 f4 hat4 gr dep cnt rp => ?_⟩
  have rb4 : Rb K H4 (bR r) v := cvR gr (by omega) rp
  have okr : okProg (bR r) = true := ok_bR gr dep (by omega)
  have el4 := f4.at2 el nlh nlc
  have lenr : (bL r).length ≤ 300 := by
    have : ∀ r : List Sm, (bL r).length = r.length := by
      intro r
      induction r with
      | nil => rfl
      | cons s r ih => simp [bL, ih]
    rw [this]
    have := cnt_len r
    omega
  clear rp
  walk_at "rs"
  with_reducible refine rd_seq ?_
  walk_at "rs"
  refine ⟨v, _, rfl, rb4, ⟨fun _ H5 f5 => ?_, fun z => by rw [okr] at z; cases z⟩⟩
  have hat5 := hat4.mono f5
  have el5 := f5.at el4
  have rb5 := rb4.mono f5.kb0
  walk_at "rs"
  refine ⟨rfl, ?_⟩
  walk_at "rs"
  refine ifF rfl ?_
  walk_at "rs"
  with_reducible refine rd_seq ?_
  walk_at "rs"
  refine rd_lcR fun D H6 nD f6 eD => ?_
  have ⟨nDh, nDc⟩ := hat5.new nD
  have nlD : l ≠ D := ne_of_none el5 nD
  refine ⟨fun k acc H' => HAt H' h c ns.length ∧ H' l = some (.lst (xs.map V.str)) ∧ Rb K H' (bR r) v ∧ AllB K H' (okProg · = false) acc ∧ acc.length = k, ⟨hat5.mono f6, f6.at el5, rb5.mono f6.kb0, allB_nil, rfl⟩, fun k acc H' hk e' ⟨hat', el', rb', R', hl'⟩ => ?_, fun acc H7 e7 ⟨hat7, el7, rb7, R7, hl7'⟩ => ?_⟩
  · walk_at "rs"
    refine ifT rfl ?_
    walk_at "rs"
    refine ⟨h, c, l, xs, v, bL r, rfl, hat', el', hl7, hok, nlh, nlc, rb', lenr, fun vb bb H8 f8 hat8 rbb hbb => ?_⟩
    have k8 := hat'.kb hat8 f8
    refine rd_lcend (f8.at2 e' nDh nDc) (by omega) fun H9 f9 k9 e9 => ?_
    have kb9 : Kb H8 H9 := f9.kbL (f8.at2 e' nDh nDc) e9
    exact ⟨hat8.mono1 f9 nDh nDc, f9.at1 (f8.at2 el' nlh nlc) nlD, rb'.mono (k8.trans kb9), allB_app (R'.mono (k8.trans kb9)) (allB_cons (rbb.mono kb9) hbb allB_nil), by simp [hl']⟩
  clear rb5 rb4 el5 el4 eD f6 f5 f4 f3 f2 f1
  walk_at "rs"
  with_reducible refine rd_seq ?_
  walk_at "rs"
  refine rd_newT (by simp) fun t8 H8 nt8 f8 e8 => ?_
  walk_at "rs"
  refine rd_newT (by simp) fun t9 H9 nt9 f9 e9 => ?_
  walk_at "rs"
  refine rd_newT (by simp) fun t10 H10 nt10 f10 e10 => ?_
  walk_at "rs"
  have q8 := rb2 (SqT.of e8) (rs_ (K := K) (H := H8) "num") (show Rb K H8 (.int 1) (.int 1) from rfl)
  have q9 : Rb K H9 say1 (.ref t9) := rb2 (SqT.of e9) (rs_ (K := K) (H := H9) "say") (q8.mono f9.kb0)
  have f710 := (f8.trans f9).trans f10
  have hat10 := hat7.mono f710
  refine c_next hat10 (by omega) fun j H11 j0 j1 f11 k11 hat11 => ?_
  have kb11 := hat10.kb hat11 f11
  walk_at "rs"
  refine rd_repT (k11.sq (SqT.of e10)) (by omega) (by omega) fun p H12 f12 e12 => ?_
  obtain ⟨m, hm, hm40, hm41⟩ : ∃ m : Nat, (40 + j).toNat = m ∧ 40 ≤ m ∧ m ≤ 41 := ⟨_, rfl, by omega, by omega⟩
  rw [hm] at e12
  walk_at "rs"
  refine rd_newT (by simp) fun t13 H13 nt13 f13 e13 => ?_
  have k713 : Kb H7 H13 := ((f710.kb0.trans kb11).trans f12.kb0).trans f13.kb0
  have say13 : Rb K H13 say1 (.ref t9) := (((q9.mono f10.kb0).mono kb11).mono f12.kb0).mono f13.kb0
  have el13 := (f12.trans f13).at (f11.at2 (f710.at el7) nlh nlc)
  have eD13 := (f12.trans f13).at (f11.at2 (f710.at e7) nDh nDc)
  have hat13 := hat11.mono (f12.trans f13)
  have R13 := R7.mono k713
  have long13 : SqT K H13 p (List.replicate m (.ref t9)) := SqT.of (f13.at e12)
  have eL13 : SqT K H13 t13 [.str "row", .ref p] := SqT.of e13
  clear e8 e9 e10 e12 e13 q8 q9 el7 e7 rb7 f8 f9 f10 f11 f12 f13 f710 k713 kb11 k11 hat7 hat10 hat11 R7
  walk_at "rs"
  with_reducible refine rd_seq ?_
  walk_at "rs"
  refine rd_newT (by simp) fun t14 H14 nt14 f14 e14 => ?_
  walk_at "rs"
  refine rd_sl ?_
  walk_at "rs"
  refine rd_nopart ?_
  refine rd_part ?_
  walk_at "rs"
  refine rd_parti ?_
  refine rd_slT (f14.tup0 long13) fun p15 H15 f15 e15 => ?_
  rw [show ((20 : Int)) = ((20 : Nat) : Int) from rfl, cut_rep (by omega)] at e15
  walk_at "rs"
  refine rd_newT (by simp) fun t16 H16 nt16 f16 e16 => ?_
  walk_at "rs"
  refine rd_newT (by simp) fun t17 H17 nt17 f17 e17 => ?_
  walk_at "rs"
  refine rd_newT (by simp) fun t18 H18 nt18 f18 e18 => ?_
  walk_at "rs"
  refine rd_repT (SqT.of e18) (by decide) (by decide) fun p19 H19 f19 e19 => ?_
  walk_at "rs"
  refine rd_newT (by simp) fun t20 H20 nt20 f20 e20 => ?_
  have q14 := rb2 (SqT.of e14) (rs_ (K := K) (H := H14) "name") (rs_ (K := K) (H := H14) "a")
  have q15 : Rb K H15 (.tup (List.replicate 20 say1)) (.ref p15) := ⟨p15, _, rfl, e15, by rw [List.length_replicate]; decide, rbl_rep ((say13.mono f14.kb0).mono f15.kb0) 20⟩
  have q16 := rb2 (SqT.of e16) (rs_ (K := K) (H := H16) "row") (q15.mono f16.kb0)
  have q17 := rb4 (SqT.of e17) (rs_ (K := K) (H := H17) "lap") (rs_ (K := K) (H := H17) "a") (q14.mono ((f15.trans f16).trans f17).kb0) (q16.mono f17.kb0)
  have q19 : Rb K H19 (.tup (List.replicate 2 _)) (.ref p19) := ⟨p19, _, rfl, SqT.of e19, by rw [List.length_replicate]; decide, rbl_rep (q17.mono (f18.trans f19).kb0) 2⟩
  have q20 := rb2 (SqT.of e20) (rs_ (K := K) (H := H20) "row") (q19.mono f20.kb0)
  have F20 := (((((f14.trans f15).trans f16).trans f17).trans f18).trans f19).trans f20
  have hat20 := hat13.mono F20
  have el20 := F20.at el13
  have eD20 := F20.at eD13
  have R20 := R13.mono F20.kb0
  have long20 := F20.tup0 long13
  have eL20 := F20.tup0 eL13
  have say20 := say13.mono F20.kb0
  clear e14 e15 e16 e17 e18 e19 e20 q14 q15 q16 q17 q19 f14 f15 f16 f17 f18 f19 f20 F20 hat13 el13 eD13 R13 long13 eL13 say13
  walk_at "rs"
  with_reducible refine rd_seq ?_
  walk_at "rs"
  refine rd_newT (by simp) fun t101 H101 nt101 f101 et101 => ?_
  have r101 : Rb K H101 (.tup []) (.ref t101) := rb0 (SqT.of et101) 
  walk_at "rs"
  refine rd_newT (by simp) fun t102 H102 nt102 f102 et102 => ?_
  have r102 : Rb K H102 (.tup [(.str "row")]) (.ref t102) := rb1 (SqT.of et102) (rs_ "row")
  walk_at "rs"
  refine rd_newL (by simp) fun t103 H103 nt103 f103 et103 => ?_
  have r103 : Rb K H103 .lst (.ref t103) := ⟨t103, _, rfl, et103⟩
  walk_at "rs"
  refine rd_newT (by simp) fun t104 H104 nt104 f104 et104 => ?_
  have r104 : Rb K H104 (.tup [(.str "row"), .lst]) (.ref t104) := rb2 (SqT.of et104) (rs_ "row") (r103.mono (by walk_at "kb"))
  walk_at "rs"
  refine rd_newT (by simp) fun t105 H105 nt105 f105 et105 => ?_
  have r105 : Rb K H105 (.tup []) (.ref t105) := rb0 (SqT.of et105) 
  walk_at "rs"
  refine rd_newL (by simp) fun t106 H106 nt106 f106 et106 => ?_
  have r106 : Rb K H106 .lst (.ref t106) := ⟨t106, _, rfl, et106⟩
  walk_at "rs"
  refine rd_newT (by simp) fun t107 H107 nt107 f107 et107 => ?_
  have r107 : Rb K H107 (.tup []) (.ref t107) := rb0 (SqT.of et107) 
  walk_at "rs"
  refine rd_newT (by simp) fun t108 H108 nt108 f108 et108 => ?_
  have r108 : Rb K H108 (.tup [(.str "lap"), (.tup [])]) (.ref t108) := rb2 (SqT.of et108) (rs_ "lap") (r107.mono (by walk_at "kb"))
  walk_at "rs"
  refine rd_newT (by simp) fun t109 H109 nt109 f109 et109 => ?_
  have r109 : Rb K H109 (.tup []) (.ref t109) := rb0 (SqT.of et109) 
  walk_at "rs"
  refine rd_newT (by simp) fun t110 H110 nt110 f110 et110 => ?_
  have r110 : Rb K H110 (.tup []) (.ref t110) := rb0 (SqT.of et110) 
  walk_at "rs"
  refine rd_newT (by simp) fun t111 H111 nt111 f111 et111 => ?_
  have r111 : Rb K H111 (.tup [(.str "row"), (.tup []), (.tup [])]) (.ref t111) := rb3 (SqT.of et111) (rs_ "row") (r109.mono (by walk_at "kb")) (r110.mono (by walk_at "kb"))
  walk_at "rs"
  refine rd_newL (by simp) fun l_odd H112 nl_odd f112 el_odd => ?_
  have R_odd : AllB K H112 (okProg · = false) [(.ref t101), (.int 5), .non, (.ref t102), (.ref t104), (.ref t106), (.ref t108), (.ref t111)] := (allB_cons (b := (.tup [])) (r101.mono (by walk_at "kb")) (by decide +kernel) (allB_cons (b := (.int 5)) rfl (by decide +kernel) (allB_cons (b := .non) rfl (by decide +kernel) (allB_cons (b := (.tup [(.str "row")])) (r102.mono (by walk_at "kb")) (by decide +kernel) (allB_cons (b := (.tup [(.str "row"), .lst])) (r104.mono (by walk_at "kb")) (by decide +kernel) (allB_cons (b := .lst) (r106.mono (by walk_at "kb")) (by decide +kernel) (allB_cons (b := (.tup [(.str "lap"), (.tup [])])) (r108.mono (by walk_at "kb")) (by decide +kernel) (allB_cons (b := (.tup [(.str "row"), (.tup []), (.tup [])])) (r111.mono (by walk_at "kb")) (by decide +kernel) allB_nil))))))))
  walk_at "rs"
  have Fo : Fr [] H20 H112 := by walk_at "fr"
  have hato := hat20.mono Fo
  have ⟨noh, noc⟩ := (hat20.mono (show Fr [] H20 H111 by walk_at "fr")).new nl_odd
  refine c_next hato (by omega) fun j2 H21 j20 j21 f21 k21 hat21 => ?_
  obtain ⟨u, hu, au⟩ := atI_in (vs := [_, _, _, _, _, _, _, _]) j20 (by simpa using j21)
  refine rd_ixH (f21.at2 el_odd noh noc) au ?_
  have kbo := hato.kb hat21 f21
  have K21 : Kb H20 H21 := Fo.kb0.trans kbo
  obtain ⟨bo, ro, hbo⟩ := (R_odd.mono kbo) u hu
  have el21 := f21.at2 (Fo.at el20) nlh nlc
  have eD21 := f21.at2 (Fo.at eD20) nDh nDc
  have R21 := R20.mono K21
  have long21 := K21.1.sq long20
  have eL21 := K21.1.sq eL20
  have say21 := say20.mono K21
  have q21 := q20.mono K21
  clear R_odd el_odd hu au
  walk_at "rs"
  with_reducible refine rd_seqc fun N hN => ?_
  walk_at "rs"
  refine rd_sl ?_
  walk_at "rs"
  refine rd_nopart ?_
  refine rd_part ?_
  walk_at "rs"
  refine rd_parti ?_
  refine rd_slT long21 fun p22 H22 f22 e22 => ?_
  rw [show ((40 : Int)) = ((40 : Nat) : Int) from rfl, cut_rep (by omega)] at e22
  walk_at "rs"
  refine rd_newT (by simp) fun t23 H23 nt23 f23 e23 => ?_
  walk_at "rs"
  refine rd_newT (by simp) fun t24 H24 nt24 f24 e24 => ?_
  walk_at "rs"
  refine rd_newT (by simp) fun t25 H25 nt25 f25 e25 => ?_
  walk_at "rs"
  refine rd_plusT (((f23.trans f24).trans f25).tup0 e22) (SqT.of e25) (by rw [sizeLine_eq, List.length_replicate]; simp) fun p26 H26 f26 e26 => ?_
  walk_at "rs"
  refine rd_newT (by simp) fun t27 H27 nt27 f27 e27 => ?_
  walk_at "rs"
  refine rd_newL (by simp) fun l28 H28 nl28 f28 e28 => ?_
  have F28 := (((((f22.trans f23).trans f24).trans f25).trans f26).trans f27).trans f28
  refine rd_plusL (F28.at eD21) e28 (by rw [sizeLine_eq, hl7']; simp) fun l29 H29 nl29 f29 e29 => ?_
  have q23 := rb2 (SqT.of e23) (rs_ (K := K) (H := H23) "num") (show Rb K H23 (.int 1) (.int 1) from rfl)
  have q24 : Rb K H24 say1 (.ref t24) := rb2 (SqT.of e24) (rs_ (K := K) (H := H24) "say") (q23.mono f24.kb0)
  have q26 : Rb K H26 (.tup (List.replicate 40 say1 ++ [say1])) (.ref p26) := ⟨p26, _, rfl, e26, by simp, rbl_app (rbl_rep (say21.mono ((((f22.trans f23).trans f24).trans f25).trans f26).kb0) 40) ⟨_, _, rfl, q24.mono (f25.trans f26).kb0, rfl⟩⟩
  have q27 := rb2 (SqT.of e27) (rs_ (K := K) (H := H27) "row") (q26.mono f27.kb0)
  have F29 := F28.trans f29
  have R29 : AllB K H29 (okProg · = false) (acc ++ [.ref t27, .ref t20, u]) := allB_app (R21.mono F29.kb0) (allB_cons (q27.mono (f28.trans f29).kb0) (by decide +kernel) (allB_cons (q21.mono F29.kb0) (by decide +kernel) (allB_cons (ro.mono F29.kb0) hbo allB_nil)))
  have hat29 := hat21.mono F29
  have el29 := F29.at el21
  have long29 := F29.tup0 long21
  have eL29 := F29.tup0 eL21
  have say29 := say21.mono F29.kb0
  clear R21 R20 e22 e23 e24 e25 e26 e27 e28 q23 q24 q26 q27 f22 f23 f24 f25 f26 f27 f28 f29 F28 F29
  walk_at "rs"
  refine rd_forL (acc ++ [.ref t27, .ref t20, u]) (fun i σ H' => ∃ u9 u10, σ = [some (.ref a), some (.ref h), some (.ref l), some v, some (.ref D), none, some (.ref t13), some (.ref t20), some u, u9, u10, none, none] ∧ Fr [] H29 H') ⟨_, _, rfl, Fr.refl _ _⟩ (fun k σ H' hk ⟨_, _, _, f⟩ => SqL.of (f.at e29)) (fun i x σ H' hx hσ => ?_) (fun σ H' hσ => ?_)
  · obtain ⟨u9, u10, rfl, f'⟩ := hσ
    clear hN
    obtain ⟨b, rx, bx⟩ := R29 x (List.mem_of_getElem? hx)
    walk_at "rs"
    refine rd_forR (fun i σ H' => ∃ u10, σ = [some (.ref a), some (.ref h), some (.ref l), some v, some (.ref D), none, some (.ref t13), some (.ref t20), some u, some x, u10, none, none] ∧ Fr [] H29 H') ⟨_, rfl, f'⟩ (fun i σ H'' hi hσ => ?_) (fun σ H'' hσ => ?_)
    · obtain ⟨u10, rfl, f''⟩ := hσ
      walk_at "rs"
      refine ⟨x, b, _, rfl, rx.mono f''.kb0, bx, fun H3 f3 => ?_⟩
      walk_at "rs"
      refine ifF rfl ?_
      walk_at "rs"
      exact ⟨_, rfl, f''.trans f3⟩
    · obtain ⟨u10, rfl, f''⟩ := hσ
      exact ⟨_, _, rfl, f''⟩
  · obtain ⟨u9, u10, rfl, f'⟩ := hσ
    refine hN _ _ ?_
    clear hN R29 e29
    have hat30 := hat29.mono f'
    have el30 := f'.at el29
    have long30 := f'.tup0 long29
    have eL30 := f'.tup0 eL29
    have say30 := say29.mono f'.kb0
    obtain ⟨y, hy, ay⟩ := atI_strs (ns := xs) (i := 0) (by omega) (by omega)
    have yk := hok y hy
    have ylen := okC.len yk
    walk_at "rs"
    with_reducible refine rd_seq ?_
    walk_at "rs"
    refine rd_ixH el30 ay ?_
    walk_at "rs"
    refine rd_newT (by simp) fun t31 H31 nt31 f31 e31 => ?_
    walk_at "rs"
    with_reducible refine rd_seqc fun N hN => ?_
    walk_at "rs"
    refine rd_forR (fun i σ H'' => ∃ w u12 e, σ = [some (.ref a), some (.ref h), some (.ref l), some v, some (.ref D), none, some (.ref t13), some (.ref t20), some u, u9, u10, some w, u12] ∧ HAt H'' h c ns.length ∧ H'' l = some (.lst (xs.map V.str)) ∧ Kb H31 H'' ∧ Rb K H'' (bE e) w ∧ smE e ∧ depE e = i)
      ⟨_, _, .name y, rfl, hat30.mono f31, f31.at el30, Kb.refl _, rb2 (SqT.of e31) (rs_ "name") (rs_ y (by omega)), yk, rfl⟩ (fun i σ H'' hi hσ => ?_) (fun σ H'' hσ => ?_)
    · obtain ⟨w, u12, e, rfl, hat', el', k', re, se, de⟩ := hσ
      clear hN
      walk_at "rs"
      refine rd_newT (by simp) fun t113 H113 nt113 f113 et113 => ?_
      have r113 : Rb K H113 (.tup [(.str "num"), (.int 999)]) (.ref t113) := rb2 (SqT.of et113) (rs_ "num") rfl
      walk_at "rs"
      refine rd_newT (by simp) fun t114 H114 nt114 f114 et114 => ?_
      have r114 : Rb K H114 (.tup [(.str "add"), (bE e), (.tup [(.str "num"), (.int 999)])]) (.ref t114) := rb3 (SqT.of et114) (rs_ "add") (re.mono (by walk_at "kb")) (r113.mono (by walk_at "kb"))
      walk_at "rs"
      refine rd_newT (by simp) fun t115 H115 nt115 f115 et115 => ?_
      have r115 : Rb K H115 (.tup [(.str "num"), (.int 0)]) (.ref t115) := rb2 (SqT.of et115) (rs_ "num") rfl
      walk_at "rs"
      refine rd_newT (by simp) fun t116 H116 nt116 f116 et116 => ?_
      have r116 : Rb K H116 (.tup [(.str "times"), (.tup [(.str "num"), (.int 0)]), (bE e)]) (.ref t116) := rb3 (SqT.of et116) (rs_ "times") (r115.mono (by walk_at "kb")) (re.mono (by walk_at "kb"))
      walk_at "rs"
      refine rd_newL (by simp) fun l_g H117 nl_g f117 el_g => ?_
      have R_g : AllB K H117 (fun b => ∃ e' : Ex, b = bE e' ∧ smE e' ∧ depE e' = i + 1) [(.ref t114), (.ref t116)] := (allB_cons (b := (.tup [(.str "add"), (bE e), (.tup [(.str "num"), (.int 999)])])) (r114.mono (by walk_at "kb")) (by first | exact ⟨.add e (.num 999), rfl, ⟨se, by decide, by decide⟩, by simp [depE]; omega⟩ | exact ⟨.mul (.num 0) e, rfl, ⟨⟨by decide, by decide⟩, se⟩, by simp [depE]; omega⟩) (allB_cons (b := (.tup [(.str "times"), (.tup [(.str "num"), (.int 0)]), (bE e)])) (r116.mono (by walk_at "kb")) (by first | exact ⟨.add e (.num 999), rfl, ⟨se, by decide, by decide⟩, by simp [depE]; omega⟩ | exact ⟨.mul (.num 0) e, rfl, ⟨⟨by decide, by decide⟩, se⟩, by simp [depE]; omega⟩) allB_nil))
      walk_at "rs"
      have Fg : Fr [] H'' H117 := by walk_at "fr"
      have hatg := hat'.mono Fg
      have ⟨ngh, ngc⟩ := (hat'.mono (show Fr [] H'' H116 by walk_at "fr")).new nl_g
      refine c_next hatg (by omega) fun j Hj j0 j1 fj kj hatj => ?_
      obtain ⟨u2, hu2, au2⟩ := atI_in (vs := [_, _]) j0 (by simpa using j1)
      refine rd_ixH (fj.at2 el_g ngh ngc) au2 ?_
      obtain ⟨_, ru, e2, rfl, se2, de2⟩ := R_g u2 hu2
      walk_at "rs"
      have kgj := hatg.kb hatj fj
      exact ⟨u2, _, e2, rfl, hatj, fj.at2 (Fg.at el') nlh nlc, (k'.trans Fg.kb0).trans kgj, ru.mono kgj, se2, de2⟩
    · obtain ⟨w, u12, e, rfl, hat', el', k', re, se, de⟩ := hσ
      refine hN _ _ ?_
      clear hN
      have k30 := f31.kb0.trans k'
      have long33 := k30.1.sq long30
      have eL33 := k30.1.sq eL30
      have say33 := say30.mono k30
      walk_at "rs"
      with_reducible refine rd_seq ?_
      walk_at "rs"
      refine rd_newT (by simp) fun t41 H41 nt41 f41 e41 => ?_
      walk_at "rs"
      refine rd_ixH (f41.at el') ay ?_
      walk_at "rs"
      refine rd_newT (by simp) fun t42 H42 nt42 f42 e42 => ?_
      walk_at "rs"
      refine rd_newT (by simp) fun t43 H43 nt43 f43 e43 => ?_
      walk_at "rs"
      refine rd_newT (by simp) fun t44 H44 nt44 f44 e44 => ?_
      walk_at "rs"
      refine rd_newT (by simp) fun t45 H45 nt45 f45 e45 => ?_
      walk_at "rs"
      refine rd_newT (by simp) fun t46 H46 nt46 f46 e46 => ?_
      walk_at "rs"
      have q41 := rb2 (SqT.of e41) (rs_ (K := K) (H := H41) "say") (re.mono f41.kb0)
      have q42 := rb0 (K := K) (SqT.of e42)
      have q43 := rb2 (SqT.of e43) (rs_ (K := K) (H := H43) "row") (q42.mono f43.kb0)
      have q44 := rb4 (SqT.of e44) (rs_ (K := K) (H := H44) "lap") (show Rb K H44 (.str y) (.str y) from rs_ y (by omega)) (re.mono (((f41.trans f42).trans f43).trans f44).kb0) (q43.mono f44.kb0)
      have q45 := rb2 (SqT.of e45) (q41.mono (((f42.trans f43).trans f44).trans f45).kb0) (q44.mono f45.kb0)
      have q46 := rb2 (SqT.of e46) (rs_ (K := K) (H := H46) "row") (q45.mono f46.kb0)
      have F46 := ((((f41.trans f42).trans f43).trans f44).trans f45).trans f46
      have okd : okProg (.tup [.str "row", .tup [.tup [.str "say", bE e], .tup [.str "lap", .str y, bE e, .tup [.str "row", .tup []]]]]) = true := by
        have h5 := ok_bE (m := 5) se (by omega)
        have h1 : okSt 3 (.tup [.str "say", bE e]) = some 1 := by rw [okSt_eq, st_say, if_pos h5]
        have h2 : okSt 3 (.tup [.str "lap", .str y, bE e, .tup [.str "row", .tup []]]) = some 1 := by
          rw [okSt_eq, st_lap, if_pos ⟨yk.2, h5⟩]
          rfl
        simp [okProg, okRow, rowBy, sumO, h1, h2]
      refine ⟨_, _, rfl, q46, ⟨fun _ H47 f47 => ?_, fun z => by rw [okd] at z; cases z⟩⟩
      have F47 := F46.trans f47
      have long47 := F47.tup0 long33
      have eL47 := F47.tup0 eL33
      have say47 := say33.mono F47.kb0
      clear q41 q42 q43 q44 q45 q46 e41 e42 e43 e44 e45 e46 f41 f42 f43 f44 f45 f46 f47 F46
      walk_at "rs"
      refine ⟨rfl, ?_⟩
      walk_at "rs"
      refine ifF rfl ?_
      walk_at "rs"
      refine rd_sl ?_
      walk_at "rs"
      refine rd_nopart ?_
      refine rd_part ?_
      walk_at "rs"
      refine rd_parti ?_
      refine rd_slT long47 fun p51 H51 f51 e51 => ?_
      rw [show ((40 : Int)) = ((40 : Nat) : Int) from rfl, cut_rep (by omega)] at e51
      walk_at "rs"
      refine rd_newT (by simp) fun t52 H52 nt52 f52 e52 => ?_
      walk_at "rs"
      have q51 : Rb K H51 (.tup (List.replicate 40 say1)) (.ref p51) := ⟨p51, _, rfl, e51, by simp, rbl_rep (say47.mono f51.kb0) 40⟩
      have q52 := rb2 (SqT.of e52) (rs_ (K := K) (H := H52) "row") (q51.mono f52.kb0)
      refine ⟨_, _, rfl, q52, ⟨fun _ H53 f53 => ?_, fun z => by exact absurd z (by decide +kernel)⟩⟩
      walk_at "rs"
      refine ⟨rfl, ?_⟩
      walk_at "rs"
      refine ifT rfl ?_
      walk_at "rs"
      refine rd_newT (by simp) fun t54 H54 nt54 f54 e54 => ?_
      walk_at "rs"
      refine rd_newT (by simp) fun t55 H55 nt55 f55 e55 => ?_
      walk_at "rs"
      have q55 := rb2 (SqT.of e55) (rs_ (K := K) (H := H55) "row") ((rb0 (K := K) (SqT.of e54)).mono f55.kb0)
      refine ⟨_, _, rfl, q55, ⟨fun _ H56 f56 => ?_, fun z => by exact absurd z (by decide +kernel)⟩⟩
      walk_at "rs"
      refine ⟨rfl, ?_⟩
      walk_at "rs"
      exact q H56
end
end Lf
namespace Lf
open PySem PySem.Spec PyProof.Rows L2
section
variable {P : Program} {w : World} {K : PySem.W.Frag} {mg : Str → Option Value} {base : Heap} {C DC LC NF UN : Addr}
theorem ok_lapRow (T : Blt mg) (n : Nat) (FL : Here K mg "_law_lap" s__law_lap ["_law_h", "_law_names_here", "_law_depth", "_law_odd"]) (FR : Here K mg "_law_row" s__law_row ["_law_h", "_law_names_here", "_law_depth", "_law_odd"]) (X : DefOk P w K mg base CX0 "_law_next" ["_law_h", "_law_many"] 1 (spNext n))
    (A : DefOk P w K mg base CX0 "_law_part" ["_law_h", "_law_some", "_law_deep"] 4 (spPart K n 3)) (M : DefOk P w K mg base CX0 "_law_measure" ["_law_h", "_law_guard", "_law_calm"] 2 (spMeas K n)) (GR : DefOk P w K mg base CX0 "_law_grow" ["_law_h", "_law_low", "_law_some"] 2 (spGrow K n)) :
    ∀ j, DefOk P w K mg base CX0 "_law_row" ["_law_h", "_law_names_here", "_law_depth", "_law_odd"] (2 * j + 6) (spRowD K n j)
  | 0 => ok_rowD T n 0 5 (by omega) FR X A GR ((none_sp FL fun vs H Q E h => by obtain ⟨_, _, _, _, _, _, _, _, _, _, _, _, h1, h2, _⟩ := h; omega).mono (by omega))
  | j + 1 => ok_rowD T n (j + 1) (2 * j + 7) (by omega) FR X A GR (ok_lapD T n j (2 * j + 6) (by omega) FL X M (ok_lapRow T n FL FR X A M GR j))
/-- everything together -/
theorem glue (T : Blt mg) (F_need : Here K mg "need" s_need ["good"]) (F_need_name : Here K mg "need_name" s_need_name ["x"]) (F_need_tuple : Here K mg "need_tuple" s_need_tuple ["thing", "many"]) (F_need_part : Here K mg "need_part" s_need_part ["part", "deep"]) (F_need_row : Here K mg "need_row" s_need_row ["row", "laps"])
    (F_need_statement : Here K mg "need_statement" s_need_statement ["one", "laps"]) (F_need_program : Here K mg "need_program" s_need_program ["program"]) (F_looked : Here K mg "looked" s_looked ["program"]) (F_written : Here K mg "written" s_written ["program"])
    (F__law_next : Here K mg "_law_next" s__law_next ["_law_h", "_law_many"]) (F__law_names : Here K mg "_law_names" s__law_names ["_law_h"]) (F__law_part : Here K mg "_law_part" s__law_part ["_law_h", "_law_some", "_law_deep"]) (F__law_measure : Here K mg "_law_measure" s__law_measure ["_law_h", "_law_guard", "_law_calm"])
    (F__law_lap : Here K mg "_law_lap" s__law_lap ["_law_h", "_law_names_here", "_law_depth", "_law_odd"]) (F__law_grow : Here K mg "_law_grow" s__law_grow ["_law_h", "_law_low", "_law_some"]) (F__law_row : Here K mg "_law_row" s__law_row ["_law_h", "_law_names_here", "_law_depth", "_law_odd"])
    (F__law_program : Here K mg "_law_program" s__law_program ["_law_h", "_law_names_here", "_law_odd"]) (F__law_bad_part : Here K mg "_law_bad_part" s__law_bad_part ["_law_h"]) (F__law_bad : Here K mg "_law_bad" s__law_bad ["_law_h"]) (F__law_spoilt : Here K mg "_law_spoilt" s__law_spoilt ["_law_h", "_law_program_here", "_law_names_here"])
    (F__law_refused : Here K mg "_law_refused" s__law_refused ["_law_way", "_law_program_here"]) (XB : ErrTxt K mg "BadForm" C) (L : ErrsTxt K mg C LC DC NF UN) (G : CFm mg)
    {fa : Addr} {fd : FuncData} (F : Fun K "law" "law" s_law fa fd) : FnOk P w K mg base CX0 22 fa fd ["_law_script"] (spLaw K) := by
  have ND := ok_need (P := P) (w := w) (base := base) T XB F_need
  have NT := ok_ntup (K := K) T F_need_tuple ND
  have NN := ok_nname (K := K) T G F_need_name ND
  have NP := ok_npart (K := K) T G F_need_part ND NT NN 7
  have NS := ok_nst (K := K) T G F_need_statement F_need_row ND NT NN NP 4
  have NR := ok_nrow1 (K := K) T 4 16 (by omega) F_need_row ND NT NS
  have NG := ok_nprog (K := K) T G F_need_program ND NR
  have LO := ok_looked (K := K) T F_looked NG
  have WR := ok_written (K := K) T F_written LO
  have RF := ok_refused (P := P) (w := w) (base := base) T L F__law_refused NG LO WR
  have N := fun n => ok_next (P := P) (w := w) (base := base) n T F__law_next
  have R := fun n => ok_lapRow (P := P) (w := w) (base := base) T n F__law_lap F__law_row (N n) (ok_part T n F__law_part (N n) 3) (ok_meas T n F__law_measure (N n)) (ok_grow T n F__law_grow (N n)) 3
  exact ok_law T N (fun n => ok_names7 T n F__law_names (N n)) (fun n => ok_prog T n F__law_program (R n)) (fun n => ok_spoil T n F__law_spoilt (N n) (ok_bad T n F__law_bad (N n) (ok_badP T n F__law_bad_part (N n)))) NG RF F
end
end Lf
namespace Lf
open PySem PySem.Spec PyProof.Rows L2
theorem exm_self {K : PySem.W.Frag} {S : Addr} (h1 : PySem.W.subIn K (.ref S) (.type "BaseException") = some true) (h2 : PySem.W.isClsIn K S = true) (h3 : PySem.W.typeIn K (.ref S) = some (.type "type")) (h4 : PySem.W.subIn K (.ref S) (.ref S) = some true) :
    PySem.W.exmOne K (.ref S) (.ref S) = some true := by
  have e1 : (PySem.W.subIn K (.ref S) (.type "BaseException") == some true) = true := by rw [h1] <;> rfl
  have e2 : ((PySem.W.clsIn K S).isSome && PySem.W.typeIn K (.ref S) == some (.type "type")) = true := by
    have h2' : (PySem.W.clsIn K S).isSome = true := h2
    rw [h2', h3] <;> rfl
  show (if (PySem.W.subIn K (.ref S) (.type "BaseException") == some true) = true then (if ((PySem.W.clsIn K S).isSome && PySem.W.typeIn K (.ref S) == some (.type "type")) = true then PySem.W.subIn K (.ref S) (.ref S) else none) else none) = some true
  rw [if_pos e1, if_pos e2]
  exact h4
theorem all_mk {l : PySem.W.OpenLaw} {w : World} {K : PySem.W.Frag} {h : Heap} {mg : Str → Option Value} {fa f0 f1 f2 f3 f4 f5 f6 f7 f8 f9 f10 f11 f12 f13 f14 f15 f16 f17 f18 f19 f20 f21 : Addr} (X : K.In h) (G : h.Ns mainGlobals mg) (hfa : mg "law" = some (.ref fa))
    {od0 an0 : Option Addr} {sl0 : Array (Option Value)} {oc0 kV0 dc0 pm0 cd0 ct0 : Value}
    (a0 : PySem.W.nsIn K mainGlobals "need" = some (some (.ref f0))) (l0 : K.lookup f0 = some ⟨oc0, od0, .func (PySem.W.fnOf "need" "need" (defArgs s_need) (defBody s_need) (defScope s_need) .none kV0 dc0 pm0 an0 cd0 ct0), sl0⟩) (c0 : PySem.W.codeIn K cd0 "need" = true) (k0 : PySem.W.keepIn K (.ref f0) = true)
    {od1 an1 : Option Addr} {sl1 : Array (Option Value)} {oc1 kV1 dc1 pm1 cd1 ct1 : Value}
    (a1 : PySem.W.nsIn K mainGlobals "need_name" = some (some (.ref f1))) (l1 : K.lookup f1 = some ⟨oc1, od1, .func (PySem.W.fnOf "need_name" "need_name" (defArgs s_need_name) (defBody s_need_name) (defScope s_need_name) .none kV1 dc1 pm1 an1 cd1 ct1), sl1⟩) (c1 : PySem.W.codeIn K cd1 "need_name" = true) (k1 : PySem.W.keepIn K (.ref f1) = true)
    {od2 an2 : Option Addr} {sl2 : Array (Option Value)} {oc2 kV2 dc2 pm2 cd2 ct2 : Value}
    (a2 : PySem.W.nsIn K mainGlobals "need_tuple" = some (some (.ref f2))) (l2 : K.lookup f2 = some ⟨oc2, od2, .func (PySem.W.fnOf "need_tuple" "need_tuple" (defArgs s_need_tuple) (defBody s_need_tuple) (defScope s_need_tuple) .none kV2 dc2 pm2 an2 cd2 ct2), sl2⟩) (c2 : PySem.W.codeIn K cd2 "need_tuple" = true) (k2 : PySem.W.keepIn K (.ref f2) = true)
    {od3 an3 : Option Addr} {sl3 : Array (Option Value)} {oc3 kV3 dc3 pm3 cd3 ct3 : Value}
    (a3 : PySem.W.nsIn K mainGlobals "need_part" = some (some (.ref f3))) (l3 : K.lookup f3 = some ⟨oc3, od3, .func (PySem.W.fnOf "need_part" "need_part" (defArgs s_need_part) (defBody s_need_part) (defScope s_need_part) .none kV3 dc3 pm3 an3 cd3 ct3), sl3⟩) (c3 : PySem.W.codeIn K cd3 "need_part" = true) (k3 : PySem.W.keepIn K (.ref f3) = true)
    {od4 an4 : Option Addr} {sl4 : Array (Option Value)} {oc4 kV4 dc4 pm4 cd4 ct4 : Value}
    (a4 : PySem.W.nsIn K mainGlobals "need_row" = some (some (.ref f4))) (l4 : K.lookup f4 = some ⟨oc4, od4, .func (PySem.W.fnOf "need_row" "need_row" (defArgs s_need_row) (defBody s_need_row) (defScope s_need_row) .none kV4 dc4 pm4 an4 cd4 ct4), sl4⟩) (c4 : PySem.W.codeIn K cd4 "need_row" = true) (k4 : PySem.W.keepIn K (.ref f4) = true)
    {od5 an5 : Option Addr} {sl5 : Array (Option Value)} {oc5 kV5 dc5 pm5 cd5 ct5 : Value}
    (a5 : PySem.W.nsIn K mainGlobals "need_statement" = some (some (.ref f5))) (l5 : K.lookup f5 = some ⟨oc5, od5, .func (PySem.W.fnOf "need_statement" "need_statement" (defArgs s_need_statement) (defBody s_need_statement) (defScope s_need_statement) .none kV5 dc5 pm5 an5 cd5 ct5), sl5⟩) (c5 : PySem.W.codeIn K cd5 "need_statement" = true) (k5 : PySem.W.keepIn K (.ref f5) = true)
    {od6 an6 : Option Addr} {sl6 : Array (Option Value)} {oc6 kV6 dc6 pm6 cd6 ct6 : Value}
    (a6 : PySem.W.nsIn K mainGlobals "need_program" = some (some (.ref f6))) (l6 : K.lookup f6 = some ⟨oc6, od6, .func (PySem.W.fnOf "need_program" "need_program" (defArgs s_need_program) (defBody s_need_program) (defScope s_need_program) .none kV6 dc6 pm6 an6 cd6 ct6), sl6⟩) (c6 : PySem.W.codeIn K cd6 "need_program" = true) (k6 : PySem.W.keepIn K (.ref f6) = true)
    {od7 an7 : Option Addr} {sl7 : Array (Option Value)} {oc7 kV7 dc7 pm7 cd7 ct7 : Value}
    (a7 : PySem.W.nsIn K mainGlobals "looked" = some (some (.ref f7))) (l7 : K.lookup f7 = some ⟨oc7, od7, .func (PySem.W.fnOf "looked" "looked" (defArgs s_looked) (defBody s_looked) (defScope s_looked) .none kV7 dc7 pm7 an7 cd7 ct7), sl7⟩) (c7 : PySem.W.codeIn K cd7 "looked" = true) (k7 : PySem.W.keepIn K (.ref f7) = true)
    {od8 an8 : Option Addr} {sl8 : Array (Option Value)} {oc8 kV8 dc8 pm8 cd8 ct8 : Value}
    (a8 : PySem.W.nsIn K mainGlobals "written" = some (some (.ref f8))) (l8 : K.lookup f8 = some ⟨oc8, od8, .func (PySem.W.fnOf "written" "written" (defArgs s_written) (defBody s_written) (defScope s_written) .none kV8 dc8 pm8 an8 cd8 ct8), sl8⟩) (c8 : PySem.W.codeIn K cd8 "written" = true) (k8 : PySem.W.keepIn K (.ref f8) = true)
    {od9 an9 : Option Addr} {sl9 : Array (Option Value)} {oc9 kV9 dc9 pm9 cd9 ct9 : Value}
    (a9 : PySem.W.nsIn K mainGlobals "_law_next" = some (some (.ref f9))) (l9 : K.lookup f9 = some ⟨oc9, od9, .func (PySem.W.fnOf "_law_next" "_law_next" (defArgs s__law_next) (defBody s__law_next) (defScope s__law_next) .none kV9 dc9 pm9 an9 cd9 ct9), sl9⟩) (c9 : PySem.W.codeIn K cd9 "_law_next" = true) (k9 : PySem.W.keepIn K (.ref f9) = true)
    {od10 an10 : Option Addr} {sl10 : Array (Option Value)} {oc10 kV10 dc10 pm10 cd10 ct10 : Value}
    (a10 : PySem.W.nsIn K mainGlobals "_law_names" = some (some (.ref f10))) (l10 : K.lookup f10 = some ⟨oc10, od10, .func (PySem.W.fnOf "_law_names" "_law_names" (defArgs s__law_names) (defBody s__law_names) (defScope s__law_names) .none kV10 dc10 pm10 an10 cd10 ct10), sl10⟩) (c10 : PySem.W.codeIn K cd10 "_law_names" = true) (k10 : PySem.W.keepIn K (.ref f10) = true)
    {od11 an11 : Option Addr} {sl11 : Array (Option Value)} {oc11 kV11 dc11 pm11 cd11 ct11 : Value}
    (a11 : PySem.W.nsIn K mainGlobals "_law_part" = some (some (.ref f11))) (l11 : K.lookup f11 = some ⟨oc11, od11, .func (PySem.W.fnOf "_law_part" "_law_part" (defArgs s__law_part) (defBody s__law_part) (defScope s__law_part) .none kV11 dc11 pm11 an11 cd11 ct11), sl11⟩) (c11 : PySem.W.codeIn K cd11 "_law_part" = true) (k11 : PySem.W.keepIn K (.ref f11) = true)
    {od12 an12 : Option Addr} {sl12 : Array (Option Value)} {oc12 kV12 dc12 pm12 cd12 ct12 : Value}
    (a12 : PySem.W.nsIn K mainGlobals "_law_measure" = some (some (.ref f12))) (l12 : K.lookup f12 = some ⟨oc12, od12, .func (PySem.W.fnOf "_law_measure" "_law_measure" (defArgs s__law_measure) (defBody s__law_measure) (defScope s__law_measure) .none kV12 dc12 pm12 an12 cd12 ct12), sl12⟩) (c12 : PySem.W.codeIn K cd12 "_law_measure" = true) (k12 : PySem.W.keepIn K (.ref f12) = true)
    {od13 an13 : Option Addr} {sl13 : Array (Option Value)} {oc13 kV13 dc13 pm13 cd13 ct13 : Value}
    (a13 : PySem.W.nsIn K mainGlobals "_law_lap" = some (some (.ref f13))) (l13 : K.lookup f13 = some ⟨oc13, od13, .func (PySem.W.fnOf "_law_lap" "_law_lap" (defArgs s__law_lap) (defBody s__law_lap) (defScope s__law_lap) .none kV13 dc13 pm13 an13 cd13 ct13), sl13⟩) (c13 : PySem.W.codeIn K cd13 "_law_lap" = true) (k13 : PySem.W.keepIn K (.ref f13) = true)
    {od14 an14 : Option Addr} {sl14 : Array (Option Value)} {oc14 kV14 dc14 pm14 cd14 ct14 : Value}
    (a14 : PySem.W.nsIn K mainGlobals "_law_grow" = some (some (.ref f14))) (l14 : K.lookup f14 = some ⟨oc14, od14, .func (PySem.W.fnOf "_law_grow" "_law_grow" (defArgs s__law_grow) (defBody s__law_grow) (defScope s__law_grow) .none kV14 dc14 pm14 an14 cd14 ct14), sl14⟩) (c14 : PySem.W.codeIn K cd14 "_law_grow" = true) (k14 : PySem.W.keepIn K (.ref f14) = true)
    {od15 an15 : Option Addr} {sl15 : Array (Option Value)} {oc15 kV15 dc15 pm15 cd15 ct15 : Value}
    (a15 : PySem.W.nsIn K mainGlobals "_law_row" = some (some (.ref f15))) (l15 : K.lookup f15 = some ⟨oc15, od15, .func (PySem.W.fnOf "_law_row" "_law_row" (defArgs s__law_row) (defBody s__law_row) (defScope s__law_row) .none kV15 dc15 pm15 an15 cd15 ct15), sl15⟩) (c15 : PySem.W.codeIn K cd15 "_law_row" = true) (k15 : PySem.W.keepIn K (.ref f15) = true)
    {od16 an16 : Option Addr} {sl16 : Array (Option Value)} {oc16 kV16 dc16 pm16 cd16 ct16 : Value}
    (a16 : PySem.W.nsIn K mainGlobals "_law_program" = some (some (.ref f16))) (l16 : K.lookup f16 = some ⟨oc16, od16, .func (PySem.W.fnOf "_law_program" "_law_program" (defArgs s__law_program) (defBody s__law_program) (defScope s__law_program) .none kV16 dc16 pm16 an16 cd16 ct16), sl16⟩) (c16 : PySem.W.codeIn K cd16 "_law_program" = true) (k16 : PySem.W.keepIn K (.ref f16) = true)
    {od17 an17 : Option Addr} {sl17 : Array (Option Value)} {oc17 kV17 dc17 pm17 cd17 ct17 : Value}
    (a17 : PySem.W.nsIn K mainGlobals "_law_bad_part" = some (some (.ref f17))) (l17 : K.lookup f17 = some ⟨oc17, od17, .func (PySem.W.fnOf "_law_bad_part" "_law_bad_part" (defArgs s__law_bad_part) (defBody s__law_bad_part) (defScope s__law_bad_part) .none kV17 dc17 pm17 an17 cd17 ct17), sl17⟩) (c17 : PySem.W.codeIn K cd17 "_law_bad_part" = true) (k17 : PySem.W.keepIn K (.ref f17) = true)
    {od18 an18 : Option Addr} {sl18 : Array (Option Value)} {oc18 kV18 dc18 pm18 cd18 ct18 : Value}
    (a18 : PySem.W.nsIn K mainGlobals "_law_bad" = some (some (.ref f18))) (l18 : K.lookup f18 = some ⟨oc18, od18, .func (PySem.W.fnOf "_law_bad" "_law_bad" (defArgs s__law_bad) (defBody s__law_bad) (defScope s__law_bad) .none kV18 dc18 pm18 an18 cd18 ct18), sl18⟩) (c18 : PySem.W.codeIn K cd18 "_law_bad" = true) (k18 : PySem.W.keepIn K (.ref f18) = true)
    {od19 an19 : Option Addr} {sl19 : Array (Option Value)} {oc19 kV19 dc19 pm19 cd19 ct19 : Value}
    (a19 : PySem.W.nsIn K mainGlobals "_law_spoilt" = some (some (.ref f19))) (l19 : K.lookup f19 = some ⟨oc19, od19, .func (PySem.W.fnOf "_law_spoilt" "_law_spoilt" (defArgs s__law_spoilt) (defBody s__law_spoilt) (defScope s__law_spoilt) .none kV19 dc19 pm19 an19 cd19 ct19), sl19⟩) (c19 : PySem.W.codeIn K cd19 "_law_spoilt" = true) (k19 : PySem.W.keepIn K (.ref f19) = true)
    {od20 an20 : Option Addr} {sl20 : Array (Option Value)} {oc20 kV20 dc20 pm20 cd20 ct20 : Value}
    (a20 : PySem.W.nsIn K mainGlobals "_law_refused" = some (some (.ref f20))) (l20 : K.lookup f20 = some ⟨oc20, od20, .func (PySem.W.fnOf "_law_refused" "_law_refused" (defArgs s__law_refused) (defBody s__law_refused) (defScope s__law_refused) .none kV20 dc20 pm20 an20 cd20 ct20), sl20⟩) (c20 : PySem.W.codeIn K cd20 "_law_refused" = true) (k20 : PySem.W.keepIn K (.ref f20) = true)
    {od21 an21 : Option Addr} {sl21 : Array (Option Value)} {oc21 kV21 dc21 pm21 cd21 ct21 : Value}
    (a21 : PySem.W.nsIn K mainGlobals "law" = some (some (.ref f21))) (l21 : K.lookup f21 = some ⟨oc21, od21, .func (PySem.W.fnOf "law" "law" (defArgs s_law) (defBody s_law) (defScope s_law) .none kV21 dc21 pm21 an21 cd21 ct21), sl21⟩) (c21 : PySem.W.codeIn K cd21 "law" = true) (k21 : PySem.W.keepIn K (.ref f21) = true)
    {X0 : Addr} (xa0 : PySem.W.nsIn K mainGlobals "BadForm" = some (some (.ref X0))) (xx0 : PySem.W.excIn K X0 [.type "ValueError", .type "Exception", .type "BaseException", .type "object"] "ValueError.__new__" = true) (xk0 : PySem.W.keepIn K (.ref X0) = true)
    (xb0 : PySem.W.subIn K (.ref X0) (.type "BaseException") = some true) (xt0 : PySem.W.typeIn K (.ref X0) = some (.type "type")) (xi0 : PySem.W.isClsIn K X0 = true) (xs0 : PySem.W.subIn K (.ref X0) (.ref X0) = some true)
    {LC DC NF UN : Addr} {tk1 tk2 tk3 tk4 tk5 tk6 : Tok}
    (yl : PySem.W.nsIn K mainGlobals "LapError" = some (some (.ref LC)))
    (yb : PySem.W.nsIn K mainGlobals "Dry" = some (some (.ref DC)))
    (yn : PySem.W.nsIn K mainGlobals "NeedntFall" = some (some (.ref NF)))
    (yu : PySem.W.nsIn K mainGlobals "Uneven" = some (some (.ref UN)))
    (yls : PySem.W.subIn K (.ref LC) (.type "BaseException") = some true)
    (yld : PySem.W.hasDictIn K LC = true)
    (ylt : PySem.W.typeIn K (.ref LC) = some (.type "type"))
    (ylx : PySem.W.subIn K (.ref X0) (.ref LC) = some true)
    (ye1 : PySem.W.findIn K (.ref X0) "__getattribute__" = some (some (.builtin "BaseException.__getattribute__")))
    (ye2 : PySem.W.findIn K (.ref X0) "__getattr__" = some none)
    (ye4 : PySem.W.hasDictIn K X0 = true)
    (ye5 : PySem.W.findIn K (.ref X0) "__class__" = some (some (.builtin "object.__class__")))
    (ye6 : PySem.W.specialIn K (.builtin "object.__class__") "__get__" = some (some (.builtin "getset_descriptor.__get__")))
    (ye7 : PySem.W.takesIn K (.builtin "object.__class__") = some true)
    (ye8 : PySem.W.mroIn K X0 (.type "object") = some true)
    (yk1 : PySem.W.kitOne K (.ref X0) (.ref DC) = some false)
    (yk2 : PySem.W.kitOne K (.ref X0) (.ref NF) = some false)
    (yk3 : PySem.W.kitOne K (.ref X0) (.ref UN) = some false)
    (yk4 : PySem.W.kitOne K (.ref X0) (.ref X0) = some true)
    (yk5 : PySem.W.kitOne K (.ref X0) (.type "ValueError") = some true)
    (yzv : PySem.W.nsIn K mainGlobals "ValueError" = some none)
    (yc1 : PySem.W.nsIn K mainGlobals "LETTERS" = some (some (.str "abcdefghijklmnopqrstuvwxyz" tk1)))
    (yc2 : PySem.W.nsIn K mainGlobals "LONGEST" = some (some (.int 8 tk2)))
    (yc3 : PySem.W.nsIn K mainGlobals "MOST_NUMBER" = some (some (.int 999 tk3)))
    (yc4 : PySem.W.nsIn K mainGlobals "MOST_DEEP" = some (some (.int 5 tk4)))
    (yc5 : PySem.W.nsIn K mainGlobals "MOST_LAPS" = some (some (.int 3 tk5)))
    (yc6 : PySem.W.nsIn K mainGlobals "MOST_STATEMENTS" = some (some (.int 40 tk6)))
    (z_abs : PySem.W.nsIn K mainGlobals "abs" = some none)
    (z_len : PySem.W.nsIn K mainGlobals "len" = some none)
    (z_max : PySem.W.nsIn K mainGlobals "max" = some none)
    (z_min : PySem.W.nsIn K mainGlobals "min" = some none)
    (z_list : PySem.W.nsIn K mainGlobals "list" = some none)
    (z_range : PySem.W.nsIn K mainGlobals "range" = some none)
    (z_isinstance : PySem.W.nsIn K mainGlobals "isinstance" = some none)
    (z_tuple : PySem.W.nsIn K mainGlobals "tuple" = some none)
    (z_int : PySem.W.nsIn K mainGlobals "int" = some none)
    (z_bool : PySem.W.nsIn K mainGlobals "bool" = some none)
    (z_str : PySem.W.nsIn K mainGlobals "str" = some none)
    (z_dict : PySem.W.nsIn K mainGlobals "dict" = some none)
    (z_sorted : PySem.W.nsIn K mainGlobals "sorted" = some none)
    (z_set : PySem.W.nsIn K mainGlobals "set" = some none)
    (z_enumerate : PySem.W.nsIn K mainGlobals "enumerate" = some none)
    (z_reversed : PySem.W.nsIn K mainGlobals "reversed" = some none)
    (z_sum : PySem.W.nsIn K mainGlobals "sum" = some none)
    (z_all : PySem.W.nsIn K mainGlobals "all" = some none)
    (z_any : PySem.W.nsIn K mainGlobals "any" = some none)
    : ∃ fd : FuncData, (∀ (s : Shared) (v : Value), BindsTo s fd ⟨[v], []⟩ [("_law_script", v)]) ∧ ∀ base : Heap, K.In base → base.Ns mainGlobals mg → FnOk l.prog w K mg base CX0 22 fa fd ["_law_script"] (spLaw K) := by
  have e := hfa.symm.trans (PySem.W.mg_of X G a21)
  cases e
  have T : Blt mg := ⟨PySem.W.mg_none_of X G z_abs, PySem.W.mg_none_of X G z_len, PySem.W.mg_none_of X G z_max, PySem.W.mg_none_of X G z_min, PySem.W.mg_none_of X G z_list, PySem.W.mg_none_of X G z_range, PySem.W.mg_none_of X G z_isinstance, PySem.W.mg_none_of X G z_tuple, PySem.W.mg_none_of X G z_int, PySem.W.mg_none_of X G z_bool, PySem.W.mg_none_of X G z_str, PySem.W.mg_none_of X G z_dict, PySem.W.mg_none_of X G z_sorted, PySem.W.mg_none_of X G z_set, PySem.W.mg_none_of X G z_enumerate, PySem.W.mg_none_of X G z_reversed, PySem.W.mg_none_of X G z_sum, PySem.W.mg_none_of X G z_all, PySem.W.mg_none_of X G z_any⟩
  have F0 : Here K mg "need" s_need ["good"] := here_mk (st := s_need) X G a0 l0 c0 k0 (fun us hl => match us, hl with | [_], _ => rfl)
  have F1 : Here K mg "need_name" s_need_name ["x"] := here_mk (st := s_need_name) X G a1 l1 c1 k1 (fun us hl => match us, hl with | [_], _ => rfl)
  have F2 : Here K mg "need_tuple" s_need_tuple ["thing", "many"] := here_mk (st := s_need_tuple) X G a2 l2 c2 k2 (fun us hl => match us, hl with | [_, _], _ => rfl)
  have F3 : Here K mg "need_part" s_need_part ["part", "deep"] := here_mk (st := s_need_part) X G a3 l3 c3 k3 (fun us hl => match us, hl with | [_, _], _ => rfl)
  have F4 : Here K mg "need_row" s_need_row ["row", "laps"] := here_mk (st := s_need_row) X G a4 l4 c4 k4 (fun us hl => match us, hl with | [_, _], _ => rfl)
  have F5 : Here K mg "need_statement" s_need_statement ["one", "laps"] := here_mk (st := s_need_statement) X G a5 l5 c5 k5 (fun us hl => match us, hl with | [_, _], _ => rfl)
  have F6 : Here K mg "need_program" s_need_program ["program"] := here_mk (st := s_need_program) X G a6 l6 c6 k6 (fun us hl => match us, hl with | [_], _ => rfl)
  have F7 : Here K mg "looked" s_looked ["program"] := here_mk (st := s_looked) X G a7 l7 c7 k7 (fun us hl => match us, hl with | [_], _ => rfl)
  have F8 : Here K mg "written" s_written ["program"] := here_mk (st := s_written) X G a8 l8 c8 k8 (fun us hl => match us, hl with | [_], _ => rfl)
  have F9 : Here K mg "_law_next" s__law_next ["_law_h", "_law_many"] := here_mk (st := s__law_next) X G a9 l9 c9 k9 (fun us hl => match us, hl with | [_, _], _ => rfl)
  have F10 : Here K mg "_law_names" s__law_names ["_law_h"] := here_mk (st := s__law_names) X G a10 l10 c10 k10 (fun us hl => match us, hl with | [_], _ => rfl)
  have F11 : Here K mg "_law_part" s__law_part ["_law_h", "_law_some", "_law_deep"] := here_mk (st := s__law_part) X G a11 l11 c11 k11 (fun us hl => match us, hl with | [_, _, _], _ => rfl)
  have F12 : Here K mg "_law_measure" s__law_measure ["_law_h", "_law_guard", "_law_calm"] := here_mk (st := s__law_measure) X G a12 l12 c12 k12 (fun us hl => match us, hl with | [_, _, _], _ => rfl)
  have F13 : Here K mg "_law_lap" s__law_lap ["_law_h", "_law_names_here", "_law_depth", "_law_odd"] := here_mk (st := s__law_lap) X G a13 l13 c13 k13 (fun us hl => match us, hl with | [_, _, _, _], _ => rfl)
  have F14 : Here K mg "_law_grow" s__law_grow ["_law_h", "_law_low", "_law_some"] := here_mk (st := s__law_grow) X G a14 l14 c14 k14 (fun us hl => match us, hl with | [_, _, _], _ => rfl)
  have F15 : Here K mg "_law_row" s__law_row ["_law_h", "_law_names_here", "_law_depth", "_law_odd"] := here_mk (st := s__law_row) X G a15 l15 c15 k15 (fun us hl => match us, hl with | [_, _, _, _], _ => rfl)
  have F16 : Here K mg "_law_program" s__law_program ["_law_h", "_law_names_here", "_law_odd"] := here_mk (st := s__law_program) X G a16 l16 c16 k16 (fun us hl => match us, hl with | [_, _, _], _ => rfl)
  have F17 : Here K mg "_law_bad_part" s__law_bad_part ["_law_h"] := here_mk (st := s__law_bad_part) X G a17 l17 c17 k17 (fun us hl => match us, hl with | [_], _ => rfl)
  have F18 : Here K mg "_law_bad" s__law_bad ["_law_h"] := here_mk (st := s__law_bad) X G a18 l18 c18 k18 (fun us hl => match us, hl with | [_], _ => rfl)
  have F19 : Here K mg "_law_spoilt" s__law_spoilt ["_law_h", "_law_program_here", "_law_names_here"] := here_mk (st := s__law_spoilt) X G a19 l19 c19 k19 (fun us hl => match us, hl with | [_, _, _], _ => rfl)
  have F20 : Here K mg "_law_refused" s__law_refused ["_law_way", "_law_program_here"] := here_mk (st := s__law_refused) X G a20 l20 c20 k20 (fun us hl => match us, hl with | [_, _], _ => rfl)
  exact ⟨_, fun s v => .of_eq rfl, fun base _ _ => glue T F0 F1 F2 F3 F4 F5 F6 F7 F8 F9 F10 F11 F12 F13 F14 F15 F16 F17 F18 F19 F20 ⟨PySem.W.mg_of X G xa0, xx0, xk0, xb0, xt0, exm_self xb0 xi0 xt0 xs0⟩ ⟨PySem.W.mg_of X G yl, PySem.W.exm_ref yls yld ylt ylx, ⟨ye1, ye2, xb0, ye4, ye5, ye6, ye7, ye8⟩, PySem.W.mg_of X G yb, PySem.W.mg_of X G yn, PySem.W.mg_of X G yu, PySem.W.mg_of X G xa0, yk1, yk2, yk3, yk4, yk5, PySem.W.mg_none_of X G yzv⟩ ⟨⟨_, PySem.W.mg_of X G yc1⟩, ⟨_, PySem.W.mg_of X G yc2⟩, ⟨_, PySem.W.mg_of X G yc3⟩, ⟨_, PySem.W.mg_of X G yc4⟩, ⟨_, PySem.W.mg_of X G yc5⟩, ⟨_, PySem.W.mg_of X G yc6⟩⟩ (fun_mk (st := s_law) l21 c21 k21)⟩
end Lf
open PySem PySem.W PyProof.Rows
set_option maxRecDepth 100000 in
set_option maxHeartbeats 0 in
theorem PySem.Challenge.cw_lapfold_k05_programs_refused_holds : PySem.Challenge.rw_lapfold_k05_programs_refused.Holds := by
  w_on; o_law; k_head; (case hw => w_witness2)
  k_fill
  refine L2.walk_of (l := PySem.Challenge.rw_lapfold_k05_programs_refused) (n := 63) (k := 22) (x := "_law_script") (CX := fun _ => L2.CX0) (sp := fun w => Lf.spLaw _) rfl (by decide) rfl ⟨rfl, by decide, by decide⟩ (fun w h Y => PySem.W.kIn_of Y) ?F (fun _ _ a ns hl _ hS => ⟨a, ns, rfl, hS, hl, fun _ => rfl⟩) fun _ _ _ _ _ z => z
  case F =>
    intro w mg fa h KX G hmg
    refine' Lf.all_mk KX G hmg ?a0 ?l0 ?c0 ?k0 ?a1 ?l1 ?c1 ?k1 ?a2 ?l2 ?c2 ?k2 ?a3 ?l3 ?c3 ?k3 ?a4 ?l4 ?c4 ?k4 ?a5 ?l5 ?c5 ?k5 ?a6 ?l6 ?c6 ?k6 ?a7 ?l7 ?c7 ?k7 ?a8 ?l8 ?c8 ?k8 ?a9 ?l9 ?c9 ?k9 ?a10 ?l10 ?c10 ?k10 ?a11 ?l11 ?c11 ?k11 ?a12 ?l12 ?c12 ?k12 ?a13 ?l13 ?c13 ?k13 ?a14 ?l14 ?c14 ?k14 ?a15 ?l15 ?c15 ?k15 ?a16 ?l16 ?c16 ?k16 ?a17 ?l17 ?c17 ?k17 ?a18 ?l18 ?c18 ?k18 ?a19 ?l19 ?c19 ?k19 ?a20 ?l20 ?c20 ?k20 ?a21 ?l21 ?c21 ?k21 ?xa0 ?xx0 ?xk0 ?xb0 ?xt0 ?xi0 ?xs0 ?yl ?yb ?yn ?yu ?yls ?yld ?ylt ?ylx ?ye1 ?ye2 ?ye4 ?ye5 ?ye6 ?ye7 ?ye8 ?yk1 ?yk2 ?yk3 ?yk4 ?yk5 ?yzv ?yc1 ?yc2 ?yc3 ?yc4 ?yc5 ?yc6 ?z_abs ?z_len ?z_max ?z_min ?z_list ?z_range ?z_isinstance ?z_tuple ?z_int ?z_bool ?z_str ?z_dict ?z_sorted ?z_set ?z_enumerate ?z_reversed ?z_sum ?z_all ?z_any
    (case a0 => k_is)
    (case l0 => k_is)
    (case c0 => k_is)
    (case k0 => k_is)
    (case a1 => k_is)
    (case l1 => k_is)
    (case c1 => k_is)
    (case k1 => k_is)
    (case a2 => k_is)
    (case l2 => k_is)
    (case c2 => k_is)
    (case k2 => k_is)
    (case a3 => k_is)
    (case l3 => k_is)
    (case c3 => k_is)
    (case k3 => k_is)
    (case a4 => k_is)
    (case l4 => k_is)
    (case c4 => k_is)
    (case k4 => k_is)
    (case a5 => k_is)
    (case l5 => k_is)
    (case c5 => k_is)
    (case k5 => k_is)
    (case a6 => k_is)
    (case l6 => k_is)
    (case c6 => k_is)
    (case k6 => k_is)
    (case a7 => k_is)
    (case l7 => k_is)
    (case c7 => k_is)
    (case k7 => k_is)
    (case a8 => k_is)
    (case l8 => k_is)
    (case c8 => k_is)
    (case k8 => k_is)
    (case a9 => k_is)
    (case l9 => k_is)
    (case c9 => k_is)
    (case k9 => k_is)
    (case a10 => k_is)
    (case l10 => k_is)
    (case c10 => k_is)
    (case k10 => k_is)
    (case a11 => k_is)
    (case l11 => k_is)
    (case c11 => k_is)
    (case k11 => k_is)
    (case a12 => k_is)
    (case l12 => k_is)
    (case c12 => k_is)
    (case k12 => k_is)
    (case a13 => k_is)
    (case l13 => k_is)
    (case c13 => k_is)
    (case k13 => k_is)
    (case a14 => k_is)
    (case l14 => k_is)
    (case c14 => k_is)
    (case k14 => k_is)
    (case a15 => k_is)
    (case l15 => k_is)
    (case c15 => k_is)
    (case k15 => k_is)
    (case a16 => k_is)
    (case l16 => k_is)
    (case c16 => k_is)
    (case k16 => k_is)
    (case a17 => k_is)
    (case l17 => k_is)
    (case c17 => k_is)
    (case k17 => k_is)
    (case a18 => k_is)
    (case l18 => k_is)
    (case c18 => k_is)
    (case k18 => k_is)
    (case a19 => k_is)
    (case l19 => k_is)
    (case c19 => k_is)
    (case k19 => k_is)
    (case a20 => k_is)
    (case l20 => k_is)
    (case c20 => k_is)
    (case k20 => k_is)
    (case a21 => k_is)
    (case l21 => k_is)
    (case c21 => k_is)
    (case k21 => k_is)
    (case xa0 => k_is)
    (case xx0 => k_exc)
    (case xk0 => k_is)
    (case xb0 => k_is)
    (case xt0 => k_is)
    (case xi0 => k_is)
    (case xs0 => first | rfl | k_is)
    (case yl => k_is)
    (case yb => k_is)
    (case yn => k_is)
    (case yu => k_is)
    (case yls => k_is)
    (case yld => k_is)
    (case ylt => k_is)
    (case ylx => k_is)
    (case ye1 => k_is)
    (case ye2 => k_is)
    (case ye4 => k_is)
    (case ye5 => k_is)
    (case ye6 => first | k_is | rfl)
    (case ye7 => first | k_is | rfl)
    (case ye8 => k_is)
    (case yk1 => first | k_is | rfl)
    (case yk2 => first | k_is | rfl)
    (case yk3 => first | k_is | rfl)
    (case yk4 => first | k_is | rfl)
    (case yk5 => first | k_is | rfl)
    (case yzv => k_is)
    (case yc1 => k_is)
    (case yc2 => k_is)
    (case yc3 => k_is)
    (case yc4 => k_is)
    (case yc5 => k_is)
    (case yc6 => k_is)
    (case z_abs => k_is)
    (case z_len => k_is)
    (case z_max => k_is)
    (case z_min => k_is)
    (case z_list => k_is)
    (case z_range => k_is)
    (case z_isinstance => k_is)
    (case z_tuple => k_is)
    (case z_int => k_is)
    (case z_bool => k_is)
    (case z_str => k_is)
    (case z_dict => k_is)
    (case z_sorted => k_is)
    (case z_set => k_is)
    (case z_enumerate => k_is)
    (case z_reversed => k_is)
    (case z_sum => k_is)
    (case z_all => k_is)
    (case z_any => k_is)
#print axioms PySem.Challenge.cw_lapfold_k05_programs_refused_holds
