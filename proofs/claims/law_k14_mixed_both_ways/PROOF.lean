import PyProof.Rows.All
import Wide.All
import OpenK.AllK
import Wide.FinOn
import HandS.ForMost
import HandS.Exc
import HandS.ExcOwn
import HandS.ExcInit
import HandS.ExcIs
import HandS.WordsExc
import HandS.Defaults
import HandS.IsInst
import HandS.CallLocal
import HandS.RevRange
import HandS.Rev
import HandS.Zip
import HandS.Style
import HandS.Wide
import HandS.WideBits
import HandS.Head0
import HandS.Head1
import HandS.Head2
import HandS.HeadEnd
import HandS.HeadHook1
import HandS.HeadHook2
import HandS.ExcField
import HandS.HeadWalk
import HandS.DeepEq
import HandS.TupAny
import PySem.Challenge.RW_splitwide_k14_mixed_both_ways
set_option Elab.async false
set_option linter.all false
set_option maxRecDepth 100000
set_option maxHeartbeats 0
/-! Own words over the layer: the head's facts as a Bool, callable defs, errors of the program's own. -/
namespace Sw
open PySem PySem.Spec PyProof.Rows L2
abbrev Fg := PySem.W.Frag
/-! ### the head: any Bool over the written part, and the defs -/
def obX (p : Fg → Bool) (fn : List He.DefD) (K : Fg) : He.AlD := (p K && fn.all (fun d => d.ok K), fn.map fun d => He.fnW K d.at_)
/-- what the module's names, and the table of the classes' own, reach in n steps -/
def asX (g : Addr → Option Obj) : Nat → List Addr
  | 0 => [mainGlobals, PySem.cStatics]
  | n + 1 => He.growD g (asX g n)
def sayX (p : Fg → Bool) (fn : List He.DefD) (K : Fg) : Prop := obX p fn K = He.valD fn
def hkX (n : Nat) (p : Fg → Bool) (fn : List He.DefD) : PySem.W.Hook where
  α := He.AlD
  obs := fun s => obX p fn (He.frG s.heap.get? (asX s.heap.get? n))
  val := fun _ => He.valD fn
  says := fun _ h => ∃ K : Fg, K.In h ∧ sayX p fn K
  of := fun _ _ e => ⟨_, He.frG_in, e⟩
  keeps := fun _ _ _ ⟨K, hK, c⟩ k => ⟨K, PySem.W.Frag.In.keeps hK k, c⟩
theorem obX_eq {n : Nat} {p : Fg → Bool} {fn : List He.DefD} {g : Addr → Option Obj} {s : Shared} (h : ∀ a, g a = s.heap.get? a) : obX p fn (He.frG g (asX g n)) = (hkX n p fn).obs s := by
  rw [show g = s.heap.get? from funext h] <;> rfl
theorem sayX.p {p : Fg → Bool} {fn : List He.DefD} {K : Fg} (c : sayX p fn K) : p K = true := (He.ba (congrArg (·.1) c)).1
theorem sayX.def_ {p : Fg → Bool} {fn : List He.DefD} {K : Fg} (c : sayX p fn K) (i : Nat) {d : He.DefD} (h : fn[i]? = some d := by rfl) :
    ∃ fd, FunD K d.name d.qual d.params d.body d.scope (d.dvs K) (d.kws K) (He.fAd K d.at_) fd := by
  have c2 : (fn.all fun d => d.ok K) = true := (He.ba (congrArg (·.1) c)).2
  have e : fn.map (fun d => He.fnW K d.at_) = fn.map He.DefD.val := congrArg (·.2) c
  have e2 : (fn.map fun d => He.fnW K d.at_)[i]? = (fn.map He.DefD.val)[i]? := by rw [e]
  rw [List.getElem?_map, List.getElem?_map, h] at e2
  exact He.DefD.funD (Option.some.inj e2) (List.all_eq_true.mp c2 d (List.mem_of_getElem? h))
/-! ### a def that may be called by its name -/
structure Cal (P : Program) (w : World) (K : Fg) (mg : Str → Option Value) (base : Heap) (k : Nat) (x : Str) (ps : List Str) (sp : Sp) : Prop where
  ex : ∃ fd : FuncData, FnOk P w K mg base (L2.CX P w) k (He.ga K x) fd ps sp ∧ Binds K fd ps []
  at_ : mg x = some (.ref (He.ga K x))
  kp : PySem.W.keepIn K (.ref (He.ga K x)) = true
section
variable {X : Cx} {k j : Nat} {x : Str} {ps : List Str} {sp : Sp} {E : XK} {p pos : Pos} {e : Expr} {es : List Expr} {t : TA}
theorem pe_cal (c : Cal X.prog X.w X.K X.mg X.base k x ps sp) (hr : Room j X.A) (hk : k ≤ j) (hx : Passes (L2.CX X.prog X.w) X E) (hg : Gl X x) (ha : PA X (e :: es) t)
    (hd : (x == ("__debug__" : Str)) = false := by decide) (he : starEach (e :: es) X.env = (false, eval e X.env) :: starEach es X.env := by rfl) (hpl : (backTo pos (starEach es X.env)).any (·.1) = false := by rfl) :
    PE X (.Call (.Name x p) (e :: es) [] pos) (tCall sp [] E t) := by
  obtain ⟨fd, F, b⟩ := c.ex
  exact pe_call F (hr.mono hk) hg c.at_ c.kp b .nil hx ha hd he hpl
theorem pe_cal0 (c : Cal X.prog X.w X.K X.mg X.base k x ps sp) (hr : Room j X.A) (hk : k ≤ j) (hx : Passes (L2.CX X.prog X.w) X E) (hg : Gl X x)
    (hd : (x == ("__debug__" : Str)) = false := by decide) : PE X (.Call (.Name x p) [] [] pos) (tCall sp [] E tNil) := by
  obtain ⟨fd, F, b⟩ := c.ex
  exact pe_call0 F (hr.mono hk) hg c.at_ c.kp b .nil hx hd
/-- within a try's body -/
theorem pe_calS {W : WX} (c : Cal X.prog X.w X.K X.mg X.base k x ps sp) (hr : Room j X.A) (hk : k ≤ j) (tk : Takes X W) (hg : Gl X x) (ha : PA X (e :: es) t)
    (hd : (x == ("__debug__" : Str)) = false := by decide) (he : starEach (e :: es) X.env = (false, eval e X.env) :: starEach es X.env := by rfl) (hpl : (backTo pos (starEach es X.env)).any (·.1) = false := by rfl) :
    PE X (.Call (.Name x p) (e :: es) [] pos) (tCallS sp (WE W) t) := by
  obtain ⟨fd, F, b⟩ := c.ex
  exact pe_callS F (hr.mono hk) hg c.at_ c.kp b (fun σ => passAt tk σ) ha hd he hpl
end
/-- one def of the text: its body's reading gives its promise -/
theorem cal_mk {P : Program} {w : World} {K : Fg} {mg : Str → Option Value} {base : Heap} {k : Nat} {x : Str} {N ps : List Str} {sp : Sp} {st : Stmt}
    (F : ∃ fd, FunD K x x (defArgs st) (defBody st) (defScope st) [] [] (He.ga K x) fd) (hm : mg x = some (.ref (He.ga K x))) (S : FnScope N ps (defScope st)) (len : ∀ vs H Q E, sp vs H Q E → vs.length = ps.length)
    (hb : ∀ (kV doc pm : Value) (an : Option Addr) (cdv ct : Value) (us : List Value), us.length = ps.length → bindArgs (PySem.W.fnOf x x (defArgs st) (defBody st) (defScope st) .none kV doc pm an cdv ct) ⟨us, []⟩ = pure (ps.zip us))
    (hbody : ∀ (cdv : Value) (A : Around) (outer : List Env) (s : Shared) (H : Hp) (vs : List V) (Q : VK) (E : XK), Room k (A.deeper (envOfC x (defScope st) s.heap.objs.size (He.ga K x) cdv)) → sp vs H Q E →
      ∃ t, PSs (cxOf (L2.CX P w) P w K mg base N x (defScope st) (He.ga K x) cdv A outer s H E) (defBody st) t ∧ t { nx := fun _ H' => Q .non H', rt := Q } (start N vs) H) : Cal P w K mg base (k + 1) x ps sp := by
  obtain ⟨fd, F⟩ := F
  exact ⟨⟨fd, F.ok S len hbody, F.bindsN hb⟩, hm, F.kp⟩
theorem Cal.imp {P : Program} {w : World} {K : Fg} {mg : Str → Option Value} {base : Heap} {k : Nat} {x : Str} {ps : List Str} {sp sp' : Sp} (c : Cal P w K mg base k x ps sp) (h : ∀ vs H Q E, sp' vs H Q E → sp vs H Q E) :
    Cal P w K mg base k x ps sp' := by
  obtain ⟨⟨fd, F, b⟩, a, kp⟩ := c
  exact ⟨⟨fd, F.imp h, b⟩, a, kp⟩
end Sw

/-! Readings by simp: each reading opened when it stands at its slots and its heap, branches kept shut. -/
namespace Sw
open PySem PySem.Spec PyProof.Rows L2
/-- a branch that waits -/
def Br (b : Bool) (f g : L2.St → Hp → Prop) (σ : L2.St) (H : Hp) : Prop := if b = true then f σ H else g σ H
theorem Br.t {f g : L2.St → Hp → Prop} {σ : L2.St} {H : Hp} : Br true f g σ H = f σ H := by unfold Br; rw [if_pos rfl]
theorem Br.f {f g : L2.St → Hp → Prop} {σ : L2.St} {H : Hp} : Br false f g σ H = g σ H := by unfold Br; rw [if_neg (by decide)]
theorem Br.of {b : Bool} {f g : L2.St → Hp → Prop} {σ : L2.St} {H : Hp} (h1 : b = true → f σ H) (h2 : b = false → g σ H) : Br b f g σ H := by
  cases b with
  | true => rw [Br.t]; exact h1 rfl
  | false => rw [Br.f]; exact h2 rfl
theorem Br.d {p : Prop} [Decidable p] {f g : L2.St → Hp → Prop} {σ : L2.St} {H : Hp} (h1 : p → f σ H) (h2 : ¬ p → g σ H) : Br (decide p) f g σ H := .of (fun h => h1 (of_decide_eq_true h)) fun h => h2 (of_decide_eq_false h)
theorem Br.n {p : Prop} [Decidable p] {f g : L2.St → Hp → Prop} {σ : L2.St} {H : Hp} (h1 : ¬ p → f σ H) (h2 : p → g σ H) : Br (!decide p) f g σ H := .of (fun h => h1 (of_decide_eq_false (by simpa using h))) fun h => h2 (by simpa using h)
/-- a value's branch that waits -/
def Be (b : Bool) (f g : Hp → Prop) (H : Hp) : Prop := if b = true then f H else g H
theorem Be.t {f g : Hp → Prop} {H : Hp} : Be true f g H = f H := by unfold Be; rw [if_pos rfl]
theorem Be.f {f g : Hp → Prop} {H : Hp} : Be false f g H = g H := by unfold Be; rw [if_neg (by decide)]
theorem Be.of {b : Bool} {f g : Hp → Prop} {H : Hp} (h1 : b = true → f H) (h2 : b = false → g H) : Be b f g H := by
  cases b with
  | true => rw [Be.t]; exact h1 rfl
  | false => rw [Be.f]; exact h2 rfl
theorem Be.d {p : Prop} [Decidable p] {f g : Hp → Prop} {H : Hp} (h1 : p → f H) (h2 : ¬ p → g H) : Be (decide p) f g H := .of (fun h => h1 (of_decide_eq_true h)) fun h => h2 (of_decide_eq_false h)
theorem Be.n {p : Prop} [Decidable p] {f g : Hp → Prop} {H : Hp} (h1 : ¬ p → f H) (h2 : p → g H) : Be (!decide p) f g H := .of (fun h => h1 (of_decide_eq_false (by simpa using h))) fun h => h2 (by simpa using h)
theorem upd_at {H : Hp} {a b : Addr} {o : HO} : upd H a o b = if b = a then some o else H b := rfl
theorem rs : (∀ t u D σ H, tSeq t u D σ H = t ⟨u D, D.rt, D.bk, D.ct⟩ σ H) ∧ (∀ D σ H, tNext D σ H = D.nx σ H) ∧ (∀ D σ H, tBreak D σ H = D.bk σ H) ∧ (∀ D σ H, tCont D σ H = D.ct σ H) ∧
    (∀ te g D σ H, tAsg te g D σ H = te σ H fun x H1 => g x σ H1 D.nx) ∧ (∀ te D σ H, tDrop te D σ H = te σ H fun _ H1 => D.nx σ H1) ∧ (∀ te D σ H, tRet te D σ H = te σ H D.rt) ∧ (∀ D σ H, tRetN D σ H = D.rt .non H) ∧
    (∀ c t u D σ H, tIfS c t u D σ H = c σ H fun b H1 => Br b (t D) (u D) σ H1) ∧
    (∀ i j ta D σ H, tPar i j ta D σ H = ta σ H fun vs H1 => ∃ v w, vs = [v, w] ∧ D.nx ((σ.set i (some v)).set j (some w)) H1) ∧
    (∀ i te ti D σ H, tAug i te ti D σ H = ∃ x, σ[i]? = some (some x) ∧ te σ H fun y H1 => ti x y H1 fun z H2 => D.nx (σ.set i (some z)) H2) ∧
    (∀ i v σ H Q, gName i v σ H Q = Q (σ.set i (some v)) H) ∧ (∀ vs σ H Q, gNil vs σ H Q = (vs = [] ∧ Q σ H)) ∧ (∀ t u vs σ H Q, gCons t u vs σ H Q = ∃ v r, vs = v :: r ∧ t v σ H fun σ' H' => u r σ' H' Q) ∧
    (∀ to ti t v σ H Q, gSub to ti t v σ H Q = to σ H fun o H1 => ti σ H1 fun i H2 => t o i v H2 fun H3 => Q σ H3) ∧
    (∀ b f g σ H, Br b f g σ H = Br b f g σ H) := by
  refine ⟨?_, ?_, ?_, ?_, ?_, ?_, ?_, ?_, ?_, ?_, ?_, ?_, ?_, ?_, ?_, ?_⟩ <;> intros <;> rfl
theorem re : (∀ i σ H Q, tVar i σ H Q = ∃ v, σ[i]? = some (some v) ∧ Q v H) ∧ (∀ v σ H Q, tC v σ H Q = Q v H) ∧
    (∀ r ta tb σ H Q, tOp r ta tb σ H Q = ta σ H fun x H1 => tb σ H1 fun y H2 => r x y H2 Q) ∧ (∀ r ta σ H Q, tUn r ta σ H Q = ta σ H fun x H1 => r x H1 Q) ∧
    (∀ g x y H Q, rI0 g x y H Q = ∃ i j, x = .int i ∧ y = .int j ∧ Q (g i j) H) ∧ (∀ C g x y H Q, rI C g x y H Q = ∃ i j, x = .int i ∧ y = .int j ∧ C i j ∧ Q (g i j) H) ∧ (∀ g x H Q, rU g x H Q = ∃ i, x = .int i ∧ Q (g i) H) ∧
    (∀ x y H Q, L2.rEq x y H Q = (scal x y = true ∧ Q (.bl (decide (x = y))) H)) ∧ (∀ x y H Q, L2.rNe x y H Q = (scal x y = true ∧ Q (.bl (!decide (x = y))) H)) ∧
    (∀ t σ H Q, tTest t σ H Q = t σ H fun x H1 => ∃ k, x = .bl k ∧ Q k H1) ∧ (∀ t σ H Q, tB t σ H Q = t σ H fun x H1 => ∃ k, x = .bl k ∧ Q k H1) ∧
    (∀ t u σ H Q, tAnd t u σ H Q = t σ H fun c H1 => Be c (fun H2 => u σ H2 Q) (Q false) H1) ∧ (∀ t u σ H Q, tOr t u σ H Q = t σ H fun c H1 => Be c (Q true) (fun H2 => u σ H2 Q) H1) ∧ (∀ t σ H Q, tNot t σ H Q = t σ H fun c H1 => Q (!c) H1) ∧
    (∀ ta tb σ H Q, tAndV ta tb σ H Q = ta σ H fun x H1 => ∃ c, x = .bl c ∧ Be c (fun H2 => tb σ H2 Q) (Q (.bl false)) H1) ∧ (∀ ta tb σ H Q, tOrV ta tb σ H Q = ta σ H fun x H1 => ∃ c, x = .bl c ∧ Be c (Q (.bl true)) (fun H2 => tb σ H2 Q) H1) ∧
    (∀ ta σ H Q, tNotV ta σ H Q = ta σ H fun x H1 => ∃ c, x = .bl c ∧ Q (.bl (!c)) H1) ∧ (∀ t ta tb σ H Q, tIf t ta tb σ H Q = t σ H fun c H1 => Be c (fun H2 => ta σ H2 Q) (fun H2 => tb σ H2 Q) H1) ∧
    (∀ r r' ta tb tc σ H Q, tChain r r' ta tb tc σ H Q = ta σ H fun x H1 => tb σ H1 fun y H2 => r x y H2 fun z H3 => ∃ k, z = .bl k ∧ Be k (fun H4 => tc σ H4 fun w' H5 => r' y w' H5 Q) (Q (.bl false)) H3) := by
  refine ⟨?_, ?_, ?_, ?_, ?_, ?_, ?_, ?_, ?_, ?_, ?_, ?_, ?_, ?_, ?_, ?_, ?_, ?_, ?_⟩ <;> intros <;> rfl
theorem ra : (∀ σ H Q, tNil σ H Q = Q [] H) ∧ (∀ ta tr σ H Q, tCons ta tr σ H Q = ta σ H fun x H1 => tr σ H1 fun xs H2 => Q (x :: xs) H2) ∧ (∀ t σ H Q, tTup t σ H Q = t σ H fun xs H1 => xs.length ≤ sizeLine ∧ ∀ p, H1 p = none → Q (.ref p) (upd H1 p (.tup xs))) ∧
    (∀ t σ H Q, tLst t σ H Q = t σ H fun xs H1 => xs.length ≤ sizeLine ∧ ∀ p, H1 p = none → Q (.ref p) (upd H1 p (.lst xs))) ∧ (∀ sp dvs E t σ H Q, tCall sp dvs E t σ H Q = t σ H fun vs H1 => sp (vs ++ dvs) H1 Q E) ∧
    (∀ sp E t σ H Q, tCallS sp E t σ H Q = t σ H fun vs H1 => sp vs H1 Q (E σ)) ∧ (∀ r t σ H Q, tCB r t σ H Q = t σ H fun vs H1 => r vs H1 Q) ∧
    (∀ σ H Q, tNoPart σ H Q = Q none H) ∧ (∀ t σ H Q, tPart t σ H Q = t σ H fun x H1 => ∃ i, x = .int i ∧ Q (some i) H1) ∧ (∀ r te tl th σ H Q, tSl r te tl th σ H Q = te σ H fun x H1 => tl σ H1 fun l H2 => th σ H2 fun u H3 => r x l u H3 Q) ∧
    (∀ K T r to σ H Q, tBM0 K T r to σ H Q = to σ H fun x H1 => tyV K T x H1 ∧ r x [] H1 Q) ∧ (∀ K T r to t σ H Q, tBM K T r to t σ H Q = to σ H fun x H1 => tyV K T x H1 ∧ t σ H1 fun xs H2 => r x xs H2 Q) ∧
    (∀ K ta σ H Q, tVeI K ta σ H Q = ta σ H fun vs H1 => ∃ (a C : Addr) (ws : List V), vs = .ref a :: ws ∧ ws.length ≤ 1000 ∧ OexC K C ∧ H1 a = some (exo a C none) ∧ Q .non H1) := by
  refine ⟨?_, ?_, ?_, ?_, ?_, ?_, ?_, ?_, ?_, ?_, ?_, ?_, ?_⟩ <;> intros <;> rfl
/-! ### sequences by their place -/
def seqO : HO → Option (List V)
  | .lst xs => some xs
  | .tup xs => some xs
  | .frz _ (.lst xs) => some xs
  | .frz _ (.tup xs) => some xs
  | _ => none
theorem seqO_sq {K : Fg} {H : Hp} {p : Addr} {o : HO} {xs : List V} (h : H p = some o) (e : seqO o = some xs) : SqL K H p xs ∨ SqT K H p xs := by
  unfold seqO at e
  split at e <;> first
    | (cases e; exact .inl (.inl (.inl h)))
    | (cases e; exact .inr (.inl (.inl h)))
    | (cases e; exact .inl (.inl (.inr ⟨_, h⟩)))
    | (cases e; exact .inr (.inl (.inr ⟨_, h⟩)))
    | cases e
def rIxQ : R2 := fun x y H Q => ∃ p o xs i v, x = .ref p ∧ H p = some o ∧ seqO o = some xs ∧ y = .int i ∧ atI xs i = some v ∧ Q v H
theorem ix_q {X : Cx} : IxR X rIxQ := fun value slice pins s σ H x y v u Q I rx ry h hp => by
  obtain ⟨p, o, xs, i, z, rfl, ho, hs, rfl, ha, q⟩ := h
  rcases seqO_sq (K := X.K) ho hs with l | l
  · exact ix_list value slice pins s σ H _ _ v u Q I rx ry ⟨p, xs, i, z, rfl, rfl, l, ha, q⟩ hp
  · exact ix_tup value slice pins s σ H _ _ v u Q I rx ry ⟨p, xs, i, z, rfl, rfl, l, ha, q⟩ hp
def rLenQ : List V → Hp → VK → Prop := fun vs H Q => ∃ p o xs, vs = [.ref p] ∧ H p = some o ∧ seqO o = some xs ∧ Q (.int (xs.length : Nat)) H
theorem len_q {X : Cx} : CallR X (.builtin "len") rLenQ := fun pins s σ H xs us Q I r h => by
  obtain ⟨p, o, ys, rfl, ho, hs, q⟩ := h
  exact call_len_seq pins s σ H _ us Q I r ⟨p, ys, rfl, seqO_sq ho hs, q⟩
/-- list(t), a new list -/
def rLstQ : List V → Hp → VK → Prop := fun vs H Q => ∃ p o xs, vs = [.ref p] ∧ H p = some o ∧ seqO o = some xs ∧ ∀ l, H l = none → Q (.ref l) (upd H l (.lst xs))
theorem lst_q {X : Cx} : CallR X (.type "list") rLstQ := fun pins s σ H xs us Q I r h => by
  obtain ⟨p, o, ys, rfl, ho, hs, q⟩ := h
  exact call_list_of pins s σ H _ us Q I r ⟨p, ys, rfl, seqO_sq ho hs, q⟩
/-- tuple(l) of a list -/
def rTupQ : List V → Hp → VK → Prop := fun vs H Q => ∃ p xs, vs = [.ref p] ∧ H p = some (.lst xs) ∧ ∀ l, H l = none → Q (.ref l) (upd H l (.tup xs))
theorem tup_q {X : Cx} : CallR X (.type "tuple") rTupQ := fun pins s σ H xs us Q I r h => by
  obtain ⟨p, ys, rfl, ho, q⟩ := h
  exact call_tuple_of pins s σ H _ us Q I r ⟨p, ys, rfl, .inl ⟨SqL.of ho, q⟩⟩
/-! ### products -/
def MulOk (i j : Int) : Prop := CMul i j ∨ CMulW i j
theorem op_mulA {X : Cx} : OpR X (binaryOp .Mult) (rI MulOk fun i j => .int (i * j)) := fun pins s σ H x y v u Q I rx ry h => by
  obtain ⟨i, j, rfl, rfl, c, q⟩ := h
  rcases c with c | c
  · exact op_mul pins s σ H _ _ v u Q I rx ry ⟨i, j, rfl, rfl, c, q⟩
  · exact op_mulW pins s σ H _ _ v u Q I rx ry ⟨i, j, rfl, rfl, c, q⟩
theorem rq : (∀ x y H Q, rIxQ x y H Q = ∃ p o xs i v, x = .ref p ∧ H p = some o ∧ seqO o = some xs ∧ y = .int i ∧ atI xs i = some v ∧ Q v H) ∧ (∀ vs H Q, rLenQ vs H Q = ∃ p o xs, vs = [.ref p] ∧ H p = some o ∧ seqO o = some xs ∧ Q (.int (xs.length : Nat)) H) ∧
    (∀ vs H Q, rLstQ vs H Q = ∃ p o xs, vs = [.ref p] ∧ H p = some o ∧ seqO o = some xs ∧ ∀ l, H l = none → Q (.ref l) (upd H l (.lst xs))) ∧ (∀ vs H Q, rTupQ vs H Q = ∃ p xs, vs = [.ref p] ∧ H p = some (.lst xs) ∧ ∀ l, H l = none → Q (.ref l) (upd H l (.tup xs))) ∧
    (∀ xs, seqO (.lst xs) = some xs) ∧ (∀ xs, seqO (.tup xs) = some xs) ∧ (∀ o xs, seqO (.frz o (.lst xs)) = some xs) ∧ (∀ o i v H Q, rSetL o i v H Q = ∃ p xs k j, o = .ref p ∧ i = .int k ∧ H p = some (.lst xs) ∧ ixN xs.length k = some j ∧ Q (upd H p (.lst (xs.set j v)))) ∧
    (∀ x vs H Q, rAppend x vs H Q = ∃ l xs y, x = .ref l ∧ vs = [y] ∧ H l = some (.lst xs) ∧ xs.length < sizeLine ∧ Q .non (upd H l (.lst (xs ++ [y])))) ∧ (∀ x vs H Q, rClear x vs H Q = ∃ l xs, x = .ref l ∧ vs = [] ∧ H l = some (.lst xs) ∧ Q .non (upd H l (.lst []))) := by
  refine ⟨?_, ?_, ?_, ?_, ?_, ?_, ?_, ?_, ?_, ?_⟩ <;> intros <;> rfl
theorem at0 {a : V} {l : List V} : atI (a :: l) 0 = some a := by simp [atI, ixN]
theorem at1 {a b : V} {l : List V} : atI (a :: b :: l) 1 = some b := by
  have : (1 : Int) < (l.length : Int) + 1 + 1 := by omega
  simp [atI, ixN, this]
theorem at2 {a b c : V} {l : List V} : atI (a :: b :: c :: l) 2 = some c := by
  have : (2 : Int) < (l.length : Int) + 1 + 1 + 1 := by omega
  simp [atI, ixN, this]
theorem at3 {a b c d : V} {l : List V} : atI (a :: b :: c :: d :: l) 3 = some d := by
  have : (3 : Int) < (l.length : Int) + 1 + 1 + 1 + 1 := by omega
  simp [atI, ixN, this]
/-- what simp opens besides -/
theorem rx : (∀ (v : V) l, some v = some l ↔ v = l) ∧ (∀ (a b : Int), V.int a = V.int b ↔ a = b) ∧ (∀ (a b : Bool), V.bl a = V.bl b ↔ a = b) ∧ (∀ (a b : Addr), V.ref a = V.ref b ↔ a = b) ∧ (∀ (a b : Str), V.str a = V.str b ↔ a = b) := by
  refine ⟨?_, ?_, ?_, ?_, ?_⟩ <;> intros <;> simp
theorem rst : (∀ x N v vs, L2.start (x :: N) (v :: vs) = some v :: L2.start N vs) ∧ (∀ x N, L2.start (x :: N) [] = none :: L2.start N []) ∧ (L2.start [] [] = []) := by
  refine ⟨?_, ?_, ?_⟩ <;> intros <;> simp [L2.start, List.replicate_succ]
theorem rg : (∀ (a : V) (l : List V), ([] : List V) = a :: l ↔ False) ∧ (∀ (a : V) (l : List V), a :: l = ([] : List V) ↔ False) ∧ (∀ o u : HO, some o = some u ↔ o = u) := by
  refine ⟨?_, ?_, ?_⟩ <;> intros <;> simp
end Sw

/-! Errors of the program's own: a class over SeedError (over ValueError) whose __init__ says SeedError.__init__(self, text) and keeps one thing. -/
namespace PySem.W
open PySem.Calls PyProof.Rows
section
variable {prog : Program} {w : World} {A : Around} {E : Value → Shared → Prop} {s : Shared} {K : Frag} {x D : Addr} {ox : Obj} {od : Option Obj}
theorem sw_findData {C : Addr} {name : Str} {a g : Value} (hc : (clsIn K C).isSome = true) (ha : findIn K (.ref C) name = some (some a)) (hg : specialIn K a "__get__" = some (some g)) (ht : takesIn K a = some true) : findObj K C od name = some (.bind g a) := by
  obtain ⟨cd, q⟩ := Option.isSome_iff_exists.mp hc
  unfold findObj
  rw [q]
  simp [ha, hg, ht]
/-- the class of an exception that may have its own dict -/
theorem sw_classE {Q : Option Value → Shared → Prop} (hga : findIn K (.ref D) "__getattribute__" = some (some (.builtin "BaseException.__getattribute__"))) (hgt : findIn K (.ref D) "__getattr__" = some none) (hsub : subIn K (.ref D) (.type "BaseException") = some true)
    (hdct : hasDictIn K D = true) (ha : findIn K (.ref D) "__class__" = some (some (.builtin "object.__class__")))
    (hn : specialIn K (.builtin "object.__class__") "__get__" = some (some (.builtin "getset_descriptor.__get__"))) (htk : takesIn K (.builtin "object.__class__") = some true) (hm : mroIn K D (.type "object") = some true)
    (X : K.In s.heap) (I : InstAt s.heap x ox D od) (h : Q (some (.ref D)) { s with toks := s.toks + 1 }) : wpAny (model prog w) A (getAttr? (.ref x) "__class__") Q E s := by
  have hfo : findObj K D od "__class__" = some (.bind (.builtin "getset_descriptor.__get__") (.builtin "object.__class__")) := sw_findData (by obtain ⟨cd, hc, _⟩ := any_some hdct; rw [hc] <;> rfl) ha hn htk
  obtain ⟨hp, g, d, t, os⟩ := s
  have la := I.type (M := model prog w)
  have lb := looks_findIn (M := model prog w) X hga
  have lc := looks_findIn (M := model prog w) X hgt
  have ld := looks_find (M := model prog w) X I hfo
  have ls : Looks (model prog w) hp (isInstance (.ref x) (.type "BaseException")) true := la.andThen (looks_subIn X hsub)
  have k2 : (Value.builtin "BaseException.__getattribute__" == Value.builtin "object.__getattribute__") = false := by decide +kernel
  have k1 : (onTheHeap (Value.ref D) && Value.builtin "BaseException.__getattribute__" == Value.builtin "object.__getattribute__") = false := by rw [k2] <;> rfl
  unfold getAttr? getAttrBy? getAttrBy
  refine wpAny_bind (wpAny_mkText (wpAny_bind (wpAny_attempt (wpAny_holding (wpAny_bind (la.at (wpAny_bind (lb.at ?_))))))))
  show wpAny _ _ (if (onTheHeap (Value.ref D) && Value.builtin "BaseException.__getattribute__" == Value.builtin "object.__getattribute__") = true then _ else _) _ _ _
  rw [k1, if_neg (by decide)]
  unfold getAttrByItsOwn hookBefore
  refine wpAny_bind ?_
  rw [if_pos (by rfl : onTheHeap (Value.ref D) = true)]
  refine lc.at ?_
  refine wpAny_bind (wpAny_attempt (wpAny_holding ?_))
  unfold callGetattribute
  rw [show (false && onTheHeap (Value.builtin "BaseException.__getattribute__")) = false from rfl, if_neg (by decide)]
  unfold boundAndCalled
  rw [PySem.F.excAttr_ValueError.ga.bind (.ref x)]
  refine wpAny_bind (wpAny_pure ?_)
  show wpAny _ _ (call (.builtin "BaseException.__getattribute__") [.ref x, .str "__class__" t]) _ _ _
  refine wpAny_call (codeAny_call_builtin PySem.F.excAttr_ValueError.ga.plain PySem.F.entry_bexc_ga ?_)
  refine @check_slot (model prog w) _ _ ⟨hp, g, d, t + 1, os⟩ "BaseException.__getattribute__" "BaseException" "__getattribute__" (.ref x) [.str "__class__" t] [] _ (by decide +kernel) (by decide +kernel) ls (PySem.F.args_bexc_ga (.ref x) (.str "__class__" t)) ?_
  unfold Builtin.«object.__getattribute__»
  refine wpAny_bind (wpAny_of_eq (a := ((Value.ref x : Value), [Value.str "__class__" t])) (by first | rfl | (simp only [slotArgs] <;> rfl)) ?_)
  refine wpAny_bind (wpAny_pure (wpAny_bind (la.at (wpAny_bind (ld.at ?_)))))
  show wpAny _ _ (holding [Value.builtin "object.__class__"] (call (.builtin "getset_descriptor.__get__") [.builtin "object.__class__", .ref x, .ref D]) >>= ret) _ _ _
  refine wpAny_bind (wpAny_holding (wpAny_call (class_get (s := ⟨hp, g, d, t + 1, os⟩) (ox := ox) (od := od) X I hm ?_)))
  refine wpAny_pure ?_
  show wpAny _ _ (handedOut (.ref D)) _ _ _
  rw [handedOut_of (v := .ref D) rfl]
  first
    | exact wpAny_pure (wpAny_pure h)
    | exact wpAny_pure h
    | exact wpAny_pure (wpAny_bind (wpAny_pure (wpAny_pure h)))
theorem sw_kitE (hga : findIn K (.ref D) "__getattribute__" = some (some (.builtin "BaseException.__getattribute__"))) (hgt : findIn K (.ref D) "__getattr__" = some none) (hsub : subIn K (.ref D) (.type "BaseException") = some true)
    (hdct : hasDictIn K D = true) (ha : findIn K (.ref D) "__class__" = some (some (.builtin "object.__class__")))
    (hn : specialIn K (.builtin "object.__class__") "__get__" = some (some (.builtin "getset_descriptor.__get__"))) (htk : takesIn K (.builtin "object.__class__") = some true) (hm : mroIn K D (.type "object") = some true) :
    KitX K (.ref x) (.ref D) (fun h => InstAt h x ox D od) where
  ty := fun _ _ _ I => I.type
  it := fun _ _ X _ => by
    obtain ⟨cd, hc, _⟩ := any_some hdct
    unfold clsIn at hc
    split at hc
    · rename_i e1 e2 e3 e4 ho
      intro A' Q' E' s' k q
      unfold isType loadHead
      exact wpAny_bind (wpAny_loadPart (k _ _ (X _ _ ho)) (wpAny_pure q))
    · cases hc
  ne := fun h tp dd its n sl X htp => by
    obtain ⟨cd, hc, _⟩ := any_some hdct
    refine Bool.eq_false_iff.mpr fun q => ?_
    have e : D = tp := Value.ref.inj (beq_iff_eq.mp q)
    subst e
    unfold clsIn at hc
    split at hc
    · rename_i e1 e2 e3 e4 ho
      have z := (X _ _ ho).symm.trans htp
      cases z
    · cases hc
  ca := fun X I k => sw_classE hga hgt hsub hdct ha hn htk hm X I k
end
end PySem.W
namespace Sw
open PySem PySem.Spec PyProof.Rows L2
/-! ### what the head says of such a class, as one Bool -/
def excB (K : Fg) (C : Addr) : Bool := match K.lookup C with
  | some ⟨.type "type", _, .cls cd, sl⟩ => (match cd.mro, sl.toList with
    | .ref C' :: bm, [_, _, _, _, some (.builtin n), _] => decide (C' = C) && (decide (n = "ValueError.__new__") && (!cd.hasDel && (cd.hasDict && PySem.HandSPX.refsVE bm)))
    | _, _ => false)
  | _ => false
def exB (K : Fg) (C : Addr) : Bool := excB K C && (decide (PySem.W.findIn K (.ref C) "__setattr__" = some (some (.builtin "object.__setattr__"))) && (xfB K C && (decide (PySem.W.typeIn K (.ref C) = some (.type "type")) && (PySem.W.keepIn K (.ref C) &&
  (decide (PySem.W.findIn K (.ref C) "__class__" = some (some (.builtin "object.__class__"))) && (decide (PySem.W.mroIn K C (.type "object") = some true) &&
  (decide (PySem.W.specialIn K (.builtin "object.__class__") "__get__" = some (some (.builtin "getset_descriptor.__get__"))) && decide (PySem.W.takesIn K (.builtin "object.__class__") = some true))))))))
structure ExC (K : Fg) (C : Addr) : Prop where
  ox : OexC K C
  xf : XfC K C
  cc : PySem.W.findIn K (.ref C) "__class__" = some (some (.builtin "object.__class__"))
  mo : PySem.W.mroIn K C (.type "object") = some true
  gs : PySem.W.specialIn K (.builtin "object.__class__") "__get__" = some (some (.builtin "getset_descriptor.__get__"))
  tk : PySem.W.takesIn K (.builtin "object.__class__") = some true
theorem excB_ok {K : Fg} {C : Addr} (h : excB K C = true) : ∃ nm q N bs bm sn sub ab col dd k0 k1 k2 k3 k5, K.lookup C = some (excClassObj nm q C N bs bm true sn sub ab col dd k0 k1 k2 k3 k5 "ValueError.__new__") ∧ PySem.HandSPX.refsVE bm = true := by
  unfold excB at h
  split at h
  · rename_i dd cd sl ho
    split at h
    · rename_i C' bm k0 k1 k2 k3 n k5 hm hs
      simp only [Bool.and_eq_true, decide_eq_true_eq, Bool.not_eq_true'] at h
      obtain ⟨rfl, rfl, h3, h4, h5⟩ := h
      obtain ⟨nm, bs, mro, ns, qn, hd, sn, sub, ab, col, dl⟩ := cd
      dsimp only at hm h3 h4
      subst hm h3 h4
      obtain ⟨sl⟩ := sl
      dsimp only at hs
      subst hs
      exact ⟨nm, qn, ns, bs, bm, sn, sub, ab, col, dd, k0, k1, k2, k3, k5, ho, h5⟩
    · cases h
  · cases h
theorem exB_ok {K : Fg} {C : Addr} (h : exB K C = true) : ExC K C := by
  unfold exB at h
  simp only [Bool.and_eq_true, decide_eq_true_eq] at h
  obtain ⟨h1, h2, h3, h4, h5, h6, h7, h8, h9⟩ := h
  have xf := xfB_ok h3
  exact ⟨⟨excB_ok h1, h2, xf.exC, h4, h5⟩, xf, h6, h7, h8, h9⟩
/-- SeedError.__init__: the base's, read off the class at C -/
def iniB (K : Fg) (C : Addr) : Bool := decide (PySem.W.specialIn K (.ref C) "__getattribute__" = some (some (.builtin "type.__getattribute__"))) && (PySem.W.readsIn K C (.type "type") &&
  (match PySem.W.findCls K (.ref C) (.type "type") "__init__" with
  | some (.val (.builtin n)) => decide (n = "ValueError.__init__")
  | _ => false))
structure IniC (K : Fg) (C : Addr) : Prop where
  sp : PySem.W.specialIn K (.ref C) "__getattribute__" = some (some (.builtin "type.__getattribute__"))
  rd : PySem.W.readsIn K C (.type "type") = true
  fc : PySem.W.findCls K (.ref C) (.type "type") "__init__" = some (.val (.builtin "ValueError.__init__"))
theorem iniB_ok {K : Fg} {C : Addr} (h : iniB K C = true) : IniC K C := by
  unfold iniB at h
  simp only [Bool.and_eq_true, decide_eq_true_eq] at h
  obtain ⟨h1, h2, h3⟩ := h
  refine ⟨h1, h2, ?_⟩
  split at h3
  · rename_i n q
    have e : n = "ValueError.__init__" := of_decide_eq_true h3
    rw [q, e]
  · cases h3
section
variable {X : Cx} {o e : Expr} {es : List Expr} {ta : TA} {S : Str} {p1 p2 pos : Pos} {Cs : Addr}
/-- S.__init__(self, ..), S a class of the program whose __init__ is ValueError's -/
theorem pe_sinit (I0 : IniC X.K Cs) (hg : Gl X S) (hm : X.mg S = some (.ref Cs)) (ha : PA X (e :: es) ta) (hl : (p2.endLine == pos.line) = true := by rfl) (hf : methodCallForm ((e :: es).length + ([] : List Keyword).length) (backTo pos (starEach (e :: es) X.env)) (backToKw pos (keywordEach [] X.env)) = true := by rfl)
    (hdb : (S == ("__debug__" : Str)) = false := by decide)
    (he : starEach (e :: es) X.env = (false, eval e X.env) :: starEach es X.env := by rfl) (hpl : (backTo pos (starEach es X.env)).any (·.1) = false := by rfl) :
    PE X (.Call (.Attribute (.Name S p1) "__init__" p2) (e :: es) [] pos) (tVeI X.K ta) := by
  refine ⟨fun pins s σ H Q I h => ?_⟩
  have hc : eval (.Call (.Attribute (.Name S p1) "__init__" p2) (e :: es) [] pos) X.env = (do
      let ov ← eval (.Name S p1) X.env
      standAt p2.atName
      let (f, first) ← holding [ov] (getMethod ov "__init__" (plainOf (.Name S p1) X.env))
      callWith pos f first (backTo pos (starEach (e :: es) X.env)) (backToKw pos (keywordEach [] X.env))) := by
    show (do let ov ← eval (.Name S p1) X.env; standAt p2.atName; methodCall (.Name S p1) "__init__" p2 pos X.env ov _ _ _) = _
    simp only [mcall_line hf hl]
  refine PySem.W.methodCall_KW (ld_glob I hg hm ?_ hdb) hc
  refine PySem.W.method_cls I.kIn I0.sp (PySem.W.cls_value I.kIn I0.rd I0.fc (by decide +kernel) ?_)
  show wpAny _ _ (callWith pos (Value.builtin "ValueError.__init__") [] (backTo pos (starEach (e :: es) X.env)) []) _ _ _
  refine PyProof.Rows.callWith_method1 (thn (ha.run pos pins _ σ H _ (I.tok _) h) fun us s1 ⟨vs, H1, I1, r1, a, C, ws, ev, hl, T, ea, q⟩ => ?_) he hpl
  subst ev
  cases r1 with
  | @cons _ u0 _ ur ra rr =>
    obtain rfl : u0 = Value.ref a := ra
    have hlen : ur.length ≤ sizeLine := by
      rw [← Paired.length rr, sizeLine_eq]
      omega
    exact oinit_ok T I1 ea hlen fun s' J => ⟨.non, H1, J, rfl, q⟩
end
theorem ro : (∀ K f to te D σ H, tOst K f to te D σ H = te σ H fun y H1 => to σ H1 fun x H2 => ∃ a C : Addr, x = .ref a ∧ OexC K C ∧ PySem.W.findIn K (.ref C) f = some none ∧
      ((H2 a = some (exo a C none) ∧ ∀ dx, H2 dx = none → dx ≠ a → D.nx σ (upd (upd H2 dx (exd dx [(f, y)])) a (exo a C (some dx)))) ∨
        ∃ (dx : Addr) (fs : List (Str × V)), H2 a = some (exo a C (some dx)) ∧ H2 dx = some (exd dx fs) ∧ fs.length ≤ 900 ∧ D.nx σ (upd H2 dx (exd dx ((f, y) :: fs))))) ∧
    (∀ a cls d C f te σ H Q, tXf a cls d C f te σ H Q = te σ H fun x H1 => x = .ref a ∧ cls = .ref C ∧ ∃ (dd : Addr) (fs : List (Str × V)) (v : V), d = some dd ∧ H1 dd = some (.xd fs) ∧ fs.lookup f = some v ∧ Q v H1) := by
  refine ⟨?_, ?_⟩ <;> intros <;> rfl
/-! ### the __init__ of such a class with one field -/
def ini1 (m f : Str) (p1 p2 p3 p4 p5 p6 p7 p8 p9 p10 : Pos) (j : Nat) : List Stmt :=
  [.Expr (.Call (.Attribute (.Name "SeedError" p1) "__init__" p2) [.Name "self" p3, .Constant (.str m) j p4] [] p5) p6, .Assign [.Attribute (.Name "self" p7) f p8] (.Name f p9) p10]
def spIni1 (C : Addr) (f : Str) : Sp := fun vs H Q _ => ∃ (a : Addr) (v : V), vs = [.ref a, v] ∧ H a = some (exo a C none) ∧ ∀ d, H d = none → d ≠ a → Q .non (upd (upd H d (exd d [(f, v)])) a (exo a C (some d)))
theorem ok_ini1 {P : Program} {w : World} {K : Fg} {mg : Str → Option Value} {base : Heap} {C Cs fI : Addr} {f m qual : Str} {params : Arguments} {body : List Stmt} {scope : Scope} {fd : FuncData}
    {p1 p2 p3 p4 p5 p6 p7 p8 p9 p10 : Pos} {j : Nat} (F : FunD K "__init__" qual params body scope [] [] fI fd) (S : FnScope ["self", f] ["self", f] scope) (hb : body = ini1 m f p1 p2 p3 p4 p5 p6 p7 p8 p9 p10 j)
    (l1 : scope.names.lookup ("self" : Str) = some .local) (l2 : scope.names.lookup f = some .local) (l3 : scope.names.lookup ("SeedError" : Str) = some .globalImplicit) (hdb : (f == ("__debug__" : Str)) = false) (hcd : (f == ("__classdict__" : Str)) = false)
    (hl : (p2.endLine == p5.line) = true)
    (T : ExC K C) (I0 : IniC K Cs) (gS : mg "SeedError" = some (.ref Cs)) (hno : PySem.W.findIn K (.ref C) f = some none) : FnOk P w K mg base (L2.CX P w) 2 fI fd ["self", f] (spIni1 C f) := by
  subst hb
  refine F.ok S (fun vs H Q E h => ?_) (fun cdv A outer s H vs Q E hr h => ?_)
  · obtain ⟨a, v, rfl, _⟩ := h
    rfl
  · obtain ⟨a, v, rfl, ha, k⟩ := h
    refine ⟨_, pss_cons (ps_expr (pe_sinit I0 l3 gS (pa_cons (pv 0 (hv := .inl l1)) (pa_cons pe_str pa_nil)) (hl := hl))) (pss_one (ps_ost (pv 0 (hv := .inl l1)) (pv 1 (hv := .inl l2) (hd := hdb) (hcd := hcd)))), ?_⟩
    simp only [rst, rs, re, ra, ro, List.getElem?_cons_zero, List.getElem?_cons_succ, Option.some.injEq, exists_eq_left', exists_eq_left, exists_and_left, exists_eq, exists_eq', List.cons.injEq, V.ref.injEq]
    exact ⟨a, C, [.str m], ⟨rfl, rfl⟩, (by show 1 ≤ 1000; decide), T.ox, ha, C, T.ox, hno, .inl ⟨ha, k⟩⟩
/-- C(e): such an error is made; it is kept away but for its own dict -/
def tMk1 (C : Addr) (f : Str) (ta : TA) : L2.St → Hp → XK → Prop := fun σ H Q => ta σ H fun vs H1 => ∃ v, vs = [v] ∧ ∀ d, H1 d = none → Q (.ref C) (some d) (upd H1 d (.xd [(f, v)]))
/-- raise C(e) -/
def tRs1 (C : Addr) (f : Str) (W : WX) (ta : TA) : TS := fun _ σ H => tMk1 C f ta σ H fun cls d H' => W cls d σ H'
/-- the class x: where it stands, its __init__ -/
structure Exn (P : Program) (w : World) (K : Fg) (mg : Str → Option Value) (base : Heap) (x f : Str) : Prop where
  at_ : mg x = some (.ref (He.ga K x))
  c : ExC K (He.ga K x)
  no : PySem.W.findIn K (.ref (He.ga K x)) f = some none
  ini : ∃ (fI : Addr) (fd : FuncData), PySem.W.findIn K (.ref (He.ga K x)) "__init__" = some (some (.ref fI)) ∧ PySem.W.typeIn K (.ref fI) = some (.type "function") ∧ FnOk P w K mg base (L2.CX P w) 2 fI fd ["self", f] (spIni1 (He.ga K x) f) ∧ Binds K fd ["self", f] []
section
variable {X : Cx} {k : Nat} {x f : Str} {e : Expr} {es : List Expr} {ta : TA} {p pos : Pos} {W : WX}
theorem pa_mono {t : TA} {es : List Expr} (h : PA X es t) : PA X es (fun σ H Q => ∃ R : List V → Hp → Prop, t σ H R ∧ ∀ vs H1, R vs H1 → Q vs H1) := ⟨fun pos pins s σ H Q I ⟨R, h1, h2⟩ =>
  thn (h.run pos pins s σ H R I h1) fun us s1 ⟨vs, H1, I1, r, q⟩ => ⟨vs, H1, I1, r, h2 _ _ q⟩⟩
theorem pmk_1 (T : Exn X.prog X.w X.K X.mg X.base x f) (hr : Room k X.A) (hk : 3 ≤ k) (hg : Gl X x) (ha : PA X (e :: es) ta)
    (hdb : (x == ("__debug__" : Str)) = false := by decide) (he : starEach (e :: es) X.env = (false, eval e X.env) :: starEach es X.env := by rfl) (hpl : (backTo pos (starEach es X.env)).any (·.1) = false := by rfl) :
    PMk X (.Call (.Name x p) (e :: es) [] pos) (tMk1 (He.ga X.K x) f ta) := by
  obtain ⟨fI, fd, iC, tI, F, b⟩ := T.ini
  intro pins s σ H Q I h
  refine pmk_oex (CX := L2.CX X.prog X.w) (k := 2) (ds := []) (dvs := []) T.c.ox iC tI F (hr.mono hk) b .nil passL hg T.at_ (pa_mono ha) hdb he hpl pins s σ H Q I ⟨_, h, fun vs H1 q => ?_⟩
  obtain ⟨v, rfl, q⟩ := q
  refine ⟨by show 1 ≤ 1000; decide, fun a na => ⟨a, v, rfl, upd_same, fun d nd ne => ?_⟩⟩
  rw [upd_ne ne] at nd
  refine ⟨rfl, d, [(f, v)], upd_same, by rw [upd_ne ne, upd_same], nd, ?_⟩
  have e : upd (del (upd (upd (upd H1 a (exo a (He.ga X.K x) none)) d (exd d [(f, v)])) a (exo a (He.ga X.K x) (some d))) a) d (.xd [(f, v)]) = upd H1 d (.xd [(f, v)]) := by
    funext b
    by_cases hd : b = d
    · rw [hd, upd_same, upd_same]
    · rw [upd_ne hd, upd_ne hd]
      by_cases hb : b = a
      · rw [hb, del_same, na]
      · rw [del_ne hb, upd_ne hb, upd_ne hd, upd_ne hb]
  rw [e]
  exact q d nd
/-- raise x(e) -/
theorem ps_rs1 {pos' : Pos} (T : Exn X.prog X.w X.K X.mg X.base x f) (hc : X.calm = true) (tk : Takes X W) (hr : Room k X.A) (hk : 3 ≤ k) (hg : Gl X x) (ha : PA X (e :: es) ta)
    (hdb : (x == ("__debug__" : Str)) = false := by decide) (he : starEach (e :: es) X.env = (false, eval e X.env) :: starEach es X.env := by rfl) (hpl : (backTo pos (starEach es X.env)).any (·.1) = false := by rfl) :
    PS X (.Raise (some (.Call (.Name x p) (e :: es) [] pos)) none pos') (tRs1 (He.ga X.K x) f W ta) := ps_raise hc tk (pmk_1 T hr hk hg ha hdb he hpl)
/-! ### in an except suite -/
/-- e.f -/
theorem pe_exf {a : Addr} {oe : Obj} {cls : Value} {d : Option Addr} {pn : List (Addr × Obj)} {e : Expr} {te : TE} {C : Addr} (T : ExC X.K C) (hno : PySem.W.findIn X.K (.ref C) f = some none) (hz : Zc cls d oe) (hf : ∃ vs, oe.data = .fields vs) (he : PE (X.suite a ((a, oe) :: pn)) e te)
    (hb : attributeBase e f X.env (eval e X.env) = eval e X.env := by rfl) : PE (X.suite a ((a, oe) :: pn)) (.Attribute e f pos) (tXf a cls d C f te) := pe_xf T.xf hno hz hf he hb
/-- isinstance(e, c), e the error in the suite, with a dict of its own -/
def rIsD (K : Fg) (D a : Addr) (cls : Value) (d : Option Addr) : List V → Hp → VK → Prop := fun xs H Q => ∃ (c : V) (cv : Value) (dd : Addr) (fs : List (Str × V)) (b : Bool), xs = [.ref a, c] ∧ ClsV c cv ∧ cls = .ref D ∧ d = some dd ∧ H dd = some (.xd fs) ∧ PySem.W.kitOne K (.ref D) cv = some b ∧ Q (.bl b) H
theorem call_isD {a D : Addr} {cls : Value} {d : Option Addr} {oe : Obj} {pn : List (Addr × Obj)} (C : ExC X.K D) (hz : Zc cls d oe) (hf : ∃ vs, oe.data = .fields vs) : CallR (X.suite a ((a, oe) :: pn)) (.builtin "isinstance") (rIsD X.K D a cls d) := by
  intro pins s σ H xs us Q I r h
  obtain ⟨c, cv, dd, fs, b, rfl, hcv, rfl, rfl, hd, e, q⟩ := h
  cases r with
  | cons r1 r2 =>
    cases r2 with
    | cons r3 r4 =>
      cases r4
      cases r1
      have ec := hcv.eq r3
      subst ec
      obtain ⟨hget, _⟩ := I.pin (a, oe) (List.mem_append.mpr (.inl List.mem_cons_self))
      obtain ⟨vs, hv⟩ := hf
      obtain ⟨mA, hns, _⟩ := (show ObjOk X.prog X.w H s.heap dd (.xd fs) from I.hok dd _ hd)
      obtain ⟨od, ho, _⟩ := lookIn_ns hns
      have J : PySem.W.InstAt s.heap a oe D (some od) := ⟨hget, hz.1, by unfold PySem.W.notCls; rw [hv] <;> rfl, by rw [hz.2]; exact ho⟩
      exact PySem.W.kia_one (PySem.W.sw_kitE C.xf.ga C.xf.gg C.xf.exC C.xf.hdC C.cc C.gs C.tk C.mo) I.kIn J e (fun z => nomatch z) fun tk => ⟨.bl b, H, I.kept (t' := tk) fun _ _ z => z, rfl, q⟩
end
end Sw

/-! Loops and comprehensions, over a list or a tuple alike; unpacking; isinstance by kinds. -/
namespace Sw
open PySem PySem.Spec PyProof.Rows L2
/-- what a for still asks behind its iterator -/
def FI (J : It) (g : TG) (tb : TS) (D : Ends) (σ : L2.St) (H1 : Hp) : Prop := ∃ W : Nat → Nat → L2.St → Hp → Prop, (∃ m, W 0 m σ H1) ∧ ∀ i m σ H, W i m σ H →
  (J.stop i H ∧ D.nx σ H) ∨ (J.go i H ∧ ∃ N : L2.St → Hp → Prop, (∀ σ' H', N σ' H' → ∃ m', m' < m ∧ W (i + 1) m' σ' H') ∧ ∀ x H', J.yld i H x H' → g x σ H' fun σ2 H2 => tb { D with nx := N, ct := N, bk := D.nx } σ2 H2)
/-- .. a comprehension -/
def LC (J : It) (g : TG) (tt : TT) (te : TE) (vs : List Nat) (σ : L2.St) (Q : VK) (H1 : Hp) : Prop := ∀ D, H1 D = none → ∃ W : Nat → Nat → Hp → Prop, (∃ m, W 0 m (upd H1 D (.lst []))) ∧ ∀ i m H, W i m H →
  (J.stop i H ∧ Q (.ref D) H) ∨ (J.go i H ∧ ∃ Nx : Hp → Prop, (∀ H', Nx H' → ∃ m', m' < m ∧ W (i + 1) m' H') ∧ ∀ x H', J.yld i H x H' → g x (wipe σ vs) H' fun σ2 H2 => wipe σ2 vs = wipe σ vs ∧ tt σ2 H2 fun b H3 =>
    if b = true then te σ2 H3 fun y H4 => ∃ acc, H4 D = some (.lst acc) ∧ acc.length < sizeLine ∧ Nx (upd H4 D (.lst (acc ++ [y]))) else Nx H3)
def isT : HO → Bool
  | .tup _ => true
  | .frz _ (.tup _) => true
  | _ => false
theorem seqO_L {K : Fg} {H : Hp} {p : Addr} {o : HO} {xs : List V} (h : H p = some o) (e : seqO o = some xs) (t : isT o = false) : SqL K H p xs := by
  unfold seqO at e
  split at e <;> first
    | exact Bool.noConfusion (show _ = _ from t)
    | (cases e; exact .inl (.inl h))
    | (cases e; exact .inl (.inr ⟨_, h⟩))
    | cases e
theorem seqO_T {K : Fg} {H : Hp} {p : Addr} {o : HO} {xs : List V} (h : H p = some o) (e : seqO o = some xs) (t : isT o = true) : SqT K H p xs := by
  unfold seqO at e
  split at e <;> first
    | exact Bool.noConfusion (show _ = _ from t)
    | (cases e; exact .inl (.inl h))
    | (cases e; exact .inl (.inr ⟨_, h⟩))
    | cases e
/-! ### for x in s -/
def ItQ (K : Fg) (a : Addr) (o : HO) : It := if isT o = true then Itt K a else Itl K a
def iSeq (K : Fg) (tl : TE) : TI := fun σ H R => tl σ H fun x H1 => ∃ a o xs, x = .ref a ∧ H1 a = some o ∧ seqO o = some xs ∧ R (ItQ K a o) H1
theorem pi_q {X : Cx} {tg e : Expr} {tl : TE} (he : PE X e tl) : PI X tg e (iSeq X.K tl) := by
  refine ⟨fun pins s σ H R I h => ?_⟩
  refine thn (he.run pins s σ H _ I h) fun u s1 ⟨v, H1, I1, r1, a, o, xs, ev, ho, hs, q⟩ => ?_
  subst ev
  cases r1
  unfold ItQ at q
  have new : ∀ b ∈ [s1.heap.objs.size], FpOk X pins H1 b := fun b hb => by
    rw [List.mem_singleton.mp hb]
    exact I1.fpOk (Nat.le_refl _) (I1.hok.fresh (Nat.le_refl _))
  cases t : isT o with
  | true =>
    rw [t, if_pos rfl] at q
    obtain ⟨its, rv, p, hz⟩ := I1.tuple (seqO_T (K := X.K) ho hs t)
    exact wpAny_pyIter_tuple (show s1.heap.IsTuple a its.toArray from p) ⟨_, [s1.heap.objs.size], _, _, H1, rfl, I1.kept (t' := s1.toks) fun b o e => Heap.get?_push_of_some _ e, turn_tuple a _, ⟨_, Heap.get?_push_size _ rfl, rfl, rfl⟩, new, q⟩
  | false =>
    rw [t, if_neg (by decide)] at q
    obtain ⟨its, rv, p, hz⟩ := I1.list (seqO_L (K := X.K) ho hs t)
    exact wpAny_pyIter_list p.isList ⟨_, [s1.heap.objs.size], _, _, H1, rfl, I1.kept (t' := s1.toks) fun b o e => Heap.get?_push_of_some _ e, turn_list a _, ⟨_, Heap.get?_push_size _ rfl, rfl, rfl⟩, new, q⟩
theorem FI.seq {K : Fg} {a : Addr} {o : HO} {xs : List V} {g : TG} {tb : TS} {D : Ends} {σ : L2.St} {H : Hp} (hs : seqO o = some xs) (Pv : Nat → L2.St → Hp → Prop) (h0 : Pv 0 σ H) (hl : ∀ i σ H, i ≤ xs.length → Pv i σ H → H a = some o)
    (ht : ∀ i x σ H, xs[i]? = some x → Pv i σ H → g x σ H fun σ2 H2 => tb ⟨Pv (i + 1), D.rt, D.nx, Pv (i + 1)⟩ σ2 H2) (hd : ∀ σ H, Pv xs.length σ H → D.nx σ H) : FI (ItQ K a o) g tb D σ H := by
  unfold ItQ
  cases t : isT o with
  | true =>
    rw [if_pos rfl]
    exact for_tup (K := K) Pv h0 (fun i σ H hi p => seqO_T (hl i σ H hi p) hs t) ht hd
  | false =>
    rw [if_neg (by decide)]
    exact for_list (K := K) Pv h0 (fun i σ H hi p => seqO_L (hl i σ H hi p) hs t) ht hd
/-- the script's own list: it may stand in the written part -/
theorem FI.lst {K : Fg} {a : Addr} {xs : List V} {g : TG} {tb : TS} {D : Ends} {σ : L2.St} {H : Hp} (Pv : Nat → L2.St → Hp → Prop) (h0 : Pv 0 σ H) (hl : ∀ i σ H, i ≤ xs.length → Pv i σ H → SqL K H a xs)
    (ht : ∀ i x σ H, xs[i]? = some x → Pv i σ H → g x σ H fun σ2 H2 => tb ⟨Pv (i + 1), D.rt, D.nx, Pv (i + 1)⟩ σ2 H2) (hd : ∀ σ H, Pv xs.length σ H → D.nx σ H) : FI (Itl K a) g tb D σ H := for_list (K := K) Pv h0 hl ht hd
theorem FI.rng {lo : Int} {n : Nat} {g : TG} {tb : TS} {D : Ends} {σ : L2.St} {H : Hp} (Pv : Nat → L2.St → Hp → Prop) (h0 : Pv 0 σ H)
    (ht : ∀ i σ H, i < n → Pv i σ H → g (.int (lo + (i : Nat))) σ H fun σ2 H2 => tb ⟨Pv (i + 1), D.rt, D.nx, Pv (i + 1)⟩ σ2 H2) (hd : ∀ σ H, Pv n σ H → D.nx σ H) : FI (Itr lo n) g tb D σ H := for_range Pv h0 ht hd
theorem FI.rngC {lo c : Int} {n : Nat} {g : TG} {tb : TS} {D : Ends} {σ : L2.St} {H : Hp} (Pv : Nat → L2.St → Hp → Prop) (h0 : Pv 0 σ H)
    (ht : ∀ i σ H, i < n → Pv i σ H → g (.int (lo + (i : Nat) * c)) σ H fun σ2 H2 => tb ⟨Pv (i + 1), D.rt, D.nx, Pv (i + 1)⟩ σ2 H2) (hd : ∀ σ H, Pv n σ H → D.nx σ H) : FI (Itc lo c n) g tb D σ H := for_rangeC Pv h0 ht hd
/-! ### zip of two of one kind -/
def ItZ (K : Fg) (a b : Addr) (o : HO) : It := if isT o = true then RZ.ItzT K a b else Itz K a b
def iZipQ (K : Fg) (ta : TA) : TI := fun σ H R => ta σ H fun vs H1 => ∃ a b oa ob xs ys, vs = [.ref a, .ref b] ∧ H1 a = some oa ∧ seqO oa = some xs ∧ H1 b = some ob ∧ seqO ob = some ys ∧ isT ob = isT oa ∧ R (ItZ K a b oa) H1
theorem pi_zipQ {X : Cx} {e e2 : Expr} {ta : TA} {p pos tpos : Pos} {elts : List Expr} {kk : Nat} (hg : Gl X "zip") (hm : X.mg "zip" = none) (ha : PA X [e, e2] ta)
    (hs : starEach [e, e2] X.env = (false, eval e X.env) :: starEach [e2] X.env := by rfl) (hpl : (backTo pos (starEach [e2] X.env)).any (·.1) = false := by rfl) :
    PI X (.Tuple elts kk tpos) (.Call (.Name "zip" p) [e, e2] [] pos) (iZipQ X.K ta) := by
  refine ⟨fun pins s σ H R I h => (RZ.pi_zipA hg hm (pa_mono ha) hs hpl).run pins s σ H R I ⟨_, h, fun vs H1 q => ?_⟩⟩
  obtain ⟨a, b, oa, ob, xs, ys, ev, h1, h2, h3, h4, h5, q⟩ := q
  refine ⟨a, b, xs, ys, ev, ?_⟩
  unfold ItZ at q
  cases t : isT oa with
  | true =>
    rw [t, if_pos rfl] at q
    exact .inr ⟨seqO_T h1 h2 t, seqO_T h3 h4 (h5.trans t), q⟩
  | false =>
    rw [t, if_neg (by decide)] at q
    exact .inl ⟨seqO_L h1 h2 t, seqO_L h3 h4 (h5.trans t), q⟩
/-- for x, y in zip(..), x in slot i, y in slot j -/
theorem FI.zip {K : Fg} {a b : Addr} {oa ob : HO} {xs ys : List V} {i j : Nat} {tb : TS} {D : Ends} {σ : L2.St} {H : Hp} (hx : seqO oa = some xs) (hy : seqO ob = some ys) (ht : isT ob = isT oa) (hl : xs.length = ys.length) (Pv : Nat → L2.St → Hp → Prop) (h0 : Pv 0 σ H)
    (hq : ∀ i σ H, Pv i σ H → H a = some oa ∧ H b = some ob)
    (hs : ∀ (n : Nat) (x y : V) (T : Addr) (σ : L2.St) (H : Hp), xs[n]? = some x → ys[n]? = some y → Pv n σ H → H T = none → tb ⟨Pv (n + 1), D.rt, D.nx, Pv (n + 1)⟩ ((σ.set i (some x)).set j (some y)) (upd H T (.tup [x, y]))) (hd : ∀ σ H, Pv xs.length σ H → D.nx σ H) :
    FI (ItZ K a b oa) (gTup K 2 (gCons (gName i) (gCons (gName j) gNil))) tb D σ H := by
  have turn : ∀ (n : Nat) (x y : V) (T : Addr) (σ : L2.St) (H : Hp), xs[n]? = some x → ys[n]? = some y → Pv n σ H → H T = none →
      gTup K 2 (gCons (gName i) (gCons (gName j) gNil)) (.ref T) σ (upd H T (.tup [x, y])) fun σ2 H2 => tb ⟨Pv (n + 1), D.rt, D.nx, Pv (n + 1)⟩ σ2 H2 := fun n x y T σ H h1 h2 p hT =>
    ⟨T, [x, y], rfl, SqT.of upd_same, rfl, x, [y], rfl, y, [], rfl, rfl, hs n x y T σ H h1 h2 p hT⟩
  unfold ItZ
  cases t : isT oa with
  | true =>
    rw [if_pos rfl]
    exact RZ.for_zipT (K := K) hl Pv h0 (fun i σ H p => ⟨seqO_T (hq i σ H p).1 hx t, seqO_T (hq i σ H p).2 hy (ht.trans t)⟩) turn hd
  | false =>
    rw [if_neg (by decide)]
    exact RZ.for_zipL (K := K) hl Pv h0 (fun i σ H p => ⟨seqO_L (hq i σ H p).1 hx t, seqO_L (hq i σ H p).2 hy (ht.trans t)⟩) turn hd
/-! ### reversed of a list or a tuple -/
def ItR (K : Fg) (a : Addr) (o : HO) (n : Nat) : It := if isT o = true then RT.ItvT K a n else Itv K a n
def iRevQ (K : Fg) (te : TE) : TI := fun σ H R => te σ H fun v H1 => ∃ a o xs, v = .ref a ∧ H1 a = some o ∧ seqO o = some xs ∧ R (ItR K a o xs.length) H1
theorem pe_mono {X : Cx} {e : Expr} {te : TE} (h : PE X e te) : PE X e (fun σ H Q => ∃ R : VK, te σ H R ∧ ∀ v H1, R v H1 → Q v H1) := ⟨fun pins s σ H Q I ⟨R, h1, h2⟩ => thn (h.run pins s σ H R I h1) fun u s1 ⟨v, H1, I1, r, q⟩ => ⟨v, H1, I1, r, h2 _ _ q⟩⟩
theorem pi_revQ {X : Cx} {tg e : Expr} {te : TE} {p pos : Pos} (hg : Gl X "reversed") (hm : X.mg "reversed" = none) (he : PE X e te) (hs : starEach [e] X.env = (false, eval e X.env) :: starEach [] X.env := by rfl) :
    PI X tg (.Call (.Name "reversed" p) [e] [] pos) (iRevQ X.K te) := by
  refine ⟨fun pins s σ H R I h => (RT.pi_revA hg hm (pe_mono he) hs).run pins s σ H R I ⟨_, h, fun v H1 q => ?_⟩⟩
  obtain ⟨a, o, xs, ev, h1, h2, q⟩ := q
  refine ⟨a, xs, ev, ?_⟩
  unfold ItR at q
  cases t : isT o with
  | true =>
    rw [t, if_pos rfl] at q
    exact .inr ⟨seqO_T h1 h2 t, q⟩
  | false =>
    rw [t, if_neg (by decide)] at q
    exact .inl ⟨seqO_L h1 h2 t, q⟩
theorem FI.rev {K : Fg} {a : Addr} {o : HO} {xs : List V} {g : TG} {tb : TS} {D : Ends} {σ : L2.St} {H : Hp} (hs : seqO o = some xs) (Pv : Nat → L2.St → Hp → Prop) (h0 : Pv 0 σ H) (hl : ∀ i σ H, Pv i σ H → H a = some o)
    (ht : ∀ (i : Nat) (x : V) (σ : L2.St) (H : Hp), i < xs.length → xs[xs.length - 1 - i]? = some x → Pv i σ H → g x σ H fun σ2 H2 => tb ⟨Pv (i + 1), D.rt, D.nx, Pv (i + 1)⟩ σ2 H2) (hd : ∀ σ H, Pv xs.length σ H → D.nx σ H) : FI (ItR K a o xs.length) g tb D σ H := by
  unfold ItR
  cases t : isT o with
  | true =>
    rw [if_pos rfl]
    exact RT.for_ItvT (K := K) Pv h0 (fun i σ H p => seqO_T (hl i σ H p) hs t) ht hd
  | false =>
    rw [if_neg (by decide)]
    exact RT.for_Itv (K := K) Pv h0 (fun i σ H p => seqO_L (hl i σ H p) hs t) ht hd
/-! ### comprehensions -/
theorem LC.rng {lo : Int} {n : Nat} {g : TG} {tt : TT} {te : TE} {vs : List Nat} {σ : L2.St} {H1 : Hp} {Q : VK} (Pv : Addr → Nat → Hp → Prop) (h0 : ∀ D, H1 D = none → Pv D 0 (upd H1 D (.lst [])))
    (hs : ∀ D i H, H1 D = none → i < n → Pv D i H → g (.int (lo + (i : Nat))) (wipe σ vs) H fun σ2 H2 => wipe σ2 vs = wipe σ vs ∧ tt σ2 H2 fun b H3 => Be b (fun H3 => te σ2 H3 fun y H4 => ∃ acc, H4 D = some (.lst acc) ∧ acc.length < sizeLine ∧ Pv D (i + 1) (upd H4 D (.lst (acc ++ [y])))) (Pv D (i + 1)) H3)
    (hd : ∀ D H, H1 D = none → Pv D n H → Q (.ref D) H) : LC (Itr lo n) g tt te vs σ Q H1 := fun D nD => lc_range (Pv D) (h0 D nD) (fun i H hi p => hs D i H nD hi p) fun H p => hd D H nD p
theorem LC.seq {K : Fg} {a : Addr} {o : HO} {xs : List V} {g : TG} {tt : TT} {te : TE} {vs : List Nat} {σ : L2.St} {H1 : Hp} {Q : VK} (hx : seqO o = some xs) (Pv : Addr → Nat → Hp → Prop) (h0 : ∀ D, H1 D = none → Pv D 0 (upd H1 D (.lst [])))
    (hl : ∀ D i H, H1 D = none → i ≤ xs.length → Pv D i H → H a = some o)
    (hs : ∀ D i x H, H1 D = none → xs[i]? = some x → Pv D i H → g x (wipe σ vs) H fun σ2 H2 => wipe σ2 vs = wipe σ vs ∧ tt σ2 H2 fun b H3 => Be b (fun H3 => te σ2 H3 fun y H4 => ∃ acc, H4 D = some (.lst acc) ∧ acc.length < sizeLine ∧ Pv D (i + 1) (upd H4 D (.lst (acc ++ [y])))) (Pv D (i + 1)) H3)
    (hd : ∀ D H, H1 D = none → Pv D xs.length H → Q (.ref D) H) : LC (ItQ K a o) g tt te vs σ Q H1 := fun D nD => by
  unfold ItQ
  cases t : isT o with
  | true =>
    rw [if_pos rfl]
    exact lc_tup (K := K) (Pv D) (h0 D nD) (fun i H hi p => seqO_T (hl D i H nD hi p) hx t) (fun i x H hi p => hs D i x H nD hi p) fun H p => hd D H nD p
  | false =>
    rw [if_neg (by decide)]
    exact lc_list (K := K) (Pv D) (h0 D nD) (fun i H hi p => seqO_L (hl D i H nD hi p) hx t) (fun i x H hi p => hs D i x H nD hi p) fun H p => hd D H nD p
theorem rl : (∀ wi g tb D σ H, tFor wi g tb D σ H = wi σ H fun J H1 => FI J g tb D σ H1) ∧ (∀ wi g tt te vs σ H Q, tLc wi g tt te vs σ H Q = wi σ H fun J H1 => LC J g tt te vs σ Q H1) ∧
    (∀ K tl σ H R, iSeq K tl σ H R = tl σ H fun x H1 => ∃ a o xs, x = .ref a ∧ H1 a = some o ∧ seqO o = some xs ∧ R (ItQ K a o) H1) ∧
    (∀ K ta σ H R, iZipQ K ta σ H R = ta σ H fun vs H1 => ∃ a b oa ob xs ys, vs = [.ref a, .ref b] ∧ H1 a = some oa ∧ seqO oa = some xs ∧ H1 b = some ob ∧ seqO ob = some ys ∧ isT ob = isT oa ∧ R (ItZ K a b oa) H1) ∧
    (∀ K te σ H R, iRevQ K te σ H R = te σ H fun v H1 => ∃ a o xs, v = .ref a ∧ H1 a = some o ∧ seqO o = some xs ∧ R (ItR K a o xs.length) H1) ∧
    (∀ ta σ H R, iRng1 ta σ H R = ta σ H fun vs H1 => ∃ j : Int, vs = [.int j] ∧ -(2 ^ 62) ≤ j ∧ j < 2 ^ 62 ∧ R (Itr 0 j.toNat) H1) ∧
    (∀ ta σ H R, iRng2 ta σ H R = ta σ H fun vs H1 => ∃ i j : Int, vs = [.int i, .int j] ∧ (-(2 ^ 62) ≤ i ∧ i < 2 ^ 62 ∧ -(2 ^ 62) ≤ j ∧ j < 2 ^ 62) ∧ R (Itr i (j - i).toNat) H1) ∧
    (∀ tr σ H R, iRevR tr σ H R = tr σ H fun a b H1 => -(2 ^ 62) ≤ a ∧ a < 2 ^ 62 ∧ -(2 ^ 62) ≤ b ∧ b < 2 ^ 62 ∧ R (Itc (a + (((b - a).toNat : Nat) : Int) - 1) (-1) (b - a).toNat) H1) ∧
    (∀ ta σ H Q, tRg1 ta σ H Q = ta σ H fun x H1 => ∃ n, x = .int n ∧ Q 0 n H1) ∧ (∀ σ H Q, tYes σ H Q = Q true H) ∧ (∀ xs, isT (.lst xs) = false) ∧ (∀ xs, isT (.tup xs) = true) := by
  refine ⟨?_, ?_, ?_, ?_, ?_, ?_, ?_, ?_, ?_, ?_, ?_, ?_⟩ <;> intros <;> rfl
/-! ### unpacking -/
def gTupQ (t : TGs) : TG := fun v σ H Q => ∃ a o xs, v = .ref a ∧ H a = some o ∧ isT o = true ∧ seqO o = some xs ∧ t xs σ H Q
theorem pg_tupQ {X : Cx} {es : List Expr} {k : Nat} {t : TGs} {n : Nat} {pos : Pos} (hc : X.calm = true) (h : PGs X es t) (hlen : ∀ xs σ H Q, t xs σ H Q → xs.length = n)
    (hn : (assignEach es X.env).length = n := by rfl) (hst : (assignEach es X.env).findIdx? (·.1) = none := by rfl) : PG X (.Tuple es k pos) (gTupQ t) :=
  ⟨fun pins s σ H v u Q I r ⟨a, o, xs, ev, ho, ht, hs, q⟩ => (pg_tup hc h hn hst).run pins s σ H v u Q I r ⟨a, xs, ev, seqO_T ho hs ht, hlen _ _ _ _ q, q⟩⟩
theorem gnil_len {xs : List V} {σ : L2.St} {H : Hp} {Q : L2.St → Hp → Prop} (h : gNil xs σ H Q) : xs.length = 0 := by rw [h.1] <;> rfl
theorem gname_len {n i : Nat} {t : TGs} (ht : ∀ xs σ H Q, t xs σ H Q → xs.length = n) (xs : List V) (σ : L2.St) (H : Hp) (Q : L2.St → Hp → Prop) (h : gCons (gName i) t xs σ H Q) : xs.length = n + 1 := by
  obtain ⟨v, r, rfl, h⟩ := h
  rw [List.length_cons, ht r _ _ _ h]
theorem rl2 : (∀ t v σ H Q, gTupQ t v σ H Q = ∃ a o xs, v = .ref a ∧ H a = some o ∧ isT o = true ∧ seqO o = some xs ∧ t xs σ H Q) ∧ (∀ K te σ H Q, tRevL K te σ H Q = te σ H fun x H1 => ∃ a xs, x = .ref a ∧ SqL K H1 a xs ∧ ∀ p, H1 p = none → Q (.ref p) (upd H1 p (.lst xs.reverse))) ∧
    (∀ C f ta D W σ H, tRs1 C f W ta D σ H = ta σ H fun vs H1 => ∃ v, vs = [v] ∧ ∀ d, H1 d = none → W (.ref C) (some d) σ (upd H1 d (.xd [(f, v)]))) := by
  refine ⟨?_, ?_, ?_⟩ <;> intros <;> rfl
end Sw

/-! Promises by arity, facts by Bools, kinds of things, things that equal themselves, methods of lists. -/
namespace Sw
open PySem PySem.Spec PyProof.Rows L2
/-! ### promises -/
def sp1 (f : V → Hp → VK → XK → Prop) : Sp := fun vs H Q E => ∃ a, vs = [a] ∧ f a H Q E
def sp2 (f : V → V → Hp → VK → XK → Prop) : Sp := fun vs H Q E => ∃ a b, vs = [a, b] ∧ f a b H Q E
def sp3 (f : V → V → V → Hp → VK → XK → Prop) : Sp := fun vs H Q E => ∃ a b c, vs = [a, b, c] ∧ f a b c H Q E
def sp4 (f : V → V → V → V → Hp → VK → XK → Prop) : Sp := fun vs H Q E => ∃ a b c d, vs = [a, b, c, d] ∧ f a b c d H Q E
theorem len1 (f : V → Hp → VK → XK → Prop) {x : Str} (vs : List V) (H : Hp) (Q : VK) (E : XK) (h : sp1 f vs H Q E) : vs.length = [x].length := by obtain ⟨a, rfl, _⟩ := h; rfl
theorem len2 (f : V → V → Hp → VK → XK → Prop) {x y : Str} (vs : List V) (H : Hp) (Q : VK) (E : XK) (h : sp2 f vs H Q E) : vs.length = [x, y].length := by obtain ⟨a, b, rfl, _⟩ := h; rfl
theorem len3 (f : V → V → V → Hp → VK → XK → Prop) {x y z : Str} (vs : List V) (H : Hp) (Q : VK) (E : XK) (h : sp3 f vs H Q E) : vs.length = [x, y, z].length := by obtain ⟨a, b, c, rfl, _⟩ := h; rfl
theorem len4 (f : V → V → V → V → Hp → VK → XK → Prop) {x y z u : Str} (vs : List V) (H : Hp) (Q : VK) (E : XK) (h : sp4 f vs H Q E) : vs.length = [x, y, z, u].length := by obtain ⟨a, b, c, d, rfl, _⟩ := h; rfl
theorem rsp : (∀ f a H Q E, sp1 f [a] H Q E = f a H Q E) ∧ (∀ f a b H Q E, sp2 f [a, b] H Q E = f a b H Q E) ∧ (∀ f a b c H Q E, sp3 f [a, b, c] H Q E = f a b c H Q E) ∧ (∀ f a b c d H Q E, sp4 f [a, b, c, d] H Q E = f a b c d H Q E) := by
  refine ⟨fun f a H Q E => propext ⟨fun ⟨_, e, h⟩ => ?_, fun h => ⟨_, rfl, h⟩⟩, fun f a b H Q E => propext ⟨fun ⟨_, _, e, h⟩ => ?_, fun h => ⟨_, _, rfl, h⟩⟩, fun f a b c H Q E => propext ⟨fun ⟨_, _, _, e, h⟩ => ?_, fun h => ⟨_, _, _, rfl, h⟩⟩,
    fun f a b c d H Q E => propext ⟨fun ⟨_, _, _, _, e, h⟩ => ?_, fun h => ⟨_, _, _, _, rfl, h⟩⟩⟩ <;> (cases e; exact h)
/-! ### facts by Bools -/
def allB : List Bool → Bool
  | [] => true
  | b :: r => b && allB r
theorem allB_ok : ∀ {l : List Bool}, allB l = true → ∀ (i : Nat) {b : Bool}, l[i]? = some b → b = true
  | [], _, i, b, h => by simp at h
  | c :: r, e, 0, b, h => by
    have h2 : c = b := by simpa using h
    rw [← h2]
    exact (Bool.and_eq_true_iff.mp e).1
  | c :: r, e, i + 1, b, h => allB_ok (Bool.and_eq_true_iff.mp e).2 i (by simpa using h)
/-- an error class by what the head says of it -/
theorem exn_mk {P : Program} {w : World} {K : Fg} {mg : Str → Option Value} {base : Heap} {x f m qual : Str} {params : Arguments} {body : List Stmt} {scope : Scope} {fd : FuncData} {Cs : Addr}
    {p1 p2 p3 p4 p5 p6 p7 p8 p9 p10 : Pos} {j : Nat} (at_ : mg x = some (.ref (He.ga K x))) (c : ExC K (He.ga K x)) (no : PySem.W.findIn K (.ref (He.ga K x)) f = some none) (M : Meth K (He.ga K x) "__init__" (He.ma K (He.ga K x) "__init__"))
    (F : FunD K "__init__" qual params body scope [] [] (He.ma K (He.ga K x) "__init__") fd) (S : FnScope ["self", f] ["self", f] scope) (hb : body = ini1 m f p1 p2 p3 p4 p5 p6 p7 p8 p9 p10 j)
    (l1 : scope.names.lookup ("self" : Str) = some .local) (l2 : scope.names.lookup f = some .local) (l3 : scope.names.lookup ("SeedError" : Str) = some .globalImplicit) (hdb : (f == ("__debug__" : Str)) = false) (hcd : (f == ("__classdict__" : Str)) = false)
    (hl : (p2.endLine == p5.line) = true) (I0 : IniC K Cs) (gS : mg "SeedError" = some (.ref Cs))
    (hbd : ∀ (kV doc pm : Value) (an : Option Addr) (cdv ct : Value) (us : List Value), us.length = (["self", f] : List Str).length → bindArgs (PySem.W.fnOf "__init__" qual params body scope .none kV doc pm an cdv ct) ⟨us, []⟩ = pure ((["self", f] : List Str).zip us)) :
    Exn P w K mg base x f := ⟨at_, c, no, _, fd, M.at_, beq_iff_eq.mp M.fn, ok_ini1 F S hb l1 l2 l3 hdb hcd hl c I0 gS no, F.bindsN hbd⟩
/-! ### kinds -/
def tyO : HO → Option String
  | .lst _ => some "list"
  | .frz _ (.lst _) => some "list"
  | .tup _ => some "tuple"
  | .frz _ (.tup _) => some "tuple"
  | .dK _ => some "dict"
  | .dT _ => some "dict"
  | _ => none
def tyN (H : Hp) : V → Option String
  | .non => some "NoneType"
  | .bl _ => some "bool"
  | .int _ => some "int"
  | .str _ => some "str"
  | .ref p => (H p).bind tyO
  | _ => none
theorem tyN_ok {K : Fg} {H : Hp} {x : V} {n : String} (h : tyN H x = some n) : TyX K H x (.type n) := by
  cases x with
  | non => cases h; exact .base .non
  | bl b => cases h; exact .base (.bl b)
  | int i => cases h; exact .base (.int i)
  | str z => cases h; exact .base (.str z)
  | ref p =>
    obtain ⟨o, e, h⟩ := Option.bind_eq_some_iff.mp h
    unfold tyO at h
    split at h <;> first
      | (cases h; exact .base (.lst e))
      | (cases h; exact .base (.frz e))
      | (cases h; exact .base (.tup e))
      | (cases h; exact .fTuple e)
      | (cases h; exact .base (.dK e))
      | (cases h; exact .base (.dT e))
      | cases h
  | byt b => cases h
  | flt b => cases h
  | ty n => cases h
theorem tyN_cases {H : Hp} {x : V} {n : String} (h : tyN H x = some n) : n = "NoneType" ∨ n = "bool" ∨ n = "int" ∨ n = "str" ∨ n = "list" ∨ n = "tuple" ∨ n = "dict" := by
  cases x with
  | ref p =>
    obtain ⟨o, e, h⟩ := Option.bind_eq_some_iff.mp h
    unfold tyO at h
    split at h <;> cases h <;> simp
  | _ => cases h <;> simp
theorem tyN_same {H H' : Hp} (s : Same H H') {x : V} {n : String} (h : tyN H x = some n) : tyN H' x = some n := by
  cases x with
  | ref p =>
    obtain ⟨o, e, h⟩ := Option.bind_eq_some_iff.mp h
    exact Option.bind_eq_some_iff.mpr ⟨o, s p o e, h⟩
  | _ => exact h
def isB (H : Hp) (x : V) (T : String) : Option Bool := (tyN H x).bind fun n => kitB n T
/-- isinstance(x, T), T built in -/
def rIsQ : List V → Hp → VK → Prop := fun vs H Q => ∃ x T b, vs = [x, .ty T] ∧ isB H x T = some b ∧ Q (.bl b) H
theorem is_q {X : Cx} : CallR X (.builtin "isinstance") rIsQ := fun pins s σ H xs us Q I r h => by
  obtain ⟨x, T, b, rfl, e, q⟩ := h
  obtain ⟨n, e1, e2⟩ := Option.bind_eq_some_iff.mp e
  exact call_isi pins s σ H _ us Q I r ⟨x, .ty T, .type n, .type T, b, rfl, .ty T, tyN_ok e1, kit_ty e2, q⟩
theorem kitB_all : kitB "NoneType" "int" = some false ∧ kitB "bool" "int" = some true ∧ kitB "int" "int" = some true ∧ kitB "str" "int" = some false ∧ kitB "list" "int" = some false ∧ kitB "tuple" "int" = some false ∧ kitB "dict" "int" = some false ∧
    kitB "NoneType" "bool" = some false ∧ kitB "bool" "bool" = some true ∧ kitB "int" "bool" = some false ∧ kitB "str" "bool" = some false ∧ kitB "list" "bool" = some false ∧ kitB "tuple" "bool" = some false ∧ kitB "dict" "bool" = some false ∧
    kitB "NoneType" "list" = some false ∧ kitB "bool" "list" = some false ∧ kitB "int" "list" = some false ∧ kitB "str" "list" = some false ∧ kitB "list" "list" = some true ∧ kitB "tuple" "list" = some false ∧ kitB "dict" "list" = some false ∧
    kitB "NoneType" "tuple" = some false ∧ kitB "bool" "tuple" = some false ∧ kitB "int" "tuple" = some false ∧ kitB "str" "tuple" = some false ∧ kitB "list" "tuple" = some false ∧ kitB "tuple" "tuple" = some true ∧ kitB "dict" "tuple" = some false ∧
    kitB "NoneType" "str" = some false ∧ kitB "bool" "str" = some false ∧ kitB "int" "str" = some false ∧ kitB "str" "str" = some true ∧ kitB "list" "str" = some false ∧ kitB "tuple" "str" = some false ∧ kitB "dict" "str" = some false ∧
    kitB "NoneType" "dict" = some false ∧ kitB "bool" "dict" = some false ∧ kitB "int" "dict" = some false ∧ kitB "str" "dict" = some false ∧ kitB "list" "dict" = some false ∧ kitB "tuple" "dict" = some false ∧ kitB "dict" "dict" = some true := by
  decide +kernel
def whole : V → Bool
  | .int _ => true
  | _ => false
def within (x : V) (lo hi : Int) : Bool := match x with
  | .int i => decide (lo ≤ i ∧ i ≤ hi)
  | _ => false
def bool? : V → Bool
  | .bl _ => true
  | _ => false
theorem isB_bool {H : Hp} {x : V} {n : String} (h : tyN H x = some n) : isB H x "bool" = some (bool? x) := by
  have e : isB H x "bool" = kitB n "bool" := by rw [isB, h, Option.bind_some]
  rw [e]
  cases x with
  | ref p =>
    obtain ⟨o, eo, h⟩ := Option.bind_eq_some_iff.mp h
    unfold tyO at h
    split at h <;> cases h <;> simp only [kitB_all, bool?]
  | _ => cases h <;> simp only [kitB_all, bool?]
theorem isB_int {H : Hp} {x : V} {n : String} (h : tyN H x = some n) : isB H x "int" = some (whole x || bool? x) := by
  have e : isB H x "int" = kitB n "int" := by rw [isB, h, Option.bind_some]
  rw [e]
  cases x with
  | ref p =>
    obtain ⟨o, eo, h⟩ := Option.bind_eq_some_iff.mp h
    unfold tyO at h
    split at h <;> cases h <;> simp only [kitB_all, bool?, whole, Bool.or_self, Bool.or_true, Bool.true_or, Bool.or_false]
  | _ => cases h <;> simp only [kitB_all, bool?, whole, Bool.or_self, Bool.or_true, Bool.true_or, Bool.or_false]
theorem isB_list {H : Hp} {p : Addr} {xs : List V} (h : H p = some (.lst xs)) : isB H (.ref p) "list" = some true := by
  have e : tyN H (.ref p) = some "list" := by rw [tyN, h] <;> rfl
  rw [isB, e, Option.bind_some]
  decide +kernel
theorem isB_tup {H : Hp} {p : Addr} {xs : List V} (h : H p = some (.tup xs)) : isB H (.ref p) "tuple" = some true := by
  have e : tyN H (.ref p) = some "tuple" := by rw [tyN, h] <;> rfl
  rw [isB, e, Option.bind_some]
  decide +kernel
theorem whole_is (x : V) : ((whole x || bool? x) && !bool? x) = whole x := by cases x <;> rfl
/-! ### methods of lists -/
def tML (r : V → List V → Hp → VK → Prop) (to : TE) (t : TA) : TE := fun σ H Q => to σ H fun x H1 => ∃ p xs, x = .ref p ∧ H1 p = some (.lst xs) ∧ t σ H1 fun vs H2 => r x vs H2 Q
section
variable {X : Cx} {name : Str} {id : String} {r : V → List V → Hp → VK → Prop} {o e : Expr} {es : List Expr} {to : TE} {t : TA} {apos cpos : Pos}
theorem pe_ml (slot : Slot "list" name id) (hty : typeOf (.builtin id) = pure (.type "method_descriptor")) (hm : MtR X id r) (ho : PE X o to) (ha : PA X (e :: es) t)
    (hb : attributeBase o name X.env (eval o X.env) = eval o X.env := by rfl)
    (hw : ((backTo cpos (starEach (e :: es) X.env)).all (fun x => !x.1) && (backToKw cpos (keywordEach [] X.env)).all (fun x => x.1.isSome) && decide ((e :: es).length + ([] : List Keyword).length + (if ([] : List Keyword).isEmpty then 0 else 1) < 30)) = true := by rfl)
    (hl : (apos.endLine == cpos.line) = true := by rfl) (he : starEach (e :: es) X.env = (false, eval e X.env) :: starEach es X.env := by rfl) (hpl : (backTo cpos (starEach es X.env)).any (·.1) = false := by rfl) :
    PE X (.Call (.Attribute o name apos) (e :: es) [] cpos) (tML r to t) := ⟨fun pins s σ H Q I h =>
  (pe_bm PySem.F.plainAttrs_list slot hty hm (pe_mono ho) ha hb hw hl he hpl).run pins s σ H Q I ⟨_, h, fun x H1 ⟨p, xs, e, hp, q⟩ => ⟨by rw [e]; exact .inl ⟨rfl, xs, SqL.of hp⟩, q⟩⟩⟩
theorem pe_ml0 (slot : Slot "list" name id) (hty : typeOf (.builtin id) = pure (.type "method_descriptor")) (hm : MtR X id r) (ho : PE X o to)
    (hb : attributeBase o name X.env (eval o X.env) = eval o X.env := by rfl) (hl : (apos.endLine == cpos.line) = true := by rfl) :
    PE X (.Call (.Attribute o name apos) [] [] cpos) (tML r to tNil) := ⟨fun pins s σ H Q I h =>
  (pe_bm0 PySem.F.plainAttrs_list slot hty hm (pe_mono ho) hb hl).run pins s σ H Q I ⟨_, h, fun x H1 ⟨p, xs, e, hp, q⟩ => ⟨by rw [e]; exact .inl ⟨rfl, xs, SqL.of hp⟩, q⟩⟩⟩
end
theorem rz : (∀ vs H Q, rIsQ vs H Q = ∃ x T b, vs = [x, .ty T] ∧ isB H x T = some b ∧ Q (.bl b) H) ∧ (∀ r to t σ H Q, tML r to t σ H Q = to σ H fun x H1 => ∃ p xs, x = .ref p ∧ H1 p = some (.lst xs) ∧ t σ H1 fun vs H2 => r x vs H2 Q) ∧
    (∀ a b : String, V.ty a = V.ty b ↔ a = b) := by
  refine ⟨?_, ?_, ?_⟩ <;> intros <;> first | rfl | simp
theorem rix : (∀ (a : V) l, ixN (a :: l).length 0 = some 0) ∧ (∀ (a b : V) l, ixN (a :: b :: l).length 1 = some 1) ∧ (∀ (a b c : V) l, ixN (a :: b :: c :: l).length 2 = some 2) ∧ (∀ (a b c d : V) l, ixN (a :: b :: c :: d :: l).length 3 = some 3) := by
  refine ⟨?_, ?_, ?_, ?_⟩ <;> intros <;> simp only [ixN, List.length_cons] <;> rw [if_pos (by decide), if_pos (by omega)] <;> rfl
theorem rln : (([] : List V).length ≤ sizeLine ↔ True) ∧ (∀ a : V, [a].length ≤ sizeLine ↔ True) ∧ (∀ a b : V, [a, b].length ≤ sizeLine ↔ True) ∧ (∀ a b c : V, [a, b, c].length ≤ sizeLine ↔ True) ∧ (∀ a b c d : V, [a, b, c, d].length ≤ sizeLine ↔ True) ∧
    (∀ a b c d e : V, [a, b, c, d, e].length ≤ sizeLine ↔ True) ∧ (∀ a b c d e f : V, [a, b, c, d, e, f].length ≤ sizeLine ↔ True) ∧ (∀ a b c d e f g : V, [a, b, c, d, e, f, g].length ≤ sizeLine ↔ True) := by
  refine ⟨?_, ?_, ?_, ?_, ?_, ?_, ?_, ?_⟩ <;> intros <;> simp only [List.length_cons, List.length_nil, sizeLine_eq] <;> decide
theorem Same.new {H : Hp} {p : Addr} {o : HO} (h : H p = none) : Same H (upd H p o) := fun a u e => by
  rw [upd_ne (ne_of_none e h)]
  exact e
/-- an object that H does not know may change -/
theorem Same.mut {H H' : Hp} {p : Addr} {o : HO} (s : Same H H') (h : H p = none) : Same H (upd H' p o) := fun a u e => by
  rw [upd_ne (ne_of_none e h)]
  exact s a u e
/-! ### equal to themselves -/
/-- scalars; lists, tuples of ints; the empty dict -/
def Plain (H : Hp) : V → Prop
  | .non => True
  | .bl _ => True
  | .int _ => True
  | .str _ => True
  | .ref p => (∃ ns : List Int, H p = some (.lst (ns.map V.int)) ∧ ns.length ≤ 1000) ∨ (∃ ns : List Int, H p = some (.tup (ns.map V.int)) ∧ ns.length ≤ 1000) ∨ H p = some (.dK [])
  | _ => False
theorem Plain.same {H H' : Hp} (s : Same H H') {x : V} (h : Plain H x) : Plain H' x := by
  cases x with
  | ref p =>
    rcases h with ⟨ns, h, l⟩ | ⟨ns, h, l⟩ | h
    · exact .inl ⟨ns, s _ _ h, l⟩
    · exact .inr (.inl ⟨ns, s _ _ h, l⟩)
    · exact .inr (.inr (s _ _ h))
  | _ => exact h
theorem Plain.ty {H : Hp} {x : V} (h : Plain H x) : ∃ n, tyN H x = some n := by
  cases x with
  | ref p =>
    rcases h with ⟨ns, h, _⟩ | ⟨ns, h, _⟩ | h
    · exact ⟨"list", by rw [tyN, h] <;> rfl⟩
    · exact ⟨"tuple", by rw [tyN, h] <;> rfl⟩
    · exact ⟨"dict", by rw [tyN, h] <;> rfl⟩
  | byt _ => exact h.elim
  | flt _ => exact h.elim
  | ty _ => exact h.elim
  | _ => exact ⟨_, rfl⟩
theorem dpI {K : Fg} {H : Hp} : ∀ ns : List Int, DpAll K H (ns.map V.int) (ns.map PyData.int)
  | [] => .nil
  | n :: r => .cons (.int n) (dpI r)
theorem layI : ∀ ns : List Int, PyData.canLayAll0 (ns.map PyData.int) = true
  | [] => rfl
  | n :: r => by
    show (PyData.canLay0 (.int n) && PyData.canLayAll0 (r.map PyData.int)) = true
    rw [layI r, Bool.and_true]
    rfl
theorem depI : ∀ ns : List Int, PyData.depthAll (ns.map PyData.int) ≤ 1
  | [] => by show 0 ≤ 1; decide
  | n :: r => by
    have h := depI r
    simp only [List.map_cons, PyData.depthAll, PyData.depth]
    omega
theorem shapeL {ns : List Int} : SeqAt.shaped (.list (ns.map PyData.int)) = true := by
  have h := depI ns
  have h2 := layI ns
  simp only [SeqAt.shaped, PyData.canLay0, PyData.depth, Bool.and_eq_true, decide_eq_true_eq]
  exact ⟨h2, decide_eq_true (by omega)⟩
theorem shapeT {ns : List Int} : SeqAt.shaped (.tuple (ns.map PyData.int)) = true := by
  have h := depI ns
  have h2 := layI ns
  simp only [SeqAt.shaped, PyData.canLay0, PyData.depth, Bool.and_eq_true, decide_eq_true_eq]
  exact ⟨h2, decide_eq_true (by omega)⟩
theorem eqvI (ns ms : List Int) : PyData.eqv (.list (ns.map PyData.int)) (.list (ms.map PyData.int)) = decide (ns = ms) := by
  show PyData.eqvAll _ _ = _
  induction ns generalizing ms with
  | nil => cases ms with
    | nil => rfl
    | cons m r => rfl
  | cons n r ih => cases ms with
    | nil => rfl
    | cons m s =>
      show ((n == m) && PyData.eqvAll (r.map PyData.int) (s.map PyData.int)) = _
      rw [ih s, Bool.eq_iff_iff]
      simp
def rEqU (K : Fg) : R2 := fun x y H Q => L2.rEqD K x y H Q ∨ L2.rEqV K x y H Q ∨ L2.rEq x y H Q
theorem op_eqU {X : Cx} (hu : X.A.units + 64 < cLine) : OpR X (compareOp .Eq) (rEqU X.K) := OpR.or (op_eqD hu) (OpR.or (op_eqV hu) op_eq)
theorem Plain.eq {K : Fg} {H : Hp} {x : V} (h : Plain H x) {Q : VK} (q : Q (.bl true) H) : rEqU K x x H Q := by
  cases x with
  | ref p =>
    rcases h with ⟨ns, h, l⟩ | ⟨ns, h, l⟩ | h
    · refine .inr (.inl ⟨1, by decide, .inl ⟨p, p, _, _, rfl, rfl, SqL.of h, SqL.of h, ?_⟩, q⟩)
      clear h l
      induction ns with
      | nil => exact .nil
      | cons n r ih => exact .cons (.inl ⟨rfl, rfl⟩) ih
    · refine .inl ⟨_, _, .tup (SqT.of h) (dpI ns), .tup (SqT.of h) (dpI ns), shapeT, shapeT, ?_⟩
      rw [SeqAt.eqv_refl _ (SeqAt.canLay_of_shaped shapeT)]
      exact q
    · exact .inr (.inl ⟨1, by decide, .inr ⟨p, p, [], [], rfl, rfl, h, h, rfl, fun p hp => by cases hp⟩, q⟩)
  | non => exact .inl ⟨_, _, .non, .non, by decide, by decide, q⟩
  | bl b => exact .inl ⟨_, _, .bl b, .bl b, by cases b <;> decide, by cases b <;> decide, by rw [SeqAt.eqv_refl _ (by cases b <;> decide)]; exact q⟩
  | int i => exact .inl ⟨_, _, .int i, .int i, rfl, rfl, by rw [SeqAt.eqv_refl _ rfl]; exact q⟩
  | str s => exact .inr (.inr ⟨rfl, by rw [decide_eq_true rfl]; exact q⟩)
  | byt _ => exact h.elim
  | flt _ => exact h.elim
  | ty _ => exact h.elim
end Sw

/-! A call of a local name that holds one of several defs; small facts. -/
namespace Sw
open PySem PySem.Spec PyProof.Rows L2
structure HeldE (P : Program) (w : World) (K : Fg) (mg : Str → Option Value) (base : Heap) (k : Nat) (f : Addr) (sp : Sp) : Prop where
  ex : ∃ (fd : FuncData) (ps : List Str), FnOk P w K mg base (L2.CX P w) k f fd ps sp ∧ PySem.W.keepIn K (.ref f) = true ∧ Binds K fd ps []
theorem Cal.held {P : Program} {w : World} {K : Fg} {mg : Str → Option Value} {base : Heap} {k : Nat} {x : Str} {ps : List Str} {sp : Sp} (c : Cal P w K mg base k x ps sp) : HeldE P w K mg base k (He.ga K x) sp := by
  obtain ⟨fd, F, b⟩ := c.ex
  exact ⟨fd, ps, F, c.kp, b⟩
inductive Deeds (P : Program) (w : World) (K : Fg) (mg : Str → Option Value) (base : Heap) (j : Nat) : List (Addr × Sp) → Prop
  | nil : Deeds P w K mg base j []
  | cons {k : Nat} {x : Str} {ps : List Str} {sp : Sp} {l : List (Addr × Sp)} : Cal P w K mg base k x ps sp → k ≤ j → Deeds P w K mg base j l → Deeds P w K mg base j ((He.ga K x, sp) :: l)
theorem Deeds.get {P : Program} {w : World} {K : Fg} {mg : Str → Option Value} {base : Heap} {j : Nat} {l : List (Addr × Sp)} {f : Addr} {sp : Sp} (D : Deeds P w K mg base j l) (h : (f, sp) ∈ l) : ∃ k, k ≤ j ∧ HeldE P w K mg base k f sp := by
  induction D with
  | nil => cases h
  | cons c hk _ ih =>
    cases h with
    | head => exact ⟨_, hk, c.held⟩
    | tail _ h => exact ih h
def tDeedS (i : Nat) (l : List (Addr × Sp)) (E : L2.St → XK) (t : TA) : TE := fun σ H Q => ∃ f sp, σ[i]? = some (some (.ref f)) ∧ (f, sp) ∈ l ∧ t σ H fun vs H1 => sp vs H1 Q (E σ)
section
variable {X : Cx} {k i j : Nat} {x : Str} {p pos : Pos} {e : Expr} {es : List Expr} {t : TA} {l : List (Addr × Sp)}
theorem pe_deedS {W : WX} (D : Deeds X.prog X.w X.K X.mg X.base j l) (hr : Room j X.A) (tk : Takes X W) (hN : X.N[i]? = some x) (hv : Vis X.env.scope x) (ha : PA X (e :: es) t)
    (hdb : (x == ("__debug__" : Str)) = false := by decide) (hcd : (x == ("__classdict__" : Str)) = false := by decide)
    (he : starEach (e :: es) X.env = (false, eval e X.env) :: starEach es X.env := by rfl) (hpl : (backTo pos (starEach es X.env)).any (·.1) = false := by rfl) : PE X (.Call (.Name x p) (e :: es) [] pos) (tDeedS i l (WE W) t) := by
  refine ⟨fun pins s σ H Q I h => ?_⟩
  obtain ⟨f, sp, hs, hS, ht⟩ := h
  obtain ⟨k, hk, ⟨fd, ps, F, kp, hb⟩⟩ := D.get hS
  refine wpAny_Call_Name_kw (thn ((pe_var (pos := p) hN hv hdb hcd).run pins s σ H (fun v H1 => v = .ref f ∧ H1 = H) I ⟨.ref f, hs, rfl, rfl⟩) fun u s1 ⟨v, H1, I1, r1, q1⟩ => ?_)
  obtain ⟨rfl, rfl⟩ := q1
  cases r1
  refine PySem.W.callWith_K (h₀ := X.base) I.ok.mod.kin kp (thn (ha.run pos pins s1 σ _ _ I1 ht) fun us s2 ⟨vs, H2, I2, r, q⟩ => ⟨I2.kIn, ?_⟩) he hpl
  exact run_fnS F (hr.mono hk) hb (passAt tk σ) I2 r q
end
theorem rd : (∀ i l E t σ H Q, tDeedS i l E t σ H Q = ∃ f sp, σ[i]? = some (some (.ref f)) ∧ (f, sp) ∈ l ∧ t σ H fun vs H1 => sp vs H1 Q (E σ)) ∧ (∀ σ H Q, tDNewK σ H Q = ∀ p, H p = none → Q (.ref p) (upd H p (.dK []))) := ⟨fun _ _ _ _ _ _ _ => rfl, fun _ _ _ => rfl⟩
theorem rwi : (∀ σ : L2.St, wipe σ [] = σ) ∧ (∀ (σ : L2.St) (i : Nat) (vs : List Nat), wipe σ (i :: vs) = (wipe σ vs).set i none) ∧ (List.map (fun x : Str × Nat => x.snd) [] = []) ∧ (∀ (a : Str × Nat) (l : List (Str × Nat)), List.map (fun x : Str × Nat => x.snd) (a :: l) = a.snd :: List.map (fun x : Str × Nat => x.snd) l) := ⟨fun _ => rfl, fun _ _ _ => rfl, rfl, fun _ _ => rfl⟩
/-! ### a list and its copy -/
theorem Plain.eqV {K : Fg} {H : Hp} {x : V} (h : Plain H x) : EqV K H 1 x x := by
  cases x with
  | ref p => exact .inr (.inl ⟨p, rfl, rfl⟩)
  | non => exact .inl ⟨rfl, rfl⟩
  | bl b => exact .inl ⟨rfl, rfl⟩
  | int i => exact .inl ⟨rfl, rfl⟩
  | str s => exact .inl ⟨rfl, rfl⟩
  | byt _ => exact h.elim
  | flt _ => exact h.elim
  | ty _ => exact h.elim
theorem paired_self {E : V → V → Prop} : ∀ {xs : List V}, (∀ x ∈ xs, E x x) → Paired E xs xs
  | [], _ => .nil
  | x :: r, h => .cons (h x (by simp)) (paired_self fun y hy => h y (List.mem_cons_of_mem _ hy))
theorem copy_eq {K : Fg} {H : Hp} {p q : Addr} {xs : List V} (hp : H p = some (.lst xs)) (hq : H q = some (.lst xs)) (h : ∀ x ∈ xs, Plain H x) {Q : VK} (k : Q (.bl true) H) : rEqU K (.ref p) (.ref q) H Q :=
  .inr (.inl ⟨1, by decide, .inl ⟨p, q, xs, xs, rfl, rfl, SqL.of hp, SqL.of hq, paired_self fun x hx => (h x hx).eqV⟩, k⟩)
theorem isD_ref {K : Fg} {D a C d : Addr} {H : Hp} {fs : List (Str × V)} {b : Bool} {Q : VK} (hd : H d = some (.xd fs)) (e : PySem.W.kitOne K (.ref D) (.ref C) = some b) (q : Q (.bl b) H) : rIsD K D a (.ref D) (some d) [.ref a, .ref C] H Q := ⟨_, _, _, _, _, rfl, .own C, rfl, rfl, hd, e, q⟩
theorem isD_ty {K : Fg} {D a d : Addr} {T : String} {H : Hp} {fs : List (Str × V)} {b : Bool} {Q : VK} (hd : H d = some (.xd fs)) (e : PySem.W.kitOne K (.ref D) (.type T) = some b) (q : Q (.bl b) H) : rIsD K D a (.ref D) (some d) [.ref a, .ty T] H Q := ⟨_, _, _, _, _, rfl, .ty T, rfl, rfl, hd, e, q⟩
theorem eq_ints {K : Fg} {H : Hp} {p q : Addr} {ns ms : List Int} (hp : SqL K H p (ns.map V.int)) (hq : SqL K H q (ms.map V.int)) {Q : VK} (k : Q (.bl (decide (ns = ms))) H) : rEqD K (.ref p) (.ref q) H Q := by
  refine ⟨_, _, .lst hp (dpI ns), .lst hq (dpI ms), shapeL, shapeL, ?_⟩
  rw [eqvI]
  exact k
theorem ne_ints {K : Fg} {H : Hp} {p q : Addr} {ns ms : List Int} (hp : SqL K H p (ns.map V.int)) (hq : SqL K H q (ms.map V.int)) {Q : VK} (k : Q (.bl (!decide (ns = ms))) H) : rNeD K (.ref p) (.ref q) H Q := by
  refine ⟨_, _, .lst hp (dpI ns), .lst hq (dpI ms), shapeL, shapeL, ?_⟩
  rw [eqvI]
  exact k
theorem ite_none {α : Type} {c : Prop} [Decidable c] {o : α} {x : Option α} (h : (if c then some o else x) = none) : ¬ c ∧ x = none := by
  by_cases k : c
  · rw [if_pos k] at h
    cases h
  · rw [if_neg k] at h
    exact ⟨k, h⟩
theorem Plain.move {H H' : Hp} {x : V} (h : Plain H x) (k : ∀ q o, x = .ref q → H q = some o → H' q = some o) : Plain H' x := by
  cases x with
  | ref p =>
    rcases h with ⟨ns, h, l⟩ | ⟨ns, h, l⟩ | h
    · exact .inl ⟨ns, k _ _ rfl h, l⟩
    · exact .inr (.inl ⟨ns, k _ _ rfl h, l⟩)
    · exact .inr (.inr (k _ _ rfl h))
  | _ => exact h
/-- two ways to one place: the place is shown once -/
theorem Be.join {b : Bool} {f g : Hp → Prop} {H : Hp} (S : Hp → Prop) (h0 : S H) (n : ∀ H', S H' → g H') (hf : (∀ H', S H' → g H') → b = true → f H) : Be b f g H := Be.of (hf n) fun _ => n _ h0
theorem Be.joinL {b : Bool} {f g : Hp → Prop} {H : Hp} (S : Hp → Prop) (h0 : S H) (n : ∀ H', S H' → f H') (hg : (∀ H', S H' → f H') → b = false → g H) : Be b f g H := Be.of (fun _ => n _ h0) (hg n)
/-! ### the law's own def, and the end -/
theorem fn_mk {P : Program} {w : World} {K : Fg} {mg : Str → Option Value} {base : Heap} {k : Nat} {x : Str} {N ps : List Str} {sp : Sp} {st : Stmt} {fd : FuncData}
    (F : FunD K x x (defArgs st) (defBody st) (defScope st) [] [] (He.ga K x) fd) (S : FnScope N ps (defScope st)) (len : ∀ vs H Q E, sp vs H Q E → vs.length = ps.length)
    (hbody : ∀ (cdv : Value) (A : Around) (outer : List Env) (s : Shared) (H : Hp) (vs : List V) (Q : VK) (E : XK), Room k (A.deeper (envOfC x (defScope st) s.heap.objs.size (He.ga K x) cdv)) → sp vs H Q E →
      ∃ t, PSs (cxOf (L2.CX P w) P w K mg base N x (defScope st) (He.ga K x) cdv A outer s H E) (defBody st) t ∧ t { nx := fun _ H' => Q .non H', rt := Q } (start N vs) H) : FnOk P w K mg base (L2.CX P w) (k + 1) (He.ga K x) fd ps sp := F.ok S len hbody
theorem fn_closed {P : Program} {w : World} {K : Fg} {mg : Str → Option Value} {base : Heap} {k : Nat} {f : Addr} {fd : FuncData} {ps : List Str} {sp : Sp} (F : FnOk P w K mg base (L2.CX P w) k f fd ps sp) :
    FnOk P w K mg base (fun _ _ _ _ _ _ => False) k f fd ps (fun vs H Q _ => sp vs H Q fun _ _ _ => False) :=
  ⟨fun vs H Q E q => F.len _ _ _ _ q, fun A outer s H args us vs Q E hr he hb hv hs => codeAny_mono (F.run A outer s H args us vs Q (fun _ _ _ => False) hr he hb hv hs) fun r s' h => by
    cases r with
    | error e =>
      obtain ⟨_, _, _, _, _, _, _, _, _, _, _, _, z⟩ := h
      exact z.elim
    | ok fl => cases fl <;> exact h⟩
theorem fin_mk {P : Program} {w : World} {K : Fg} {mg : Str → Option Value} {h : Heap} {n k : Nat} {fa : Addr} {st : Stmt} {sp : Sp} (KX : K.In h) (hf : fa = He.ga K "law")
    (F : ∃ fd, FunD K "law" "law" (defArgs st) (defBody st) (defScope st) [] [] (He.ga K "law") fd)
    (hb : ∀ (kV doc pm : Value) (an : Option Addr) (cdv ct : Value) (us : List Value), us.length = (["script"] : List Str).length → bindArgs (PySem.W.fnOf "law" "law" (defArgs st) (defBody st) (defScope st) .none kV doc pm an cdv ct) ⟨us, []⟩ = pure ((["script"] : List Str).zip us))
    (hsp : ∀ (H : Hp) (a : Addr) (ns : List Int), ns.length ≤ n → SqL K H a (ns.map V.int) → sp [.ref a] H (fun v _ => v = .bl true) fun _ _ _ => False)
    (hF : ∀ (fd : FuncData) (base : Heap), FunD K "law" "law" (defArgs st) (defBody st) (defScope st) [] [] (He.ga K "law") fd → FnOk P w K mg base (L2.CX P w) k (He.ga K "law") fd ["script"] sp) :
    ∃ (K : PySem.W.Frag) (fd : FuncData) (sp : Sp), K.In h ∧ (∀ (s : Shared) (u : Value), BindsTo s fd ⟨[u], []⟩ [("script", u)]) ∧
        (∀ (H : Hp) (a : Addr) (ns : List Int), ns.length ≤ n → Only H → SqL K H a (ns.map V.int) → sp [.ref a] H (fun v _ => v = .bl true) fun _ _ _ => False) ∧
        ∀ base : Heap, K.In base → base.Ns mainGlobals mg → FnOk P w K mg base (fun _ _ _ _ _ _ => False) k fa fd ["script"] sp := by
  obtain ⟨fd, F⟩ := F
  refine ⟨K, fd, fun vs H Q _ => sp vs H Q fun _ _ _ => False, KX, fun s u => F.bindsA (ps := ["script"]) hb s [u] rfl, fun H a ns h1 _ h2 => hsp H a ns h1 h2, fun base _ _ => ?_⟩
  rw [hf]
  exact fn_closed (hF fd base F)
theorem eqv_int (i j : Int) : PyData.eqv (.int i) (.int j) = decide (i = j) := by
  show (i == j) = _
  rw [Bool.eq_iff_iff]
  simp
end Sw

namespace Law
open PySem PySem.Spec PyProof.Rows L2 Sw
/-! ### numbers by bases -/
def prodI : List Int → Int
  | [] => 1
  | b :: r => b * prodI r
def valR : List Int → List Int → Int
  | n :: ns, b :: bs => n + b * valR ns bs
  | _, _ => 0
def digsR : Int → List Int → List Int
  | _, [] => []
  | i, b :: r => i % b :: digsR (i / b) r
def quoR : Int → List Int → Int
  | i, [] => i
  | i, b :: r => quoR (i / b) r
def mixA : List Int → List Int → Int → Int
  | n :: ns, b :: bs, a => mixA ns bs (a * b + n)
  | _, _, a => a
def mixR : List V → List Int → Int → V ⊕ Int
  | x :: xs, b :: bs, a => match within x 0 (b - 1), x with
    | true, .int n => mixR xs bs (a * b + n)
    | _, y => .inl y
  | _, _, a => .inr a
def InR : List Int → List Int → Prop
  | [], [] => True
  | n :: ns, b :: bs => (0 ≤ n ∧ n < b) ∧ InR ns bs
  | _, _ => False
def nextR : List Int → List Int → Option (List Int)
  | n :: ns, b :: bs => if n + 1 < b then some ((n + 1) :: ns) else (nextR ns bs).map (0 :: ·)
  | _, _ => none
def Pos (bs : List Int) : Prop := ∀ b ∈ bs, 0 < b ∧ b < 2 ^ 64
theorem InR.len : ∀ {ns bs : List Int}, InR ns bs → ns.length = bs.length
  | [], [], _ => rfl
  | n :: ns, b :: bs, h => by rw [List.length_cons, List.length_cons, InR.len h.2]
  | [], _ :: _, h => h.elim
  | _ :: _, [], h => h.elim
theorem InR.snoc : ∀ {ns bs : List Int} {n b : Int}, InR ns bs → 0 ≤ n → n < b → InR (ns ++ [n]) (bs ++ [b])
  | [], [], n, b, _, h1, h2 => ⟨⟨h1, h2⟩, True.intro⟩
  | m :: ns, c :: bs, n, b, h, h1, h2 => ⟨h.1, InR.snoc h.2 h1 h2⟩
  | [], _ :: _, _, _, h, _, _ => h.elim
  | _ :: _, [], _, _, h, _, _ => h.elim
theorem InR.rev : ∀ {ns bs : List Int}, InR ns bs → InR ns.reverse bs.reverse
  | [], [], _ => True.intro
  | n :: ns, b :: bs, h => by
    rw [List.reverse_cons, List.reverse_cons]
    exact InR.snoc (InR.rev h.2) h.1.1 h.1.2
  | [], _ :: _, h => h.elim
  | _ :: _, [], h => h.elim
theorem InR.at_ : ∀ {ns bs : List Int} {i : Nat} {n b : Int}, InR ns bs → ns[i]? = some n → bs[i]? = some b → 0 ≤ n ∧ n < b
  | m :: ns, c :: bs, 0, n, b, h, e1, e2 => by
    have e1 : m = n := by simpa using e1
    have e2 : c = b := by simpa using e2
    rw [← e1, ← e2]
    exact h.1
  | m :: ns, c :: bs, i + 1, n, b, h, e1, e2 => InR.at_ (i := i) h.2 (by simpa using e1) (by simpa using e2)
  | [], _, _, _, _, _, e1, _ => by simp at e1
  | _ :: _, [], _, _, _, h, _, _ => h.elim
theorem prod_snoc : ∀ (l : List Int) (b : Int), prodI (l ++ [b]) = prodI l * b
  | [], b => by simp [prodI]
  | a :: l, b => by
    show a * prodI (l ++ [b]) = a * prodI l * b
    rw [prod_snoc l b, Int.mul_assoc]
theorem prod_rev : ∀ l : List Int, prodI l.reverse = prodI l
  | [] => rfl
  | a :: l => by
    rw [List.reverse_cons, prod_snoc, prod_rev l]
    exact Int.mul_comm _ _
theorem prod_pos : ∀ {l : List Int}, Pos l → 0 < prodI l
  | [], _ => by decide
  | a :: l, h => Int.mul_pos (h a (by simp)).1 (prod_pos fun b hb => h b (List.mem_cons_of_mem _ hb))
theorem prod_lt : ∀ {l : List Int}, Pos l → prodI l < 2 ^ (64 * l.length + 1)
  | [], _ => by decide
  | a :: l, h => by
    have h1 := prod_lt (l := l) fun b hb => h b (List.mem_cons_of_mem _ hb)
    have h2 := (h a (by simp)).2
    have h0 := (h a (by simp)).1
    have h3 := prod_pos (l := l) fun b hb => h b (List.mem_cons_of_mem _ hb)
    show a * prodI l < _
    have e : (2 : Int) ^ (64 * (a :: l).length + 1) = 2 ^ 64 * 2 ^ (64 * l.length + 1) := by
      rw [← Int.pow_add, List.length_cons]
      congr 1
      omega
    rw [e]
    calc a * prodI l < 2 ^ 64 * prodI l := Int.mul_lt_mul_of_pos_right h2 h3
      _ ≤ 2 ^ 64 * 2 ^ (64 * l.length + 1) := Int.mul_le_mul_of_nonneg_left (Int.le_of_lt h1) (by decide)
theorem digs_snoc : ∀ (l : List Int) (i b : Int), digsR i (l ++ [b]) = digsR i l ++ [quoR i l % b]
  | [], _, _ => rfl
  | a :: l, i, b => by
    show i % a :: digsR (i / a) (l ++ [b]) = _
    rw [digs_snoc l]
    rfl
theorem quo_snoc : ∀ (l : List Int) (i b : Int), quoR i (l ++ [b]) = quoR i l / b
  | [], _, _ => rfl
  | a :: l, i, b => quo_snoc l (i / a) b
theorem digs_len : ∀ (l : List Int) (i : Int), (digsR i l).length = l.length
  | [], _ => rfl
  | a :: l, i => by
    show (digsR (i / a) l).length + 1 = _
    rw [digs_len l, List.length_cons]
theorem quo_le : ∀ (l : List Int) (i : Int), Pos l → 0 ≤ i → 0 ≤ quoR i l ∧ quoR i l ≤ i
  | [], i, _, h => ⟨h, Int.le_refl _⟩
  | a :: l, i, hp, h => by
    have ha := (hp a (by simp)).1
    have h1 : 0 ≤ i / a := Int.ediv_nonneg h (Int.le_of_lt ha)
    have h2 : i / a ≤ i := Int.ediv_le_self _ h
    obtain ⟨h3, h4⟩ := quo_le l (i / a) (fun b hb => hp b (List.mem_cons_of_mem _ hb)) h1
    exact ⟨h3, Int.le_trans h4 h2⟩
theorem val_lt : ∀ {ns bs : List Int}, InR ns bs → 0 ≤ valR ns bs ∧ valR ns bs < prodI bs
  | [], [], _ => by decide
  | n :: ns, b :: bs, h => by
    obtain ⟨h1, h2⟩ := val_lt h.2
    obtain ⟨h3, h4⟩ := h.1
    have hb : 0 < b := by omega
    have h5 : 0 ≤ b * valR ns bs := Int.mul_nonneg (Int.le_of_lt hb) h1
    have h6 : b * (valR ns bs + 1) ≤ b * prodI bs := Int.mul_le_mul_of_nonneg_left h2 (Int.le_of_lt hb)
    rw [Int.mul_add, Int.mul_one] at h6
    show 0 ≤ n + b * valR ns bs ∧ n + b * valR ns bs < b * prodI bs
    omega
  | [], _ :: _, h => h.elim
  | _ :: _, [], h => h.elim
theorem divs {bs : List Int} {i b : Int} {k : Nat} (hp : Pos bs) (hl : bs.length ≤ 12) (i0 : 0 ≤ i) (i1 : i ≤ prodI bs - 1) (b0 : 0 < b) (b1 : b < 2 ^ 64) : CDivP (quoR i (bs.reverse.take k)) b := by
  obtain ⟨h1, h2⟩ := quo_le (bs.reverse.take k) i (fun b hb => hp b (List.mem_reverse.mp (List.mem_of_mem_take hb))) i0
  have h3 := prod_lt hp
  have e4 : (2 : Int) ^ (64 * bs.length + 1) = ((2 ^ (64 * bs.length + 1) : Nat) : Int) := by rw [Int.natCast_pow]; rfl
  have h4 : 2 ^ (64 * bs.length + 1) ≤ 2 ^ 1000 := Nat.pow_le_pow_right (by decide) (by omega)
  have h5 : (quoR i (bs.reverse.take k)).natAbs < 2 ^ 1000 := by
    rw [e4] at h3
    generalize (2 : Nat) ^ 1000 = z at h4 ⊢
    omega
  have h6 := PySem.Flt.log2_lt_of (k := 1000) (by decide) h5
  refine divp_ok b0 ?_
  have h7 : Builtin.Int.intBits (quoR i (bs.reverse.take k)) ≤ (quoR i (bs.reverse.take k)).natAbs.log2 + 1 := by
    unfold Builtin.Int.intBits
    split <;> omega
  omega
theorem digs_val : ∀ {ns bs : List Int}, InR ns bs → digsR (valR ns bs) bs = ns
  | [], [], _ => rfl
  | n :: ns, b :: bs, h => by
    obtain ⟨h3, h4⟩ := h.1
    have hb : 0 < b := by omega
    have e1 : (n + b * valR ns bs) % b = n := by rw [Int.add_mul_emod_self_left]; exact Int.emod_eq_of_lt h3 h4
    have e2 : (n + b * valR ns bs) / b = valR ns bs := by
      rw [Int.add_mul_ediv_left _ _ (by omega), Int.ediv_eq_zero_of_lt h3 h4, Int.zero_add]
    show (n + b * valR ns bs) % b :: digsR ((n + b * valR ns bs) / b) bs = n :: ns
    rw [e1, e2, digs_val h.2]
  | [], _ :: _, h => h.elim
  | _ :: _, [], h => h.elim
theorem mixA_snoc : ∀ (ns bs : List Int) (a n b : Int), ns.length = bs.length → mixA (ns ++ [n]) (bs ++ [b]) a = mixA ns bs a * b + n
  | [], [], _, _, _, _ => rfl
  | m :: ns, c :: bs, a, n, b, h => mixA_snoc ns bs (a * c + m) n b (by simpa using h)
  | [], _ :: _, _, _, _, h => by simp at h
  | _ :: _, [], _, _, _, h => by simp at h
theorem mixA_val : ∀ (rs cs : List Int), rs.length = cs.length → mixA rs.reverse cs.reverse 0 = valR rs cs
  | [], [], _ => rfl
  | n :: rs, b :: cs, h => by
    have h2 : rs.length = cs.length := by simpa using h
    rw [List.reverse_cons, List.reverse_cons, mixA_snoc _ _ _ _ _ (by rw [List.length_reverse, List.length_reverse, h2]), mixA_val rs cs h2, Int.mul_comm, Int.add_comm]
    rfl
  | [], _ :: _, h => by simp at h
  | _ :: _, [], h => by simp at h
theorem mixR_ok : ∀ {ns bs : List Int} (a : Int), InR ns bs → mixR (ns.map V.int) bs a = .inr (mixA ns bs a)
  | [], [], _, _ => rfl
  | n :: ns, b :: bs, a, h => by
    have e : within (.int n) 0 (b - 1) = true := decide_eq_true ⟨h.1.1, by have := h.1.2; omega⟩
    rw [List.map_cons]
    show (match within (.int n) 0 (b - 1), V.int n with
      | true, .int n => mixR (ns.map V.int) bs (a * b + n)
      | _, y => .inl y) = _
    rw [e]
    exact mixR_ok (a * b + n) h.2
  | [], _ :: _, _, h => h.elim
  | _ :: _, [], _, h => h.elim
theorem mixR_bad : ∀ (m : Nat) {xs : List V} {bs : List Int} {x : V} {b : Int} (a : Int), (∀ i, i < m → ∃ n c, xs[i]? = some (.int n) ∧ bs[i]? = some c ∧ 0 ≤ n ∧ n < c) → xs[m]? = some x → bs[m]? = some b → within x 0 (b - 1) = false → mixR xs bs a = .inl x
  | 0, y :: xs, c :: bs, x, b, a, _, e1, e2, hw => by
    have e1 : y = x := by simpa using e1
    have e2 : c = b := by simpa using e2
    subst e1 e2
    show (match within y 0 (c - 1), y with
      | true, .int n => mixR xs bs (a * c + n)
      | _, z => .inl z) = _
    rw [hw]
  | m + 1, y :: xs, c :: bs, x, b, a, h, e1, e2, hw => by
    obtain ⟨n, d, h1, h2, h3, h4⟩ := h 0 (Nat.succ_pos m)
    have h1 : y = .int n := by simpa using h1
    have h2 : c = d := by simpa using h2
    subst h1 h2
    have e : within (.int n) 0 (c - 1) = true := decide_eq_true ⟨h3, by omega⟩
    show (match within (.int n) 0 (c - 1), V.int n with
      | true, .int n => mixR xs bs (a * c + n)
      | _, y => .inl y) = _
    rw [e]
    exact mixR_bad m (a * c + n) (fun i hi => by
      obtain ⟨n, d, q1, q2, q3⟩ := h (i + 1) (Nat.succ_lt_succ hi)
      exact ⟨n, d, by simpa using q1, by simpa using q2, q3⟩) (by simpa using e1) (by simpa using e2) hw
  | _, [], _, _, _, _, _, e1, _, _ => by simp at e1
  | _, _ :: _, [], _, _, _, _, _, e2, _ => by simp at e2
theorem mixR_t {x : V} {n b a : Int} {xs : List V} {bs : List Int} (h : within x 0 (b - 1) = true) (e : x = .int n) : mixR (x :: xs) (b :: bs) a = mixR xs bs (a * b + n) := by
  subst e
  show (match within (.int n) 0 (b - 1), V.int n with
    | true, .int n => mixR xs bs (a * b + n)
    | _, y => .inl y) = _
  rw [h]
theorem mixR_f {x : V} {b a : Int} {xs : List V} {bs : List Int} (h : within x 0 (b - 1) = false) : mixR (x :: xs) (b :: bs) a = .inl x := by
  show (match within x 0 (b - 1), x with
    | true, .int n => mixR xs bs (a * b + n)
    | _, y => .inl y) = _
  rw [h]
theorem within_int {x : V} {l h : Int} (e : within x l h = true) : ∃ n, x = .int n ∧ l ≤ n ∧ n ≤ h := by
  cases x with
  | int i => exact ⟨i, rfl, of_decide_eq_true e⟩
  | _ => cases e
theorem ixN_nat {n j : Nat} (h : j < n) : ixN n (j : Int) = some j := by
  unfold ixN
  rw [if_pos (by omega), if_pos (by omega)]
  rfl
theorem nextR_t {n b : Int} {ns bs : List Int} (h : n + 1 < b) : nextR (n :: ns) (b :: bs) = some ((n + 1) :: ns) := if_pos h
theorem nextR_f {n b : Int} {ns bs : List Int} (h : ¬ n + 1 < b) : nextR (n :: ns) (b :: bs) = (nextR ns bs).map (0 :: ·) := if_neg h
theorem mid_at {l r : List V} {x : V} : (l ++ x :: r)[l.length]? = some x := by simp
theorem mid_set {l r : List V} {x y : V} : (l ++ x :: r).set l.length y = l ++ y :: r := by simp
theorem next_some : ∀ {ns bs ms : List Int}, InR ns bs → nextR ns bs = some ms → InR ms bs ∧ valR ms bs = valR ns bs + 1
  | n :: ns, b :: bs, ms, h, e => by
    unfold nextR at e
    by_cases c : n + 1 < b
    · rw [if_pos c] at e
      cases e
      exact ⟨⟨⟨by have := h.1.1; omega, c⟩, h.2⟩, by show n + 1 + b * valR ns bs = n + b * valR ns bs + 1; omega⟩
    · rw [if_neg c] at e
      obtain ⟨r, er, rfl⟩ := Option.map_eq_some_iff.mp e
      obtain ⟨h1, h2⟩ := next_some h.2 er
      have hn := h.1
      refine ⟨⟨⟨Int.le_refl _, by omega⟩, h1⟩, ?_⟩
      show 0 + b * valR r bs = n + b * valR ns bs + 1
      rw [h2, Int.mul_add]
      omega
  | [], [], _, _, e => by cases e
  | [], _ :: _, _, h, _ => h.elim
  | _ :: _, [], _, h, _ => h.elim
theorem next_none : ∀ {ns bs : List Int}, InR ns bs → nextR ns bs = none → valR ns bs + 1 = prodI bs
  | n :: ns, b :: bs, h, e => by
    unfold nextR at e
    by_cases c : n + 1 < b
    · rw [if_pos c] at e
      cases e
    · rw [if_neg c] at e
      have h2 := next_none h.2 (Option.map_eq_none_iff.mp e)
      have hn := h.1
      show n + b * valR ns bs + 1 = b * prodI bs
      rw [← h2, Int.mul_add]
      omega
  | [], [], _, _ => by decide
  | [], _ :: _, h, _ => h.elim
  | _ :: _, [], h, _ => h.elim
theorem valR_snoc : ∀ (l m : List Int) (n b : Int), l.length = m.length → valR (l ++ [n]) (m ++ [b]) = valR l m + prodI m * n
  | [], [], n, b, _ => by simp [valR, prodI]
  | a :: l, c :: m, n, b, h => by
    show a + c * valR (l ++ [n]) (m ++ [b]) = a + c * valR l m + c * prodI m * n
    rw [valR_snoc l m n b (by simpa using h), Int.mul_add, ← Int.mul_assoc, Int.add_assoc]
  | [], _ :: _, _, _, h => by simp at h
  | _ :: _, [], _, _, h => by simp at h
theorem take_snoc {α : Type} : ∀ {l : List α} {i : Nat} {x : α}, l[i]? = some x → l.take (i + 1) = l.take i ++ [x]
  | [], i, x, h => by simp at h
  | a :: l, 0, x, h => by
    have e : a = x := by simpa using h
    rw [e]
    rfl
  | a :: l, i + 1, x, h => by
    show a :: l.take (i + 1) = a :: l.take i ++ [x]
    rw [take_snoc (l := l) (i := i) (by simpa using h)]
    rfl
theorem drop_at {α : Type} {l : List α} {i : Nat} {x : α} (h : l[i]? = some x) : l.drop i = x :: l.drop (i + 1) := by
  obtain ⟨h1, h2⟩ := List.getElem?_eq_some_iff.mp h
  rw [← h2]
  exact List.drop_eq_getElem_cons h1
theorem map_at {ns : List Int} {i : Nat} {x : V} (h : (ns.map V.int)[i]? = some x) : ∃ n, ns[i]? = some n ∧ x = .int n := by
  rw [List.getElem?_map] at h
  obtain ⟨n, e, rfl⟩ := Option.map_eq_some_iff.mp h
  exact ⟨n, e, rfl⟩
theorem rev_at {α : Type} {l : List α} {i : Nat} {x : α} (hi : i < l.length) (h : l[l.length - 1 - i]? = some x) : l.reverse[i]? = some x := by
  rw [List.getElem?_reverse hi]
  exact h
end Law

namespace Law
open PySem PySem.Spec PyProof.Rows L2 Sw
def top (i : Nat) : Stmt := PySem.Challenge.pw_splitwide_k14_mixed_both_ways.main.body.getD i (.Pass ⟨0, 0, 0, 0⟩)
abbrev s_is_whole : Stmt := top 5
abbrev nm_is_whole : List Str := ["thing"]
theorem sc_is_whole : FnScope nm_is_whole ["thing"] (defScope s_is_whole) := ⟨rfl, rfl, rfl, by decide +kernel, rfl, by decide +kernel, by decide +kernel⟩
abbrev s_is_within : Stmt := top 6
abbrev nm_is_within : List Str := ["thing", "low", "high"]
theorem sc_is_within : FnScope nm_is_within ["thing", "low", "high"] (defScope s_is_within) := ⟨rfl, rfl, rfl, by decide +kernel, rfl, by decide +kernel, by decide +kernel⟩
abbrev s_mixed : Stmt := top 8
abbrev nm_mixed : List Str := ["numbers", "bases", "found", "number", "base"]
theorem sc_mixed : FnScope nm_mixed ["numbers", "bases"] (defScope s_mixed) := ⟨rfl, rfl, rfl, by decide +kernel, rfl, by decide +kernel, by decide +kernel⟩
abbrev s_product : Stmt := top 9
abbrev nm_product : List Str := ["bases", "found", "base"]
theorem sc_product : FnScope nm_product ["bases"] (defScope s_product) := ⟨rfl, rfl, rfl, by decide +kernel, rfl, by decide +kernel, by decide +kernel⟩
abbrev s_unmixed : Stmt := top 10
abbrev nm_unmixed : List Str := ["number", "bases", "found", "base", "rest"]
theorem sc_unmixed : FnScope nm_unmixed ["number", "bases"] (defScope s_unmixed) := ⟨rfl, rfl, rfl, by decide +kernel, rfl, by decide +kernel, by decide +kernel⟩
abbrev s__law_cell_at : Stmt := top 12
abbrev nm__law_cell_at : List Str := ["script", "k"]
theorem sc__law_cell_at : FnScope nm__law_cell_at ["script", "k"] (defScope s__law_cell_at) := ⟨rfl, rfl, rfl, by decide +kernel, rfl, by decide +kernel, by decide +kernel⟩
abbrev s__law_box : Stmt := top 13
abbrev nm__law_box : List Str := ["cell"]
theorem sc__law_box : FnScope nm__law_box ["cell"] (defScope s__law_box) := ⟨rfl, rfl, rfl, by decide +kernel, rfl, by decide +kernel, by decide +kernel⟩
abbrev s__law_take : Stmt := top 14
abbrev nm__law_take : List Str := ["box", "many", "digit", "number", "high", "low"]
theorem sc__law_take : FnScope nm__law_take ["box", "many"] (defScope s__law_take) := ⟨rfl, rfl, rfl, by decide +kernel, rfl, by decide +kernel, by decide +kernel⟩
abbrev s__law_whole : Stmt := top 15
abbrev nm__law_whole : List Str := ["found", "due"]
theorem sc__law_whole : FnScope nm__law_whole ["found", "due"] (defScope s__law_whole) := ⟨rfl, rfl, rfl, by decide +kernel, rfl, by decide +kernel, by decide +kernel⟩
abbrev s__law_worth : Stmt := top 16
abbrev nm__law_worth : List Str := ["numbers", "bases", "total", "worth", "number", "base"]
theorem sc__law_worth : FnScope nm__law_worth ["numbers", "bases"] (defScope s__law_worth) := ⟨rfl, rfl, rfl, by decide +kernel, rfl, by decide +kernel, by decide +kernel⟩
abbrev s__law_next : Stmt := top 17
abbrev nm__law_next : List Str := ["numbers", "bases", "found", "k"]
theorem sc__law_next : FnScope nm__law_next ["numbers", "bases"] (defScope s__law_next) := ⟨rfl, rfl, rfl, by decide +kernel, rfl, by decide +kernel, by decide +kernel⟩
abbrev s__law_refused : Stmt := top 18
abbrev nm__law_refused : List Str := ["deed", "thing", "sizes", "found", "e"]
theorem sc__law_refused : FnScope nm__law_refused ["deed", "thing", "sizes"] (defScope s__law_refused) := ⟨rfl, rfl, rfl, by decide +kernel, rfl, by decide +kernel, by decide +kernel⟩
abbrev s__law_due : Stmt := top 19
abbrev nm__law_due : List Str := ["found", "thing"]
theorem sc__law_due : FnScope nm__law_due ["found", "thing"] (defScope s__law_due) := ⟨rfl, rfl, rfl, by decide +kernel, rfl, by decide +kernel, by decide +kernel⟩
abbrev s__law_bad : Stmt := top 20
abbrev nm__law_bad : List Str := ["box", "base", "some"]
theorem sc__law_bad : FnScope nm__law_bad ["box", "base"] (defScope s__law_bad) := ⟨rfl, rfl, rfl, by decide +kernel, rfl, by decide +kernel, by decide +kernel⟩
abbrev s__law_back : Stmt := top 21
abbrev nm__law_back : List Str := ["number", "bases", "numbers", "told", "k"]
theorem sc__law_back : FnScope nm__law_back ["number", "bases", "numbers"] (defScope s__law_back) := ⟨rfl, rfl, rfl, by decide +kernel, rfl, by decide +kernel, by decide +kernel⟩
abbrev s__law_spoilt : Stmt := top 22
abbrev nm__law_spoilt : List Str := ["box", "numbers", "bases", "k", "j", "spoilt", "kept"]
theorem sc__law_spoilt : FnScope nm__law_spoilt ["box", "numbers", "bases"] (defScope s__law_spoilt) := ⟨rfl, rfl, rfl, by decide +kernel, rfl, by decide +kernel, by decide +kernel⟩
abbrev s_law : Stmt := top 23
abbrev nm_law : List Str := ["script", "k", "box", "bases", "j", "numbers", "due", "many", "handed", "sizes", "later", "bad", "grown", "told", "base"]
theorem sc_law : FnScope nm_law ["script"] (defScope s_law) := ⟨rfl, rfl, rfl, by decide +kernel, rfl, by decide +kernel, by decide +kernel⟩
abbrev s_NoNumber_init : Stmt := inClass (top 2) 0
abbrev s_NoPlace_init : Stmt := inClass (top 3) 0
def fn : List He.DefD := [⟨("is_whole", none), "is_whole", "is_whole", defArgs s_is_whole, defBody s_is_whole, defScope s_is_whole, [], []⟩,
  ⟨("is_within", none), "is_within", "is_within", defArgs s_is_within, defBody s_is_within, defScope s_is_within, [], []⟩,
  ⟨("mixed", none), "mixed", "mixed", defArgs s_mixed, defBody s_mixed, defScope s_mixed, [], []⟩,
  ⟨("product", none), "product", "product", defArgs s_product, defBody s_product, defScope s_product, [], []⟩,
  ⟨("unmixed", none), "unmixed", "unmixed", defArgs s_unmixed, defBody s_unmixed, defScope s_unmixed, [], []⟩,
  ⟨("_law_cell_at", none), "_law_cell_at", "_law_cell_at", defArgs s__law_cell_at, defBody s__law_cell_at, defScope s__law_cell_at, [], []⟩,
  ⟨("_law_box", none), "_law_box", "_law_box", defArgs s__law_box, defBody s__law_box, defScope s__law_box, [], []⟩,
  ⟨("_law_take", none), "_law_take", "_law_take", defArgs s__law_take, defBody s__law_take, defScope s__law_take, [], []⟩,
  ⟨("_law_whole", none), "_law_whole", "_law_whole", defArgs s__law_whole, defBody s__law_whole, defScope s__law_whole, [], []⟩,
  ⟨("_law_worth", none), "_law_worth", "_law_worth", defArgs s__law_worth, defBody s__law_worth, defScope s__law_worth, [], []⟩,
  ⟨("_law_next", none), "_law_next", "_law_next", defArgs s__law_next, defBody s__law_next, defScope s__law_next, [], []⟩,
  ⟨("_law_refused", none), "_law_refused", "_law_refused", defArgs s__law_refused, defBody s__law_refused, defScope s__law_refused, [], []⟩,
  ⟨("_law_due", none), "_law_due", "_law_due", defArgs s__law_due, defBody s__law_due, defScope s__law_due, [], []⟩,
  ⟨("_law_bad", none), "_law_bad", "_law_bad", defArgs s__law_bad, defBody s__law_bad, defScope s__law_bad, [], []⟩,
  ⟨("_law_back", none), "_law_back", "_law_back", defArgs s__law_back, defBody s__law_back, defScope s__law_back, [], []⟩,
  ⟨("_law_spoilt", none), "_law_spoilt", "_law_spoilt", defArgs s__law_spoilt, defBody s__law_spoilt, defScope s__law_spoilt, [], []⟩,
  ⟨("law", none), "law", "law", defArgs s_law, defBody s_law, defScope s_law, [], []⟩,
  ⟨("NoNumber", some "__init__"), "__init__", "NoNumber.__init__", defArgs s_NoNumber_init, defBody s_NoNumber_init, defScope s_NoNumber_init, [], []⟩,
  ⟨("NoPlace", some "__init__"), "__init__", "NoPlace.__init__", defArgs s_NoPlace_init, defBody s_NoPlace_init, defScope s_NoPlace_init, [], []⟩]
def fa : List He.Fa := [.glo "is_whole", .glo "is_within", .glo "mixed", .glo "product", .glo "unmixed", .glo "_law_cell_at", .glo "_law_box", .glo "_law_take", .glo "_law_whole", .glo "_law_worth", .glo "_law_next", .glo "_law_refused", .glo "_law_due", .glo "_law_bad", .glo "_law_back", .glo "_law_spoilt", .glo "law", .glo "SeedError", .glo "NoNumber", .glo "NoPlace", .free "ValueError", .free "bool", .free "divmod", .free "int", .free "isinstance", .free "len", .free "list", .free "max", .free "min", .free "range", .free "reversed", .free "tuple", .free "zip", .noat "NoNumber" "found", .noat "NoPlace" "found", .meth "NoNumber" "__init__", .meth "NoPlace" "__init__"]
def fp (K : Fg) : Bool := (fa.all fun f => f.ok K) && allB [exB K (He.ga K "NoNumber"), exB K (He.ga K "NoPlace"), iniB K (He.ga K "SeedError"), decide (PySem.W.kitOne K (.ref (He.ga K "NoNumber")) (.ref (He.ga K "SeedError")) = some true), decide (PySem.W.kitOne K (.ref (He.ga K "NoNumber")) (.type "ValueError") = some true), decide (PySem.W.kitOne K (.ref (He.ga K "NoNumber")) (.ref (He.ga K "NoPlace")) = some false), decide (PySem.W.exmOne K (.ref (He.ga K "NoNumber")) (.ref (He.ga K "NoNumber")) = some true)]
structure Tx (K : Fg) (mg : Str → Option Value) : Prop where
  g_is_whole : mg "is_whole" = some (.ref (He.ga K "is_whole"))
  F_is_whole : ∃ fd, FunD K "is_whole" "is_whole" (defArgs s_is_whole) (defBody s_is_whole) (defScope s_is_whole) [] [] (He.ga K "is_whole") fd
  g_is_within : mg "is_within" = some (.ref (He.ga K "is_within"))
  F_is_within : ∃ fd, FunD K "is_within" "is_within" (defArgs s_is_within) (defBody s_is_within) (defScope s_is_within) [] [] (He.ga K "is_within") fd
  g_mixed : mg "mixed" = some (.ref (He.ga K "mixed"))
  F_mixed : ∃ fd, FunD K "mixed" "mixed" (defArgs s_mixed) (defBody s_mixed) (defScope s_mixed) [] [] (He.ga K "mixed") fd
  g_product : mg "product" = some (.ref (He.ga K "product"))
  F_product : ∃ fd, FunD K "product" "product" (defArgs s_product) (defBody s_product) (defScope s_product) [] [] (He.ga K "product") fd
  g_unmixed : mg "unmixed" = some (.ref (He.ga K "unmixed"))
  F_unmixed : ∃ fd, FunD K "unmixed" "unmixed" (defArgs s_unmixed) (defBody s_unmixed) (defScope s_unmixed) [] [] (He.ga K "unmixed") fd
  g__law_cell_at : mg "_law_cell_at" = some (.ref (He.ga K "_law_cell_at"))
  F__law_cell_at : ∃ fd, FunD K "_law_cell_at" "_law_cell_at" (defArgs s__law_cell_at) (defBody s__law_cell_at) (defScope s__law_cell_at) [] [] (He.ga K "_law_cell_at") fd
  g__law_box : mg "_law_box" = some (.ref (He.ga K "_law_box"))
  F__law_box : ∃ fd, FunD K "_law_box" "_law_box" (defArgs s__law_box) (defBody s__law_box) (defScope s__law_box) [] [] (He.ga K "_law_box") fd
  g__law_take : mg "_law_take" = some (.ref (He.ga K "_law_take"))
  F__law_take : ∃ fd, FunD K "_law_take" "_law_take" (defArgs s__law_take) (defBody s__law_take) (defScope s__law_take) [] [] (He.ga K "_law_take") fd
  g__law_whole : mg "_law_whole" = some (.ref (He.ga K "_law_whole"))
  F__law_whole : ∃ fd, FunD K "_law_whole" "_law_whole" (defArgs s__law_whole) (defBody s__law_whole) (defScope s__law_whole) [] [] (He.ga K "_law_whole") fd
  g__law_worth : mg "_law_worth" = some (.ref (He.ga K "_law_worth"))
  F__law_worth : ∃ fd, FunD K "_law_worth" "_law_worth" (defArgs s__law_worth) (defBody s__law_worth) (defScope s__law_worth) [] [] (He.ga K "_law_worth") fd
  g__law_next : mg "_law_next" = some (.ref (He.ga K "_law_next"))
  F__law_next : ∃ fd, FunD K "_law_next" "_law_next" (defArgs s__law_next) (defBody s__law_next) (defScope s__law_next) [] [] (He.ga K "_law_next") fd
  g__law_refused : mg "_law_refused" = some (.ref (He.ga K "_law_refused"))
  F__law_refused : ∃ fd, FunD K "_law_refused" "_law_refused" (defArgs s__law_refused) (defBody s__law_refused) (defScope s__law_refused) [] [] (He.ga K "_law_refused") fd
  g__law_due : mg "_law_due" = some (.ref (He.ga K "_law_due"))
  F__law_due : ∃ fd, FunD K "_law_due" "_law_due" (defArgs s__law_due) (defBody s__law_due) (defScope s__law_due) [] [] (He.ga K "_law_due") fd
  g__law_bad : mg "_law_bad" = some (.ref (He.ga K "_law_bad"))
  F__law_bad : ∃ fd, FunD K "_law_bad" "_law_bad" (defArgs s__law_bad) (defBody s__law_bad) (defScope s__law_bad) [] [] (He.ga K "_law_bad") fd
  g__law_back : mg "_law_back" = some (.ref (He.ga K "_law_back"))
  F__law_back : ∃ fd, FunD K "_law_back" "_law_back" (defArgs s__law_back) (defBody s__law_back) (defScope s__law_back) [] [] (He.ga K "_law_back") fd
  g__law_spoilt : mg "_law_spoilt" = some (.ref (He.ga K "_law_spoilt"))
  F__law_spoilt : ∃ fd, FunD K "_law_spoilt" "_law_spoilt" (defArgs s__law_spoilt) (defBody s__law_spoilt) (defScope s__law_spoilt) [] [] (He.ga K "_law_spoilt") fd
  g_law : mg "law" = some (.ref (He.ga K "law"))
  F_law : ∃ fd, FunD K "law" "law" (defArgs s_law) (defBody s_law) (defScope s_law) [] [] (He.ga K "law") fd
  g_SeedError : mg "SeedError" = some (.ref (He.ga K "SeedError"))
  g_NoNumber : mg "NoNumber" = some (.ref (He.ga K "NoNumber"))
  g_NoPlace : mg "NoPlace" = some (.ref (He.ga K "NoPlace"))
  n_ValueError : mg "ValueError" = none
  n_bool : mg "bool" = none
  n_divmod : mg "divmod" = none
  n_int : mg "int" = none
  n_isinstance : mg "isinstance" = none
  n_len : mg "len" = none
  n_list : mg "list" = none
  n_max : mg "max" = none
  n_min : mg "min" = none
  n_range : mg "range" = none
  n_reversed : mg "reversed" = none
  n_tuple : mg "tuple" = none
  n_zip : mg "zip" = none
  x_NoNumber : ExC K (He.ga K "NoNumber")
  a_NoNumber_found : PySem.W.findIn K (.ref (He.ga K "NoNumber")) "found" = some none
  m_NoNumber : Meth K (He.ga K "NoNumber") "__init__" (He.ma K (He.ga K "NoNumber") "__init__")
  I_NoNumber : ∃ fd, FunD K "__init__" "NoNumber.__init__" (defArgs s_NoNumber_init) (defBody s_NoNumber_init) (defScope s_NoNumber_init) [] [] (He.ma K (He.ga K "NoNumber") "__init__") fd
  x_NoPlace : ExC K (He.ga K "NoPlace")
  a_NoPlace_found : PySem.W.findIn K (.ref (He.ga K "NoPlace")) "found" = some none
  m_NoPlace : Meth K (He.ga K "NoPlace") "__init__" (He.ma K (He.ga K "NoPlace") "__init__")
  I_NoPlace : ∃ fd, FunD K "__init__" "NoPlace.__init__" (defArgs s_NoPlace_init) (defBody s_NoPlace_init) (defScope s_NoPlace_init) [] [] (He.ma K (He.ga K "NoPlace") "__init__") fd
  i0 : IniC K (He.ga K "SeedError")
  kit_NoNumber_SeedError : PySem.W.kitOne K (.ref (He.ga K "NoNumber")) (.ref (He.ga K "SeedError")) = some true
  kit_NoNumber_ValueError : PySem.W.kitOne K (.ref (He.ga K "NoNumber")) (.type "ValueError") = some true
  kit_NoNumber_NoPlace : PySem.W.kitOne K (.ref (He.ga K "NoNumber")) (.ref (He.ga K "NoPlace")) = some false
  exm_NoNumber_NoNumber : PySem.W.exmOne K (.ref (He.ga K "NoNumber")) (.ref (He.ga K "NoNumber")) = some true
theorem tx_mk {K : Fg} {h : Heap} {mg : Str → Option Value} (X : K.In h) (G : h.Ns mainGlobals mg) (c : sayX fp fn K) : Tx K mg := by
  obtain ⟨p1, p2⟩ := He.ba (show ((fa.all fun f => f.ok K) && allB [exB K (He.ga K "NoNumber"), exB K (He.ga K "NoPlace"), iniB K (He.ga K "SeedError"), decide (PySem.W.kitOne K (.ref (He.ga K "NoNumber")) (.ref (He.ga K "SeedError")) = some true), decide (PySem.W.kitOne K (.ref (He.ga K "NoNumber")) (.type "ValueError") = some true), decide (PySem.W.kitOne K (.ref (He.ga K "NoNumber")) (.ref (He.ga K "NoPlace")) = some false), decide (PySem.W.exmOne K (.ref (He.ga K "NoNumber")) (.ref (He.ga K "NoNumber")) = some true)]) = true from c.p)
  have fc : ∀ (i : Nat) {f : He.Fa}, fa[i]? = some f → f.ok K = true := fun i f e => List.all_eq_true.mp p1 f (List.mem_of_getElem? e)
  have ec : ∀ (i : Nat) {b : Bool}, ([exB K (He.ga K "NoNumber"), exB K (He.ga K "NoPlace"), iniB K (He.ga K "SeedError"), decide (PySem.W.kitOne K (.ref (He.ga K "NoNumber")) (.ref (He.ga K "SeedError")) = some true), decide (PySem.W.kitOne K (.ref (He.ga K "NoNumber")) (.type "ValueError") = some true), decide (PySem.W.kitOne K (.ref (He.ga K "NoNumber")) (.ref (He.ga K "NoPlace")) = some false), decide (PySem.W.exmOne K (.ref (He.ga K "NoNumber")) (.ref (He.ga K "NoNumber")) = some true)] : List Bool)[i]? = some b → b = true := fun i b e => allB_ok p2 i e
  exact {
    g_is_whole := He.glo_ok X G (fc 0 rfl)
    F_is_whole := c.def_ 0 rfl
    g_is_within := He.glo_ok X G (fc 1 rfl)
    F_is_within := c.def_ 1 rfl
    g_mixed := He.glo_ok X G (fc 2 rfl)
    F_mixed := c.def_ 2 rfl
    g_product := He.glo_ok X G (fc 3 rfl)
    F_product := c.def_ 3 rfl
    g_unmixed := He.glo_ok X G (fc 4 rfl)
    F_unmixed := c.def_ 4 rfl
    g__law_cell_at := He.glo_ok X G (fc 5 rfl)
    F__law_cell_at := c.def_ 5 rfl
    g__law_box := He.glo_ok X G (fc 6 rfl)
    F__law_box := c.def_ 6 rfl
    g__law_take := He.glo_ok X G (fc 7 rfl)
    F__law_take := c.def_ 7 rfl
    g__law_whole := He.glo_ok X G (fc 8 rfl)
    F__law_whole := c.def_ 8 rfl
    g__law_worth := He.glo_ok X G (fc 9 rfl)
    F__law_worth := c.def_ 9 rfl
    g__law_next := He.glo_ok X G (fc 10 rfl)
    F__law_next := c.def_ 10 rfl
    g__law_refused := He.glo_ok X G (fc 11 rfl)
    F__law_refused := c.def_ 11 rfl
    g__law_due := He.glo_ok X G (fc 12 rfl)
    F__law_due := c.def_ 12 rfl
    g__law_bad := He.glo_ok X G (fc 13 rfl)
    F__law_bad := c.def_ 13 rfl
    g__law_back := He.glo_ok X G (fc 14 rfl)
    F__law_back := c.def_ 14 rfl
    g__law_spoilt := He.glo_ok X G (fc 15 rfl)
    F__law_spoilt := c.def_ 15 rfl
    g_law := He.glo_ok X G (fc 16 rfl)
    F_law := c.def_ 16 rfl
    g_SeedError := He.glo_ok X G (fc 17 rfl)
    g_NoNumber := He.glo_ok X G (fc 18 rfl)
    g_NoPlace := He.glo_ok X G (fc 19 rfl)
    n_ValueError := He.free_ok X G (fc 20 rfl)
    n_bool := He.free_ok X G (fc 21 rfl)
    n_divmod := He.free_ok X G (fc 22 rfl)
    n_int := He.free_ok X G (fc 23 rfl)
    n_isinstance := He.free_ok X G (fc 24 rfl)
    n_len := He.free_ok X G (fc 25 rfl)
    n_list := He.free_ok X G (fc 26 rfl)
    n_max := He.free_ok X G (fc 27 rfl)
    n_min := He.free_ok X G (fc 28 rfl)
    n_range := He.free_ok X G (fc 29 rfl)
    n_reversed := He.free_ok X G (fc 30 rfl)
    n_tuple := He.free_ok X G (fc 31 rfl)
    n_zip := He.free_ok X G (fc 32 rfl)
    x_NoNumber := exB_ok (ec 0 rfl)
    a_NoNumber_found := He.noat_ok (fc 33 rfl)
    m_NoNumber := He.meth_ok (fc 35 rfl)
    I_NoNumber := c.def_ 17 rfl
    x_NoPlace := exB_ok (ec 1 rfl)
    a_NoPlace_found := He.noat_ok (fc 34 rfl)
    m_NoPlace := He.meth_ok (fc 36 rfl)
    I_NoPlace := c.def_ 18 rfl
    i0 := iniB_ok (ec 2 rfl)
    kit_NoNumber_SeedError := of_decide_eq_true (ec 3 rfl)
    kit_NoNumber_ValueError := of_decide_eq_true (ec 4 rfl)
    kit_NoNumber_NoPlace := of_decide_eq_true (ec 5 rfl)
    exm_NoNumber_NoNumber := of_decide_eq_true (ec 6 rfl)
  }
theorem ex_NoNumber {P : Program} {w : World} {K : Fg} {mg : Str → Option Value} {base : Heap} (T : Tx K mg) : Exn P w K mg base "NoNumber" "found" := by
  obtain ⟨fd, F⟩ := T.I_NoNumber
  exact exn_mk T.g_NoNumber T.x_NoNumber T.a_NoNumber_found T.m_NoNumber F ⟨rfl, rfl, rfl, by decide +kernel, rfl, by decide +kernel, by decide +kernel⟩ rfl rfl rfl rfl (by decide) (by decide) rfl T.i0 T.g_SeedError (fun _ _ _ _ _ _ us hl => match us, hl with | [_, _], _ => rfl)
theorem ex_NoPlace {P : Program} {w : World} {K : Fg} {mg : Str → Option Value} {base : Heap} (T : Tx K mg) : Exn P w K mg base "NoPlace" "found" := by
  obtain ⟨fd, F⟩ := T.I_NoPlace
  exact exn_mk T.g_NoPlace T.x_NoPlace T.a_NoPlace_found T.m_NoPlace F ⟨rfl, rfl, rfl, by decide +kernel, rfl, by decide +kernel, by decide +kernel⟩ rfl rfl rfl rfl (by decide) (by decide) rfl T.i0 T.g_SeedError (fun _ _ _ _ _ _ us hl => match us, hl with | [_, _], _ => rfl)
/-! ### the promises -/
/-- a list or a tuple of ints at a place -/
def IsQ (H : Hp) (v : V) (bs : List Int) : Prop := ∃ p o, v = .ref p ∧ H p = some o ∧ seqO o = some (bs.map V.int)
def Box (H : Hp) (p : Addr) : Prop := ∃ x0 x1 x2 : Int, H p = some (.lst [.int x0, .int x1, .int x2])
def sp_is_whole (_ : Fg) : Sp := sp1 fun x H Q _ => ∃ n, tyN H x = some n ∧ Q (.bl (whole x)) H
def sp_is_within (_ : Fg) : Sp := sp3 fun x lo hi H Q _ => ∃ l h n, lo = .int l ∧ hi = .int h ∧ tyN H x = some n ∧ Q (.bl (within x l h)) H
def sp_mixed (K : Fg) : Sp := sp2 fun a b H Q E => ∃ (pa pb : Addr) (oa ob : HO) (xs : List V) (bs : List Int), a = .ref pa ∧ b = .ref pb ∧ H pa = some oa ∧ seqO oa = some xs ∧ H pb = some ob ∧ seqO ob = some (bs.map V.int) ∧ isT ob = isT oa ∧ xs.length = bs.length ∧
  (∀ x ∈ xs, ∃ n, tyN H x = some n) ∧ Pos bs ∧ (∀ n, mixR xs bs 0 = .inr n → ∀ H', Same H H' → Q (.int n) H') ∧ (∀ x, mixR xs bs 0 = .inl x → ∀ H' d, Same H H' → H' d = none → E (.ref (He.ga K "NoNumber")) (some d) (upd H' d (.xd [("found", x)])))
def sp_product (_ : Fg) : Sp := sp1 fun b H Q _ => ∃ (p : Addr) (o : HO) (bs : List Int), b = .ref p ∧ H p = some o ∧ seqO o = some (bs.map V.int) ∧ Pos bs ∧ Q (.int (prodI bs)) H
def sp_unmixed (K : Fg) : Sp := sp2 fun x b H Q E => ∃ (p : Addr) (o : HO) (bs : List Int) (n : String), b = .ref p ∧ H p = some o ∧ seqO o = some (bs.map V.int) ∧ Pos bs ∧ bs.length ≤ 12 ∧ tyN H x = some n ∧
  (∀ i, x = .int i → 0 ≤ i → i < prodI bs → ∀ H' q, Same H H' → H q = none → H' q = some (.lst ((digsR i bs.reverse).reverse.map V.int)) → Q (.ref q) H') ∧
  (within x 0 (prodI bs - 1) = false → ∀ H' d, Same H H' → H' d = none → E (.ref (He.ga K "NoNumber")) (some d) (upd H' d (.xd [("found", x)])))
def sp__law_cell_at (K : Fg) : Sp := sp2 fun s k H Q _ => ∃ (a : Addr) (ns : List Int) (i : Nat), s = .ref a ∧ SqL K H a (ns.map V.int) ∧ k = .int (i : Int) ∧ ns.length ≤ 1000 ∧ ∀ z, Q (.int z) H
def sp__law_box (_ : Fg) : Sp := sp1 fun c H Q _ => ∃ z : Int, c = .int z ∧ ∀ p x0 x1 x2, H p = none → Q (.ref p) (upd H p (.lst [.int x0, .int x1, .int x2]))
def sp__law_take (_ : Fg) : Sp := sp2 fun b m H Q _ => ∃ p x0 x1 x2 n, b = .ref p ∧ H p = some (.lst [.int x0, .int x1, .int x2]) ∧ m = .int n ∧ 0 < n ∧ n < 2 ^ 64 ∧ ∀ r y0 y1 y2, 0 ≤ r → r < n → Q (.int r) (upd H p (.lst [.int y0, .int y1, .int y2]))
def sp__law_whole (_ : Fg) : Sp := sp2 fun f d H Q _ => ∃ i j : Int, f = .int i ∧ d = .int j ∧ Q (.bl (decide (i = j))) H
def sp__law_worth (_ : Fg) : Sp := sp2 fun a b H Q _ => ∃ (pa pb : Addr) (ns bs : List Int), a = .ref pa ∧ b = .ref pb ∧ H pa = some (.lst (ns.map V.int)) ∧ H pb = some (.lst (bs.map V.int)) ∧ InR ns bs ∧ Pos bs ∧
  ∀ H' q, Same H H' → H q = none → H' q = some (.tup [.int (valR ns.reverse bs.reverse), .int (prodI bs)]) → Q (.ref q) H'
def sp__law_next (_ : Fg) : Sp := sp2 fun a b H Q _ => ∃ (pa pb : Addr) (ns bs : List Int), a = .ref pa ∧ b = .ref pb ∧ H pa = some (.lst (ns.map V.int)) ∧ H pb = some (.lst (bs.map V.int)) ∧ InR ns bs ∧ ns.length ≤ 1000 ∧
  ∀ v H', Same H H' → (∀ ms, nextR ns.reverse bs.reverse = some ms → ∃ q, v = .ref q ∧ H' q = some (.lst (ms.reverse.map V.int))) → (nextR ns.reverse bs.reverse = none → v = .non) → Q v H'
/-- what a deed's refusal hands on -/
def Told (K : Fg) (H : Hp) (x : V) (Q : VK) : Prop := ∀ H' q, Same H H' → H q = none → H' q = some (.lst [x, .bl true, .bl true, .bl false]) → Q (.ref q) H'
def sp__law_refused (K : Fg) : Sp := sp3 fun d t s H Q _ => (d = .ref (He.ga K "mixed") ∧ ∃ (pa pb : Addr) (oa ob : HO) (xs : List V) (bs : List Int) (x : V), t = .ref pa ∧ s = .ref pb ∧ H pa = some oa ∧ seqO oa = some xs ∧ H pb = some ob ∧ seqO ob = some (bs.map V.int) ∧ isT ob = isT oa ∧ xs.length = bs.length ∧
    (∀ x ∈ xs, ∃ n, tyN H x = some n) ∧ Pos bs ∧ mixR xs bs 0 = .inl x ∧ Told K H x Q) ∨
  (d = .ref (He.ga K "unmixed") ∧ ∃ (p : Addr) (o : HO) (bs : List Int) (n : String), s = .ref p ∧ H p = some o ∧ seqO o = some (bs.map V.int) ∧ Pos bs ∧ bs.length ≤ 12 ∧ tyN H t = some n ∧ within t 0 (prodI bs - 1) = false ∧ Told K H t Q)
def sp__law_due (_ : Fg) : Sp := sp2 fun f t H Q _ => ∃ p, f = .ref p ∧ H p = some (.lst [t, .bl true, .bl true, .bl false]) ∧ Plain H t ∧ ∀ H', Same H H' → Q (.bl true) H'
/-- all but the box at p stays -/
def But (p : Addr) (H H' : Hp) : Prop := ∀ a o, a ≠ p → H a = some o → H' a = some o
def sp__law_bad (_ : Fg) : Sp := sp2 fun b m H Q _ => ∃ p n, b = .ref p ∧ Box H p ∧ m = .int n ∧ 0 < n ∧ ∀ v H', But p H H' → Box H' p → Plain H' v → within v 0 (n - 1) = false → (∀ q, v = .ref q → H q = none) → Q v H'
def sp__law_back (_ : Fg) : Sp := sp3 fun i b t H Q _ => ∃ (pb pt : Addr) (bs ns : List Int), i = .int (valR ns.reverse bs.reverse) ∧ b = .ref pb ∧ H pb = some (.lst (bs.map V.int)) ∧ t = .ref pt ∧ H pt = some (.lst (ns.map V.int)) ∧ InR ns bs ∧ Pos bs ∧ bs.length ≤ 12 ∧ ∀ H', Same H H' → Q (.bl true) H'
def sp__law_spoilt (_ : Fg) : Sp := sp3 fun b t s H Q _ => ∃ (p pn pb : Addr) (ns bs : List Int), b = .ref p ∧ Box H p ∧ t = .ref pn ∧ H pn = some (.lst (ns.map V.int)) ∧ s = .ref pb ∧ H pb = some (.lst (bs.map V.int)) ∧ pn ≠ p ∧ pb ≠ p ∧ InR ns bs ∧ Pos bs ∧ ns ≠ [] ∧ ns.length ≤ 12 ∧ ∀ H', But p H H' → Box H' p → Q (.bl true) H'
def sp_law (K : Fg) : Sp := sp1 fun s H Q _ => ∃ (a : Addr) (ns : List Int), s = .ref a ∧ SqL K H a (ns.map V.int) ∧ ns.length ≤ 63 ∧ ∀ H', Q (.bl true) H'
end Law

namespace Law
open PySem PySem.Spec PyProof.Rows L2 Sw
theorem small_mul {i j : Int} (h1 : -(2 ^ 64) < j) (h2 : j < 2 ^ 64) : Sw.MulOk i j := .inl (.inr ⟨h1, h2⟩)
theorem small_mul' {i j : Int} (h1 : -(2 ^ 64) < i) (h2 : i < 2 ^ 64) : Sw.MulOk i j := .inl (.inl ⟨h1, h2⟩)
theorem cdiv7 {i : Int} : CDivW i 7 := ⟨by decide, by decide +kernel⟩
section
variable {P : Program} {w : World} {K : Fg} {mg : Str → Option Value} {base : Heap}
theorem ok_is_whole (T : Tx K mg)   : Cal P w K mg base 1 "is_whole" ["thing"] (sp_is_whole K) := by
  refine cal_mk T.F_is_whole T.g_is_whole sc_is_whole (len1 _) (fun _ _ _ _ _ _ us hl => match us, hl with | [_], _ => rfl) (fun cdv A outer s H vs Q E hr h => ?_)
  obtain ⟨v0, rfl, h⟩ := h
  have hu := hu_of hr
  refine ⟨_, (pss_one (ps_ret (pe_and (pe_callB is_q (by rfl) T.n_isinstance (by decide +kernel) (pa_cons (pv 0) (pa_cons (pe_bltn (v := .ty "int") (by rfl) T.n_int (by decide +kernel) rfl) pa_nil))) (pe_one (pe_not (pe_callB is_q (by rfl) T.n_isinstance (by decide +kernel) (pa_cons (pv 0) (pa_cons (pe_bltn (v := .ty "bool") (by rfl) T.n_bool (by decide +kernel) rfl) pa_nil)))))))), ?_⟩
  obtain ⟨n, hn, q⟩ := h
  have h1 := isB_int hn
  have h2 := isB_bool hn
  simp only [and_assoc, rst, rs, re, ra, rq, rx, ro, rl, rl2, rsp, rz, rix, rln, rg, rd, rwi, at0, at1, at2, at3, upd_at, List.getElem?_cons_zero, List.getElem?_cons_succ, Option.some.injEq, exists_eq_left', exists_eq_left, List.set_cons_zero, List.set_cons_succ, true_and, and_true, HO.lst.injEq, HO.tup.injEq, exists_and_left, exists_eq, exists_eq', Br.t, Br.f, Be.t, Be.f, List.cons.injEq, List.append_nil, scal, if_true, if_false, ite_true, ite_false, eq_self_iff_true, decide_true, decide_false, Bool.not_true, Bool.not_false, reduceIte, List.nil_append, List.cons_append, reduceCtorEq, false_and, exists_false, false_or, or_false, Int.reduceLT, h1]
  refine Be.of (fun e => ?_) fun e => ?_
  · simp only [and_assoc, rst, rs, re, ra, rq, rx, ro, rl, rl2, rsp, rz, rix, rln, rg, rd, rwi, at0, at1, at2, at3, upd_at, List.getElem?_cons_zero, List.getElem?_cons_succ, Option.some.injEq, exists_eq_left', exists_eq_left, List.set_cons_zero, List.set_cons_succ, true_and, and_true, HO.lst.injEq, HO.tup.injEq, exists_and_left, exists_eq, exists_eq', Br.t, Br.f, Be.t, Be.f, List.cons.injEq, List.append_nil, scal, if_true, if_false, ite_true, ite_false, eq_self_iff_true, decide_true, decide_false, Bool.not_true, Bool.not_false, reduceIte, List.nil_append, List.cons_append, reduceCtorEq, false_and, exists_false, false_or, or_false, Int.reduceLT, h2]
    rw [← whole_is, e] at q
    exact q
  · rw [← whole_is, e] at q
    exact q
theorem ok_is_within (T : Tx K mg) (c_is_whole : Cal P w K mg base 1 "is_whole" ["thing"] (sp_is_whole K))  : Cal P w K mg base 2 "is_within" ["thing", "low", "high"] (sp_is_within K) := by
  refine cal_mk T.F_is_within T.g_is_within sc_is_within (len3 _) (fun _ _ _ _ _ _ us hl => match us, hl with | [_, _, _], _ => rfl) (fun cdv A outer s H vs Q E hr h => ?_)
  obtain ⟨v0, v1, v2, rfl, h⟩ := h
  have hu := hu_of hr
  refine ⟨_, (pss_one (ps_ret (pe_and (pe_cal c_is_whole hr (by decide) passL rfl (pa_cons (pv 0) pa_nil)) (pe_one (pe_chain op_le op_le (pv 1) (pv 0) (pv 2)))))), ?_⟩
  obtain ⟨l, h, n, rfl, rfl, hn, q⟩ := h
  simp only [and_assoc, rst, rs, re, ra, rq, rx, ro, rl, rl2, rsp, rz, rix, rln, rg, rd, rwi, at0, at1, at2, at3, upd_at, List.getElem?_cons_zero, List.getElem?_cons_succ, Option.some.injEq, exists_eq_left', exists_eq_left, List.set_cons_zero, List.set_cons_succ, true_and, and_true, HO.lst.injEq, HO.tup.injEq, exists_and_left, exists_eq, exists_eq', Br.t, Br.f, Be.t, Be.f, List.cons.injEq, List.append_nil, scal, if_true, if_false, ite_true, ite_false, eq_self_iff_true, decide_true, decide_false, Bool.not_true, Bool.not_false, reduceIte, List.nil_append, List.cons_append, reduceCtorEq, false_and, exists_false, false_or, or_false, Int.reduceLT]
  refine ⟨_, rfl, n, hn, ?_⟩
  simp only [and_assoc, rst, rs, re, ra, rq, rx, ro, rl, rl2, rsp, rz, rix, rln, rg, rd, rwi, at0, at1, at2, at3, upd_at, List.getElem?_cons_zero, List.getElem?_cons_succ, Option.some.injEq, exists_eq_left', exists_eq_left, List.set_cons_zero, List.set_cons_succ, true_and, and_true, HO.lst.injEq, HO.tup.injEq, exists_and_left, exists_eq, exists_eq', Br.t, Br.f, Be.t, Be.f, List.cons.injEq, List.append_nil, scal, if_true, if_false, ite_true, ite_false, eq_self_iff_true, decide_true, decide_false, Bool.not_true, Bool.not_false, reduceIte, List.nil_append, List.cons_append, reduceCtorEq, false_and, exists_false, false_or, or_false, Int.reduceLT]
  cases v0 with
  | int i =>
    refine Be.of (fun _ => ?_) fun e => (by simp [whole] at e)
    refine ⟨i, rfl, Be.d (fun c => ⟨i, rfl, ?_⟩) fun c => ?_⟩
    · rw [show decide (i ≤ h) = decide (l ≤ i ∧ i ≤ h) by simp [c]]
      exact q
    · rw [show within (.int i) l h = false from decide_eq_false fun z => c z.1] at q
      exact q
  | _ => exact Be.of (fun e => (by simp [whole] at e)) fun _ => q
theorem ok_product (T : Tx K mg)   : Cal P w K mg base 1 "product" ["bases"] (sp_product K) := by
  refine cal_mk T.F_product T.g_product sc_product (len1 _) (fun _ _ _ _ _ _ us hl => match us, hl with | [_], _ => rfl) (fun cdv A outer s H vs Q E hr h => ?_)
  obtain ⟨v0, rfl, h⟩ := h
  have hu := hu_of hr
  refine ⟨_, (pss_cons (ps_set (i := 1) sc_product.nd rfl (Or.inl rfl) pe_int)
      (pss_cons (ps_for (passes_of rfl) rfl (pi_q (pv 0)) (pg_name (i := 2) sc_product.nd rfl (Or.inl rfl)) (pss_one (ps_set (i := 1) sc_product.nd rfl (Or.inl rfl) (pe_op op_mulA (pv 1) (pv 2)))))
      (pss_one (ps_ret (pv 1))))), ?_⟩
  obtain ⟨p, o, bs, rfl, ho, hs, hp, q⟩ := h
  simp only [and_assoc, rst, rs, re, ra, rq, rx, ro, rl, rl2, rsp, rz, rix, rln, rg, rd, rwi, at0, at1, at2, at3, upd_at, List.getElem?_cons_zero, List.getElem?_cons_succ, Option.some.injEq, exists_eq_left', exists_eq_left, List.set_cons_zero, List.set_cons_succ, true_and, and_true, HO.lst.injEq, HO.tup.injEq, exists_and_left, exists_eq, exists_eq', Br.t, Br.f, Be.t, Be.f, List.cons.injEq, List.append_nil, scal, if_true, if_false, ite_true, ite_false, eq_self_iff_true, decide_true, decide_false, Bool.not_true, Bool.not_false, reduceIte, List.nil_append, List.cons_append, reduceCtorEq, false_and, exists_false, false_or, or_false, Int.reduceLT, ho]
  refine ⟨_, hs, FI.seq hs (fun i σ H' => ∃ v, H' = H ∧ σ = [some (.ref p), some (.int (prodI (bs.take i))), v]) ⟨none, rfl, rfl⟩ (fun i σ H' _ ⟨_, e, _⟩ => e ▸ ho) ?_ ?_⟩
  · rintro i x σ H' hx ⟨v, rfl, rfl⟩
    obtain ⟨b, eb, rfl⟩ := map_at hx
    simp only [and_assoc, rst, rs, re, ra, rq, rx, ro, rl, rl2, rsp, rz, rix, rln, rg, rd, rwi, at0, at1, at2, at3, upd_at, List.getElem?_cons_zero, List.getElem?_cons_succ, Option.some.injEq, exists_eq_left', exists_eq_left, List.set_cons_zero, List.set_cons_succ, true_and, and_true, HO.lst.injEq, HO.tup.injEq, exists_and_left, exists_eq, exists_eq', Br.t, Br.f, Be.t, Be.f, List.cons.injEq, List.append_nil, scal, if_true, if_false, ite_true, ite_false, eq_self_iff_true, decide_true, decide_false, Bool.not_true, Bool.not_false, reduceIte, List.nil_append, List.cons_append, reduceCtorEq, false_and, exists_false, false_or, or_false, Int.reduceLT]
    have hb := hp b (List.mem_of_getElem? eb)
    refine ⟨small_mul (by omega) (by omega), ?_⟩
    rw [take_snoc eb, prod_snoc]
  · rintro σ H' ⟨v, rfl, rfl⟩
    simp only [and_assoc, rst, rs, re, ra, rq, rx, ro, rl, rl2, rsp, rz, rix, rln, rg, rd, rwi, at0, at1, at2, at3, upd_at, List.getElem?_cons_zero, List.getElem?_cons_succ, Option.some.injEq, exists_eq_left', exists_eq_left, List.set_cons_zero, List.set_cons_succ, true_and, and_true, HO.lst.injEq, HO.tup.injEq, exists_and_left, exists_eq, exists_eq', Br.t, Br.f, Be.t, Be.f, List.cons.injEq, List.append_nil, scal, if_true, if_false, ite_true, ite_false, eq_self_iff_true, decide_true, decide_false, Bool.not_true, Bool.not_false, reduceIte, List.nil_append, List.cons_append, reduceCtorEq, false_and, exists_false, false_or, or_false, Int.reduceLT]
    rw [List.length_map, List.take_length]
    exact q
theorem ok__law_cell_at (T : Tx K mg)   : Cal P w K mg base 1 "_law_cell_at" ["script", "k"] (sp__law_cell_at K) := by
  refine cal_mk T.F__law_cell_at T.g__law_cell_at sc__law_cell_at (len2 _) (fun _ _ _ _ _ _ us hl => match us, hl with | [_, _], _ => rfl) (fun cdv A outer s H vs Q E hr h => ?_)
  obtain ⟨v0, v1, rfl, h⟩ := h
  have hu := hu_of hr
  refine ⟨_, (pss_cons (ps_if (pt_cmpR op_lt (pv 1) (pe_callB call_len_seq (by rfl) T.n_len (by decide +kernel) (pa_cons (pv 0) pa_nil)) (nomark _)) (pss_one (ps_ret (pe_ix ix_list (pv 0) (pv 1) (fun _ _ => rfl)))) pss_nil)
      (pss_one (ps_ret (pe_op op_add (pe_op op_mulA pe_int (pv 1)) pe_int)))), ?_⟩
  obtain ⟨a, ns, i, rfl, hS, rfl, hl, q⟩ := h
  simp only [and_assoc, rst, rs, re, ra, rq, rx, ro, rl, rl2, rsp, rz, rix, rln, rg, rd, rwi, at0, at1, at2, at3, upd_at, List.getElem?_cons_zero, List.getElem?_cons_succ, Option.some.injEq, exists_eq_left', exists_eq_left, List.set_cons_zero, List.set_cons_succ, true_and, and_true, HO.lst.injEq, HO.tup.injEq, exists_and_left, exists_eq, exists_eq', Br.t, Br.f, Be.t, Be.f, List.cons.injEq, List.append_nil, scal, if_true, if_false, ite_true, ite_false, eq_self_iff_true, decide_true, decide_false, Bool.not_true, Bool.not_false, reduceIte, List.nil_append, List.cons_append, reduceCtorEq, false_and, exists_false, false_or, or_false, Int.reduceLT]
  refine ⟨_, .inl hS, ?_⟩
  refine Br.d (fun c => ?_) fun c => ?_
  · simp only [and_assoc, rst, rs, re, ra, rq, rx, ro, rl, rl2, rsp, rz, rix, rln, rg, rd, rwi, at0, at1, at2, at3, upd_at, List.getElem?_cons_zero, List.getElem?_cons_succ, Option.some.injEq, exists_eq_left', exists_eq_left, List.set_cons_zero, List.set_cons_succ, true_and, and_true, HO.lst.injEq, HO.tup.injEq, exists_and_left, exists_eq, exists_eq', Br.t, Br.f, Be.t, Be.f, List.cons.injEq, List.append_nil, scal, if_true, if_false, ite_true, ite_false, eq_self_iff_true, decide_true, decide_false, Bool.not_true, Bool.not_false, reduceIte, List.nil_append, List.cons_append, reduceCtorEq, false_and, exists_false, false_or, or_false, Int.reduceLT]
    rw [List.length_map] at c
    have c2 : i < ns.length := by omega
    refine ⟨a, _, _, .int ns[i], rfl, rfl, hS, atI_nat (by rw [List.getElem?_map, List.getElem?_eq_getElem c2]; rfl), q _⟩
  · simp only [and_assoc, rst, rs, re, ra, rq, rx, ro, rl, rl2, rsp, rz, rix, rln, rg, rd, rwi, at0, at1, at2, at3, upd_at, List.getElem?_cons_zero, List.getElem?_cons_succ, Option.some.injEq, exists_eq_left', exists_eq_left, List.set_cons_zero, List.set_cons_succ, true_and, and_true, HO.lst.injEq, HO.tup.injEq, exists_and_left, exists_eq, exists_eq', Br.t, Br.f, Be.t, Be.f, List.cons.injEq, List.append_nil, scal, if_true, if_false, ite_true, ite_false, eq_self_iff_true, decide_true, decide_false, Bool.not_true, Bool.not_false, reduceIte, List.nil_append, List.cons_append, reduceCtorEq, false_and, exists_false, false_or, or_false, Int.reduceLT]
    exact ⟨small_mul' (by decide) (by decide), q _⟩
theorem ok__law_box (T : Tx K mg)   : Cal P w K mg base 1 "_law_box" ["cell"] (sp__law_box K) := by
  refine cal_mk T.F__law_box T.g__law_box sc__law_box (len1 _) (fun _ _ _ _ _ _ us hl => match us, hl with | [_], _ => rfl) (fun cdv A outer s H vs Q E hr h => ?_)
  obtain ⟨v0, rfl, h⟩ := h
  have hu := hu_of hr
  refine ⟨_, (pss_one (ps_ret (pe_lst (pa_cons (pe_op op_mulA (pe_callB (call_max2 rfl) (by rfl) T.n_max (by decide +kernel) (pa_cons pe_int (pa_cons (pv 0) pa_nil))) (pe_callTy call_int1 (by rfl) T.n_int (by decide +kernel) (pa_cons (pe_cmpR op_ge (pv 0) (pe_op op_pow pe_int pe_int) (nomark _)) pa_nil))) (pa_cons (pe_op op_mod (pv 0) pe_int) (pa_cons pe_int pa_nil)))))), ?_⟩
  obtain ⟨z, rfl, q⟩ := h
  simp only [and_assoc, rst, rs, re, ra, rq, rx, ro, rl, rl2, rsp, rz, rix, rln, rg, rd, rwi, at0, at1, at2, at3, upd_at, List.getElem?_cons_zero, List.getElem?_cons_succ, Option.some.injEq, exists_eq_left', exists_eq_left, List.set_cons_zero, List.set_cons_succ, true_and, and_true, HO.lst.injEq, HO.tup.injEq, exists_and_left, exists_eq, exists_eq', Br.t, Br.f, Be.t, Be.f, List.cons.injEq, List.append_nil, scal, if_true, if_false, ite_true, ite_false, eq_self_iff_true, decide_true, decide_false, Bool.not_true, Bool.not_false, reduceIte, List.nil_append, List.cons_append, reduceCtorEq, false_and, exists_false, false_or, or_false, Int.reduceLT]
  refine ⟨⟨by decide, by decide, by decide⟩, ?_, fun p hp => q p _ _ _ hp⟩
  refine small_mul ?_ ?_ <;> split <;> decide
theorem ok__law_take (T : Tx K mg)   : Cal P w K mg base 1 "_law_take" ["box", "many"] (sp__law_take K) := by
  refine cal_mk T.F__law_take T.g__law_take sc__law_take (len2 _) (fun _ _ _ _ _ _ us hl => match us, hl with | [_, _], _ => rfl) (fun cdv A outer s H vs Q E hr h => ?_)
  obtain ⟨v0, v1, rfl, h⟩ := h
  have hu := hu_of hr
  refine ⟨_, (pss_cons (ps_if (pt_cmpR op_gt (pe_ix ix_q (pv 0) pe_int (fun _ _ => rfl)) pe_int (nomark _)) (pss_cons (ps_set (i := 2) sc__law_take.nd rfl (Or.inl rfl) (pe_op op_mod (pe_ix ix_q (pv 0) pe_int (fun _ _ => rfl)) (pv 1)))
      (pss_cons (ps_asg (pe_op op_fdivW (pe_ix ix_q (pv 0) pe_int (fun _ _ => rfl)) (pv 1)) (pg_sub (pv 0) pe_int set_list))
      (pss_one (ps_ret (pv 2))))) pss_nil)
      (pss_cons (ps_asg (pe_op op_add (pe_ix ix_q (pv 0) pe_int (fun _ _ => rfl)) pe_int) (pg_sub (pv 0) pe_int set_list))
      (pss_cons (ps_set (i := 3) sc__law_take.nd rfl (Or.inl rfl) (pe_op op_mod (pe_op op_mulA (pe_op op_add (pe_ix ix_q (pv 0) pe_int (fun _ _ => rfl)) (pe_op op_mulA pe_int (pe_ix ix_q (pv 0) pe_int (fun _ _ => rfl)))) pe_int) pe_int))
      (pss_cons (ps_set (i := 3) sc__law_take.nd rfl (Or.inl rfl) (pe_op op_mod (pe_op op_mulA (pv 3) (pv 3)) pe_int))
      (pss_cons (ps_set (i := 4) sc__law_take.nd rfl (Or.inl rfl) (pe_op op_fdivW (pe_op op_mod (pe_op op_mulA (pe_op op_add (pv 3) (pe_ix ix_q (pv 0) pe_int (fun _ _ => rfl))) (pe_op op_add (pv 3) pe_int)) pe_int) pe_int))
      (pss_cons (ps_set (i := 5) sc__law_take.nd rfl (Or.inl rfl) (pe_op op_mod (pe_op op_add (pe_op op_mulA (pv 3) pe_int) (pe_op op_mulA pe_int (pe_ix ix_q (pv 0) pe_int (fun _ _ => rfl)))) pe_int))
      (pss_one (ps_ret (pe_op op_mod (pe_op op_add (pe_op op_mulA (pv 4) pe_int) (pe_op op_mod (pe_op op_mulA (pv 5) (pv 5)) pe_int)) (pv 1)))))))))), ?_⟩
  obtain ⟨p, x0, x1, x2, n, rfl, hb, rfl, n0, n1, q⟩ := h
  have n2 : CDivW x0 n := wide_div n0 (b := 64) (by omega) (by decide) (by decide)
  simp only [and_assoc, rst, rs, re, ra, rq, rx, ro, rl, rl2, rsp, rz, rix, rln, rg, rd, rwi, at0, at1, at2, at3, upd_at, List.getElem?_cons_zero, List.getElem?_cons_succ, Option.some.injEq, exists_eq_left', exists_eq_left, List.set_cons_zero, List.set_cons_succ, true_and, and_true, HO.lst.injEq, HO.tup.injEq, exists_and_left, exists_eq, exists_eq', Br.t, Br.f, Be.t, Be.f, List.cons.injEq, List.append_nil, scal, if_true, if_false, ite_true, ite_false, eq_self_iff_true, decide_true, decide_false, Bool.not_true, Bool.not_false, reduceIte, List.nil_append, List.cons_append, reduceCtorEq, false_and, exists_false, false_or, or_false, Int.reduceLT, hb]
  refine Br.d (fun c => ?_) fun c => ?_
  · simp only [and_assoc, rst, rs, re, ra, rq, rx, ro, rl, rl2, rsp, rz, rix, rln, rg, rd, rwi, at0, at1, at2, at3, upd_at, List.getElem?_cons_zero, List.getElem?_cons_succ, Option.some.injEq, exists_eq_left', exists_eq_left, List.set_cons_zero, List.set_cons_succ, true_and, and_true, HO.lst.injEq, HO.tup.injEq, exists_and_left, exists_eq, exists_eq', Br.t, Br.f, Be.t, Be.f, List.cons.injEq, List.append_nil, scal, if_true, if_false, ite_true, ite_false, eq_self_iff_true, decide_true, decide_false, Bool.not_true, Bool.not_false, reduceIte, List.nil_append, List.cons_append, reduceCtorEq, false_and, exists_false, false_or, or_false, Int.reduceLT, hb]
    exact ⟨n0, n2, q _ _ _ _ (Int.emod_nonneg _ (by omega)) (Int.emod_lt_of_pos _ n0)⟩
  · simp only [and_assoc, rst, rs, re, ra, rq, rx, ro, rl, rl2, rsp, rz, rix, rln, rg, rd, rwi, at0, at1, at2, at3, upd_at, List.getElem?_cons_zero, List.getElem?_cons_succ, Option.some.injEq, exists_eq_left', exists_eq_left, List.set_cons_zero, List.set_cons_succ, true_and, and_true, HO.lst.injEq, HO.tup.injEq, exists_and_left, exists_eq, exists_eq', Br.t, Br.f, Be.t, Be.f, List.cons.injEq, List.append_nil, scal, if_true, if_false, ite_true, ite_false, eq_self_iff_true, decide_true, decide_false, Bool.not_true, Bool.not_false, reduceIte, List.nil_append, List.cons_append, reduceCtorEq, false_and, exists_false, false_or, or_false, Int.reduceLT, hb]
    have sm : ∀ {i : Int} (j : Int), MulOk i ((j : Int) % 2147483563) := fun j => small_mul (by have := Int.emod_nonneg j (b := 2147483563) (by decide); omega) (by have := Int.emod_lt_of_pos j (b := 2147483563) (by decide); omega)
    repeat first
      | exact q _ _ _ _ (Int.emod_nonneg _ (by omega)) (Int.emod_lt_of_pos _ n0)
      | exact cdiv7
      | refine ⟨?_, ?_⟩
      | (refine small_mul ?_ ?_ <;> omega)
      | exact small_mul' (by decide) (by decide)
      | exact n0
      | exact wide_div n0 (b := 64) (by omega) (by decide) (by decide)

theorem ok__law_whole (T : Tx K mg)   : Cal P w K mg base 1 "_law_whole" ["found", "due"] (sp__law_whole K) := by
  refine cal_mk T.F__law_whole T.g__law_whole sc__law_whole (len2 _) (fun _ _ _ _ _ _ us hl => match us, hl with | [_, _], _ => rfl) (fun cdv A outer s H vs Q E hr h => ?_)
  obtain ⟨v0, v1, rfl, h⟩ := h
  have hu := hu_of hr
  refine ⟨_, (pss_one (ps_ret (pe_and (pe_callB is_q (by rfl) T.n_isinstance (by decide +kernel) (pa_cons (pv 0) (pa_cons (pe_bltn (v := .ty "int") (by rfl) T.n_int (by decide +kernel) rfl) pa_nil))) (pe_and (pe_not (pe_callB is_q (by rfl) T.n_isinstance (by decide +kernel) (pa_cons (pv 0) (pa_cons (pe_bltn (v := .ty "bool") (by rfl) T.n_bool (by decide +kernel) rfl) pa_nil)))) (pe_one (pe_cmpR (op_eqD hr.units) (pv 0) (pv 1) (nomark _))))))), ?_⟩
  obtain ⟨i, j, rfl, rfl, q⟩ := h
  have h1 := isB_int (H := H) (x := .int i) (n := "int") rfl
  have h2 := isB_bool (H := H) (x := .int i) (n := "int") rfl
  simp only [and_assoc, rst, rs, re, ra, rq, rx, ro, rl, rl2, rsp, rz, rix, rln, rg, rd, rwi, at0, at1, at2, at3, upd_at, List.getElem?_cons_zero, List.getElem?_cons_succ, Option.some.injEq, exists_eq_left', exists_eq_left, List.set_cons_zero, List.set_cons_succ, true_and, and_true, HO.lst.injEq, HO.tup.injEq, exists_and_left, exists_eq, exists_eq', Br.t, Br.f, Be.t, Be.f, List.cons.injEq, List.append_nil, scal, if_true, if_false, ite_true, ite_false, eq_self_iff_true, decide_true, decide_false, Bool.not_true, Bool.not_false, reduceIte, List.nil_append, List.cons_append, reduceCtorEq, false_and, exists_false, false_or, or_false, Int.reduceLT, h1]
  refine Be.of (fun _ => ⟨_, h2, Be.of (fun _ => ⟨_, _, .int i, .int j, rfl, rfl, ?_⟩) fun e => (by cases e)⟩) fun e => (by cases e)
  have e : (i == j) = decide (i = j) := by rw [Bool.eq_iff_iff]; simp
  exact (show Q (.bl (i == j)) H from e ▸ q)
end
end Law

namespace Law
open PySem PySem.Spec PyProof.Rows L2 Sw
section
variable {P : Program} {w : World} {K : Fg} {mg : Str → Option Value} {base : Heap}
theorem ok_mixed (T : Tx K mg) (c_is_within : Cal P w K mg base 2 "is_within" ["thing", "low", "high"] (sp_is_within K)) (c_NoNumber : Exn P w K mg base "NoNumber" "found") : Cal P w K mg base 4 "mixed" ["numbers", "bases"] (sp_mixed K) := by
  refine cal_mk T.F_mixed T.g_mixed sc_mixed (len2 _) (fun _ _ _ _ _ _ us hl => match us, hl with | [_, _], _ => rfl) (fun cdv A outer s H vs Q E hr h => ?_)
  obtain ⟨v0, v1, rfl, h⟩ := h
  have hu := hu_of hr
  refine ⟨_, (pss_cons (ps_set (i := 2) sc_mixed.nd rfl (Or.inl rfl) pe_int)
      (pss_cons (ps_for (passes_of rfl) rfl (pi_zipQ (by rfl) T.n_zip (pa_cons (pv 0) (pa_cons (pv 1) pa_nil))) (pg_tup rfl (pgs_cons (pg_name (i := 3) sc_mixed.nd rfl (Or.inl rfl)) (pgs_cons (pg_name (i := 4) sc_mixed.nd rfl (Or.inl rfl)) pgs_nil))) (pss_cons (ps_if (pt_not (pt_val (pe_cal c_is_within hr (by decide) (passes_call (takes_of rfl rfl rfl rfl) fun _ _ _ _ h => h) rfl (pa_cons (pv 3) (pa_cons pe_int (pa_cons (pe_op op_sub (pv 4) pe_int) pa_nil)))))) (pss_one (ps_rs1 c_NoNumber rfl (takes_of rfl rfl rfl rfl) hr (by decide) rfl (pa_cons (pv 3) pa_nil))) pss_nil)
      (pss_one (ps_set (i := 2) sc_mixed.nd rfl (Or.inl rfl) (pe_op op_add (pe_op op_mulA (pv 2) (pv 4)) (pv 3))))))
      (pss_one (ps_ret (pv 2))))), ?_⟩
  obtain ⟨pa, pb, oa, oc, xs, bs, rfl, rfl, ha, hxa, hb, hxb, ht, hl, hn, hp, q, e⟩ := h
  simp only [and_assoc, rst, rs, re, ra, rq, rx, ro, rl, rl2, rsp, rz, rix, rln, rg, rd, rwi, at0, at1, at2, at3, upd_at, List.getElem?_cons_zero, List.getElem?_cons_succ, Option.some.injEq, exists_eq_left', exists_eq_left, List.set_cons_zero, List.set_cons_succ, true_and, and_true, HO.lst.injEq, HO.tup.injEq, exists_and_left, exists_eq, exists_eq', Br.t, Br.f, Be.t, Be.f, List.cons.injEq, List.append_nil, scal, if_true, if_false, ite_true, ite_false, eq_self_iff_true, decide_true, decide_false, Bool.not_true, Bool.not_false, reduceIte, List.nil_append, List.cons_append, reduceCtorEq, false_and, exists_false, false_or, or_false, Int.reduceLT, ha, hb]
  refine ⟨_, _, hxa, rfl, _, hxb, ht, FI.zip hxa hxb ht (by rw [hl, List.length_map]) (fun i σ H' => ∃ acc v3 v4, Same H H' ∧ mixR xs bs 0 = mixR (xs.drop i) (bs.drop i) acc ∧ σ = [some (.ref pa), some (.ref pb), some (.int acc), v3, v4]) ⟨0, none, none, fun _ _ z => z, rfl, rfl⟩ (fun i σ H' ⟨_, _, _, s, _⟩ => ⟨s _ _ ha, s _ _ hb⟩) ?_ ?_⟩
  · rintro i x y T σ H' hx hy ⟨acc, v3, v4, hs, em, rfl⟩ hT
    obtain ⟨b, eb, rfl⟩ := map_at hy
    obtain ⟨n, en⟩ := hn x (List.mem_of_getElem? hx)
    have s2 : Same H (upd H' T (.tup [x, V.int b])) := Same.mut hs (Same.free hs hT)
    have bb := hp b (List.mem_of_getElem? eb)
    rw [drop_at hx, drop_at eb] at em
    simp only [and_assoc, rst, rs, re, ra, rq, rx, ro, rl, rl2, rsp, rz, rix, rln, rg, rd, rwi, at0, at1, at2, at3, upd_at, List.getElem?_cons_zero, List.getElem?_cons_succ, Option.some.injEq, exists_eq_left', exists_eq_left, List.set_cons_zero, List.set_cons_succ, true_and, and_true, HO.lst.injEq, HO.tup.injEq, exists_and_left, exists_eq, exists_eq', Br.t, Br.f, Be.t, Be.f, List.cons.injEq, List.append_nil, scal, if_true, if_false, ite_true, ite_false, eq_self_iff_true, decide_true, decide_false, Bool.not_true, Bool.not_false, reduceIte, List.nil_append, List.cons_append, reduceCtorEq, false_and, exists_false, false_or, or_false, Int.reduceLT]
    refine ⟨_, _, _, rfl, _, _, n, rfl, rfl, tyN_same s2 en, ?_⟩
    simp only [and_assoc, rst, rs, re, ra, rq, rx, ro, rl, rl2, rsp, rz, rix, rln, rg, rd, rwi, at0, at1, at2, at3, upd_at, List.getElem?_cons_zero, List.getElem?_cons_succ, Option.some.injEq, exists_eq_left', exists_eq_left, List.set_cons_zero, List.set_cons_succ, true_and, and_true, HO.lst.injEq, HO.tup.injEq, exists_and_left, exists_eq, exists_eq', Br.t, Br.f, Be.t, Be.f, List.cons.injEq, List.append_nil, scal, if_true, if_false, ite_true, ite_false, eq_self_iff_true, decide_true, decide_false, Bool.not_true, Bool.not_false, reduceIte, List.nil_append, List.cons_append, reduceCtorEq, false_and, exists_false, false_or, or_false, Int.reduceLT]
    refine Br.of (fun c => ?_) fun c => ?_
    · simp only [and_assoc, rst, rs, re, ra, rq, rx, ro, rl, rl2, rsp, rz, rix, rln, rg, rd, rwi, at0, at1, at2, at3, upd_at, List.getElem?_cons_zero, List.getElem?_cons_succ, Option.some.injEq, exists_eq_left', exists_eq_left, List.set_cons_zero, List.set_cons_succ, true_and, and_true, HO.lst.injEq, HO.tup.injEq, exists_and_left, exists_eq, exists_eq', Br.t, Br.f, Be.t, Be.f, List.cons.injEq, List.append_nil, scal, if_true, if_false, ite_true, ite_false, eq_self_iff_true, decide_true, decide_false, Bool.not_true, Bool.not_false, reduceIte, List.nil_append, List.cons_append, reduceCtorEq, false_and, exists_false, false_or, or_false, Int.reduceLT]
      exact fun d hd => e x (em.trans (mixR_f (by simpa using c))) _ d s2 hd
    · simp only [and_assoc, rst, rs, re, ra, rq, rx, ro, rl, rl2, rsp, rz, rix, rln, rg, rd, rwi, at0, at1, at2, at3, upd_at, List.getElem?_cons_zero, List.getElem?_cons_succ, Option.some.injEq, exists_eq_left', exists_eq_left, List.set_cons_zero, List.set_cons_succ, true_and, and_true, HO.lst.injEq, HO.tup.injEq, exists_and_left, exists_eq, exists_eq', Br.t, Br.f, Be.t, Be.f, List.cons.injEq, List.append_nil, scal, if_true, if_false, ite_true, ite_false, eq_self_iff_true, decide_true, decide_false, Bool.not_true, Bool.not_false, reduceIte, List.nil_append, List.cons_append, reduceCtorEq, false_and, exists_false, false_or, or_false, Int.reduceLT]
      obtain ⟨m, rfl, _⟩ := within_int (show within x 0 (b - 1) = true by simpa using c)
      exact ⟨small_mul (by omega) bb.2, m, rfl, s2, _, em.trans (mixR_t (by simpa using c) rfl), rfl⟩
  · rintro σ H' ⟨acc, v3, v4, hs, em, rfl⟩
    rw [List.drop_length, hl, List.drop_length] at em
    simp only [and_assoc, rst, rs, re, ra, rq, rx, ro, rl, rl2, rsp, rz, rix, rln, rg, rd, rwi, at0, at1, at2, at3, upd_at, List.getElem?_cons_zero, List.getElem?_cons_succ, Option.some.injEq, exists_eq_left', exists_eq_left, List.set_cons_zero, List.set_cons_succ, true_and, and_true, HO.lst.injEq, HO.tup.injEq, exists_and_left, exists_eq, exists_eq', Br.t, Br.f, Be.t, Be.f, List.cons.injEq, List.append_nil, scal, if_true, if_false, ite_true, ite_false, eq_self_iff_true, decide_true, decide_false, Bool.not_true, Bool.not_false, reduceIte, List.nil_append, List.cons_append, reduceCtorEq, false_and, exists_false, false_or, or_false, Int.reduceLT]
    exact q _ em _ hs
theorem ok_unmixed (T : Tx K mg) (c_is_within : Cal P w K mg base 2 "is_within" ["thing", "low", "high"] (sp_is_within K)) (c_product : Cal P w K mg base 1 "product" ["bases"] (sp_product K)) (c_NoNumber : Exn P w K mg base "NoNumber" "found") : Cal P w K mg base 4 "unmixed" ["number", "bases"] (sp_unmixed K) := by
  refine cal_mk T.F_unmixed T.g_unmixed sc_unmixed (len2 _) (fun _ _ _ _ _ _ us hl => match us, hl with | [_, _], _ => rfl) (fun cdv A outer s H vs Q E hr h => ?_)
  obtain ⟨v0, v1, rfl, h⟩ := h
  have hu := hu_of hr
  refine ⟨_, (pss_cons (ps_if (pt_not (pt_val (pe_cal c_is_within hr (by decide) (passes_call (takes_of rfl rfl rfl rfl) fun _ _ _ _ h => h) rfl (pa_cons (pv 0) (pa_cons pe_int (pa_cons (pe_op op_sub (pe_cal c_product hr (by decide) (passes_call (takes_of rfl rfl rfl rfl) fun _ _ _ _ h => h) rfl (pa_cons (pv 1) pa_nil)) pe_int) pa_nil)))))) (pss_one (ps_rs1 c_NoNumber rfl (takes_of rfl rfl rfl rfl) hr (by decide) rfl (pa_cons (pv 0) pa_nil))) pss_nil)
      (pss_cons (ps_set (i := 2) sc_unmixed.nd rfl (Or.inl rfl) (pe_lst pa_nil))
      (pss_cons (ps_for (passes_of rfl) rfl (pi_revQ (by rfl) T.n_reversed (pv 1)) (pg_name (i := 3) sc_unmixed.nd rfl (Or.inl rfl)) (pss_cons (ps_asg (pe_callB call_divmodW (by rfl) T.n_divmod (by decide +kernel) (pa_cons (pv 0) (pa_cons (pv 3) pa_nil))) (pg_tupQ rfl (pgs_cons (pg_name (i := 0) sc_unmixed.nd rfl (Or.inl rfl)) (pgs_cons (pg_name (i := 4) sc_unmixed.nd rfl (Or.inl rfl)) pgs_nil)) (gname_len (gname_len (fun _ _ _ _ h => gnil_len h)))))
      (pss_one (ps_expr (pe_ml PySem.F.slot_list_append PySem.F.type_list_append mt_append (pv 2) (pa_cons (pv 4) pa_nil))))))
      (pss_one (ps_ret (pe_revL (pv 2))))))), ?_⟩
  obtain ⟨p, o, bs, n, rfl, ho, hs, hp, hl, hn, q, e⟩ := h
  have pp := prod_pos hp
  simp only [and_assoc, rst, rs, re, ra, rq, rx, ro, rl, rl2, rsp, rz, rix, rln, rg, rd, rwi, at0, at1, at2, at3, upd_at, List.getElem?_cons_zero, List.getElem?_cons_succ, Option.some.injEq, exists_eq_left', exists_eq_left, List.set_cons_zero, List.set_cons_succ, true_and, and_true, HO.lst.injEq, HO.tup.injEq, exists_and_left, exists_eq, exists_eq', Br.t, Br.f, Be.t, Be.f, List.cons.injEq, List.append_nil, scal, if_true, if_false, ite_true, ite_false, eq_self_iff_true, decide_true, decide_false, Bool.not_true, Bool.not_false, reduceIte, List.nil_append, List.cons_append, reduceCtorEq, false_and, exists_false, false_or, or_false, Int.reduceLT, ho]
  refine ⟨_, rfl, _, _, _, rfl, ho, hs, hp, ?_⟩
  simp only [and_assoc, rst, rs, re, ra, rq, rx, ro, rl, rl2, rsp, rz, rix, rln, rg, rd, rwi, at0, at1, at2, at3, upd_at, List.getElem?_cons_zero, List.getElem?_cons_succ, Option.some.injEq, exists_eq_left', exists_eq_left, List.set_cons_zero, List.set_cons_succ, true_and, and_true, HO.lst.injEq, HO.tup.injEq, exists_and_left, exists_eq, exists_eq', Br.t, Br.f, Be.t, Be.f, List.cons.injEq, List.append_nil, scal, if_true, if_false, ite_true, ite_false, eq_self_iff_true, decide_true, decide_false, Bool.not_true, Bool.not_false, reduceIte, List.nil_append, List.cons_append, reduceCtorEq, false_and, exists_false, false_or, or_false, Int.reduceLT]
  refine ⟨_, _, _, rfl, _, _, n, rfl, rfl, hn, ?_⟩
  simp only [and_assoc, rst, rs, re, ra, rq, rx, ro, rl, rl2, rsp, rz, rix, rln, rg, rd, rwi, at0, at1, at2, at3, upd_at, List.getElem?_cons_zero, List.getElem?_cons_succ, Option.some.injEq, exists_eq_left', exists_eq_left, List.set_cons_zero, List.set_cons_succ, true_and, and_true, HO.lst.injEq, HO.tup.injEq, exists_and_left, exists_eq, exists_eq', Br.t, Br.f, Be.t, Be.f, List.cons.injEq, List.append_nil, scal, if_true, if_false, ite_true, ite_false, eq_self_iff_true, decide_true, decide_false, Bool.not_true, Bool.not_false, reduceIte, List.nil_append, List.cons_append, reduceCtorEq, false_and, exists_false, false_or, or_false, Int.reduceLT]
  refine Br.of (fun c => ?_) fun c => ?_
  · simp only [and_assoc, rst, rs, re, ra, rq, rx, ro, rl, rl2, rsp, rz, rix, rln, rg, rd, rwi, at0, at1, at2, at3, upd_at, List.getElem?_cons_zero, List.getElem?_cons_succ, Option.some.injEq, exists_eq_left', exists_eq_left, List.set_cons_zero, List.set_cons_succ, true_and, and_true, HO.lst.injEq, HO.tup.injEq, exists_and_left, exists_eq, exists_eq', Br.t, Br.f, Be.t, Be.f, List.cons.injEq, List.append_nil, scal, if_true, if_false, ite_true, ite_false, eq_self_iff_true, decide_true, decide_false, Bool.not_true, Bool.not_false, reduceIte, List.nil_append, List.cons_append, reduceCtorEq, false_and, exists_false, false_or, or_false, Int.reduceLT]
    exact fun d hd => e (by simpa using c) _ d (fun _ _ z => z) hd
  · obtain ⟨i, rfl, i0, i1⟩ := within_int (show within v0 0 (prodI bs - 1) = true by simpa using c)
    simp only [and_assoc, rst, rs, re, ra, rq, rx, ro, rl, rl2, rsp, rz, rix, rln, rg, rd, rwi, at0, at1, at2, at3, upd_at, List.getElem?_cons_zero, List.getElem?_cons_succ, Option.some.injEq, exists_eq_left', exists_eq_left, List.set_cons_zero, List.set_cons_succ, true_and, and_true, HO.lst.injEq, HO.tup.injEq, exists_and_left, exists_eq, exists_eq', Br.t, Br.f, Be.t, Be.f, List.cons.injEq, List.append_nil, scal, if_true, if_false, ite_true, ite_false, eq_self_iff_true, decide_true, decide_false, Bool.not_true, Bool.not_false, reduceIte, List.nil_append, List.cons_append, reduceCtorEq, false_and, exists_false, false_or, or_false, Int.reduceLT, ho]
    refine fun pf hf => ?_
    have hpf : p ≠ pf := ne_of_none ho hf
    simp only [and_assoc, rst, rs, re, ra, rq, rx, ro, rl, rl2, rsp, rz, rix, rln, rg, rd, rwi, at0, at1, at2, at3, upd_at, List.getElem?_cons_zero, List.getElem?_cons_succ, Option.some.injEq, exists_eq_left', exists_eq_left, List.set_cons_zero, List.set_cons_succ, true_and, and_true, HO.lst.injEq, HO.tup.injEq, exists_and_left, exists_eq, exists_eq', Br.t, Br.f, Be.t, Be.f, List.cons.injEq, List.append_nil, scal, if_true, if_false, ite_true, ite_false, eq_self_iff_true, decide_true, decide_false, Bool.not_true, Bool.not_false, reduceIte, List.nil_append, List.cons_append, reduceCtorEq, false_and, exists_false, false_or, or_false, Int.reduceLT, if_neg hpf]
    refine ⟨_, hs, FI.rev hs (fun k σ H' => ∃ v3 v4, Same H H' ∧ H' pf = some (.lst ((digsR i (bs.reverse.take k)).map V.int)) ∧ σ = [some (.int (quoR i (bs.reverse.take k))), some (.ref p), some (.ref pf), v3, v4]) ⟨none, none, Same.new hf, upd_same, rfl⟩ (fun i σ H' ⟨_, _, s, _⟩ => s _ _ ho) ?_ ?_⟩
    · rintro k x σ H' hk hx ⟨v3, v4, hs, hq, rfl⟩
      obtain ⟨b, eb, rfl⟩ := map_at hx
      rw [← List.length_reverse] at hx hk
      have er : bs.reverse[k]? = some b := by
        have hk2 : k < bs.length := by simpa using hk
        exact rev_at hk2 (by simpa using eb)
      have hb := hp b (List.mem_of_getElem? eb)
      have kl : k < bs.length := by simpa using hk
      simp only [and_assoc, rst, rs, re, ra, rq, rx, ro, rl, rl2, rsp, rz, rix, rln, rg, rd, rwi, at0, at1, at2, at3, upd_at, List.getElem?_cons_zero, List.getElem?_cons_succ, Option.some.injEq, exists_eq_left', exists_eq_left, List.set_cons_zero, List.set_cons_succ, true_and, and_true, HO.lst.injEq, HO.tup.injEq, exists_and_left, exists_eq, exists_eq', Br.t, Br.f, Be.t, Be.f, List.cons.injEq, List.append_nil, scal, if_true, if_false, ite_true, ite_false, eq_self_iff_true, decide_true, decide_false, Bool.not_true, Bool.not_false, reduceIte, List.nil_append, List.cons_append, reduceCtorEq, false_and, exists_false, false_or, or_false, Int.reduceLT]
      refine ⟨divs hp hl i0 i1 hb.1 hb.2, fun p' hp' => ?_⟩
      rw [if_neg (ne_of_none hq hp'), hq]
      refine ⟨_, rfl, _, rfl, ?_, Same.mut (Same.mut hs (Same.free hs hp')) hf, ?_, ?_⟩
      · rw [List.length_map, digs_len, List.length_take, sizeLine_eq]
        omega
      · rw [take_snoc er, digs_snoc, List.map_append]
        rfl
      · rw [take_snoc er, quo_snoc]
    · rintro σ H' ⟨v3, v4, hs, hq, rfl⟩
      simp only [and_assoc, rst, rs, re, ra, rq, rx, ro, rl, rl2, rsp, rz, rix, rln, rg, rd, rwi, at0, at1, at2, at3, upd_at, List.getElem?_cons_zero, List.getElem?_cons_succ, Option.some.injEq, exists_eq_left', exists_eq_left, List.set_cons_zero, List.set_cons_succ, true_and, and_true, HO.lst.injEq, HO.tup.injEq, exists_and_left, exists_eq, exists_eq', Br.t, Br.f, Be.t, Be.f, List.cons.injEq, List.append_nil, scal, if_true, if_false, ite_true, ite_false, eq_self_iff_true, decide_true, decide_false, Bool.not_true, Bool.not_false, reduceIte, List.nil_append, List.cons_append, reduceCtorEq, false_and, exists_false, false_or, or_false, Int.reduceLT, hq]
      refine ⟨_, SqL.of hq, fun p' hp' => q i rfl i0 (by omega) _ p' (Same.mut hs (Same.free hs hp')) (Same.free hs hp') ?_⟩
      rw [upd_same, ← List.map_reverse, List.length_map, List.take_of_length_le (by rw [List.length_reverse]; exact Nat.le_refl _)]
theorem ok__law_worth (T : Tx K mg)   : Cal P w K mg base 1 "_law_worth" ["numbers", "bases"] (sp__law_worth K) := by
  refine cal_mk T.F__law_worth T.g__law_worth sc__law_worth (len2 _) (fun _ _ _ _ _ _ us hl => match us, hl with | [_, _], _ => rfl) (fun cdv A outer s H vs Q E hr h => ?_)
  obtain ⟨v0, v1, rfl, h⟩ := h
  have hu := hu_of hr
  refine ⟨_, (pss_cons (ps_set (i := 2) sc__law_worth.nd rfl (Or.inl rfl) pe_int)
      (pss_cons (ps_set (i := 3) sc__law_worth.nd rfl (Or.inl rfl) pe_int)
      (pss_cons (ps_for (passes_of rfl) rfl (pi_zipQ (by rfl) T.n_zip (pa_cons (pe_revL (pv 0)) (pa_cons (pe_revL (pv 1)) pa_nil))) (pg_tup rfl (pgs_cons (pg_name (i := 4) sc__law_worth.nd rfl (Or.inl rfl)) (pgs_cons (pg_name (i := 5) sc__law_worth.nd rfl (Or.inl rfl)) pgs_nil))) (pss_cons (ps_set (i := 2) sc__law_worth.nd rfl (Or.inl rfl) (pe_op op_add (pv 2) (pe_op op_mulA (pv 4) (pv 3))))
      (pss_one (ps_set (i := 3) sc__law_worth.nd rfl (Or.inl rfl) (pe_op op_mulA (pv 3) (pv 5))))))
      (pss_one (ps_ret (pe_tup (pa_cons (pv 2) (pa_cons (pv 3) pa_nil)))))))), ?_⟩
  obtain ⟨pa, pb, ns, bs, rfl, rfl, ha, hb, hi, hp, q⟩ := h
  simp only [and_assoc, rst, rs, re, ra, rq, rx, ro, rl, rl2, rsp, rz, rix, rln, rg, rd, rwi, at0, at1, at2, at3, upd_at, List.getElem?_cons_zero, List.getElem?_cons_succ, Option.some.injEq, exists_eq_left', exists_eq_left, List.set_cons_zero, List.set_cons_succ, true_and, and_true, HO.lst.injEq, HO.tup.injEq, exists_and_left, exists_eq, exists_eq', Br.t, Br.f, Be.t, Be.f, List.cons.injEq, List.append_nil, scal, if_true, if_false, ite_true, ite_false, eq_self_iff_true, decide_true, decide_false, Bool.not_true, Bool.not_false, reduceIte, List.nil_append, List.cons_append, reduceCtorEq, false_and, exists_false, false_or, or_false, Int.reduceLT, ha, hb]
  refine ⟨_, SqL.of ha, fun pc hc => ⟨_, SqL.of (by rw [upd_ne (ne_of_none hb hc)]; exact hb), fun pd hd => ?_⟩⟩
  have hdc : pd ≠ pc := fun z => by rw [if_pos z] at hd; cases hd
  rw [if_neg hdc] at hd
  have hcd : pc ≠ pd := fun z => hdc z.symm
  rw [if_neg hcd]
  refine ⟨_, rfl, _, _, rfl, rfl, _, rfl, rfl, FI.zip (ob := .lst (List.map V.int bs).reverse) rfl rfl rfl (by simp [hi.len]) (fun i σ H' => ∃ v4 v5, Same (upd (upd H pc (.lst (List.map V.int ns).reverse)) pd (.lst (List.map V.int bs).reverse)) H' ∧ σ = [some (.ref pa), some (.ref pb), some (.int (valR (ns.reverse.take i) (bs.reverse.take i))), some (.int (prodI (bs.reverse.take i))), v4, v5]) ⟨none, none, fun _ _ z => z, rfl⟩ (fun i σ H' ⟨_, _, s, _⟩ => ⟨s _ _ (by rw [upd_ne hcd]; exact upd_same), s _ _ upd_same⟩) ?_ ?_⟩
  · rintro i x y T σ H' hx hy ⟨v4, v5, hs, rfl⟩ hT
    rw [← List.map_reverse] at hx hy
    obtain ⟨n, en, rfl⟩ := map_at hx
    obtain ⟨b, eb, rfl⟩ := map_at hy
    have hb2 := hp b (List.mem_reverse.mp (List.mem_of_getElem? eb))
    have hn2 := hi.rev.at_ en eb
    simp only [and_assoc, rst, rs, re, ra, rq, rx, ro, rl, rl2, rsp, rz, rix, rln, rg, rd, rwi, at0, at1, at2, at3, upd_at, List.getElem?_cons_zero, List.getElem?_cons_succ, Option.some.injEq, exists_eq_left', exists_eq_left, List.set_cons_zero, List.set_cons_succ, true_and, and_true, HO.lst.injEq, HO.tup.injEq, exists_and_left, exists_eq, exists_eq', Br.t, Br.f, Be.t, Be.f, List.cons.injEq, List.append_nil, scal, if_true, if_false, ite_true, ite_false, eq_self_iff_true, decide_true, decide_false, Bool.not_true, Bool.not_false, reduceIte, List.nil_append, List.cons_append, reduceCtorEq, false_and, exists_false, false_or, or_false, Int.reduceLT]
    refine ⟨small_mul' (by omega) (by omega), small_mul (by omega) hb2.2, Same.mut hs (Same.free hs hT), ?_, ?_⟩
    · rw [take_snoc en, take_snoc eb, valR_snoc _ _ _ _ (by rw [List.length_take, List.length_take, List.length_reverse, List.length_reverse, hi.len]), Int.mul_comm (prodI _)]
    · rw [take_snoc eb, prod_snoc]
  · rintro σ H' ⟨v4, v5, hs, rfl⟩
    simp only [and_assoc, rst, rs, re, ra, rq, rx, ro, rl, rl2, rsp, rz, rix, rln, rg, rd, rwi, at0, at1, at2, at3, upd_at, List.getElem?_cons_zero, List.getElem?_cons_succ, Option.some.injEq, exists_eq_left', exists_eq_left, List.set_cons_zero, List.set_cons_succ, true_and, and_true, HO.lst.injEq, HO.tup.injEq, exists_and_left, exists_eq, exists_eq', Br.t, Br.f, Be.t, Be.f, List.cons.injEq, List.append_nil, scal, if_true, if_false, ite_true, ite_false, eq_self_iff_true, decide_true, decide_false, Bool.not_true, Bool.not_false, reduceIte, List.nil_append, List.cons_append, reduceCtorEq, false_and, exists_false, false_or, or_false, Int.reduceLT]
    have hc' : Same H H' := Same.trans (Same.trans (Same.new hc) (Same.new (by rw [upd_ne hdc]; exact hd))) hs
    refine fun p' hp' => q _ p' (Same.mut hc' (Same.free hc' hp')) (Same.free hc' hp') ?_
    rw [upd_same, List.take_of_length_le (by simp), List.take_of_length_le (by simp [hi.len]), prod_rev]
theorem ok__law_next (T : Tx K mg)   : Cal P w K mg base 1 "_law_next" ["numbers", "bases"] (sp__law_next K) := by
  refine cal_mk T.F__law_next T.g__law_next sc__law_next (len2 _) (fun _ _ _ _ _ _ us hl => match us, hl with | [_, _], _ => rfl) (fun cdv A outer s H vs Q E hr h => ?_)
  obtain ⟨v0, v1, rfl, h⟩ := h
  have hu := hu_of hr
  refine ⟨_, (pss_cons (ps_set (i := 2) sc__law_next.nd rfl (Or.inl rfl) (pe_callTy lst_q (by rfl) T.n_list (by decide +kernel) (pa_cons (pv 0) pa_nil)))
      (pss_cons (ps_for (passes_of rfl) rfl (pi_revR (by rfl) T.n_reversed (prg_1 (by rfl) T.n_range (pe_callB len_q (by rfl) T.n_len (by decide +kernel) (pa_cons (pv 2) pa_nil)))) (pg_name (i := 3) sc__law_next.nd rfl (Or.inl rfl)) (pss_cons (ps_if (pt_cmpR op_lt (pe_op op_add (pe_ix ix_q (pv 2) (pv 3) (fun _ _ => rfl)) pe_int) (pe_ix ix_q (pv 1) (pv 3) (fun _ _ => rfl)) (nomark _)) (pss_cons (ps_asg (pe_op op_add (pe_ix ix_q (pv 2) (pv 3) (fun _ _ => rfl)) pe_int) (pg_sub (pv 2) (pv 3) set_list))
      (pss_one (ps_ret (pv 2)))) pss_nil)
      (pss_one (ps_asg pe_int (pg_sub (pv 2) (pv 3) set_list)))))
      (pss_one (ps_ret pe_non)))), ?_⟩
  obtain ⟨pa, pb, ns, bs, rfl, rfl, ha, hb, hi, hl, q⟩ := h
  simp only [and_assoc, rst, rs, re, ra, rq, rx, ro, rl, rl2, rsp, rz, rix, rln, rg, rd, rwi, at0, at1, at2, at3, upd_at, List.getElem?_cons_zero, List.getElem?_cons_succ, Option.some.injEq, exists_eq_left', exists_eq_left, List.set_cons_zero, List.set_cons_succ, true_and, and_true, HO.lst.injEq, HO.tup.injEq, exists_and_left, exists_eq, exists_eq', Br.t, Br.f, Be.t, Be.f, List.cons.injEq, List.append_nil, scal, if_true, if_false, ite_true, ite_false, eq_self_iff_true, decide_true, decide_false, Bool.not_true, Bool.not_false, reduceIte, List.nil_append, List.cons_append, reduceCtorEq, false_and, exists_false, false_or, or_false, Int.reduceLT, ha, hb]
  refine fun pc hc => ⟨by decide, by decide, by omega, by rw [List.length_map]; omega, ?_⟩
  have e0 : ((List.map V.int ns).length - 0 : Int).toNat = ns.length := by rw [List.length_map]; omega
  rw [e0]
  refine FI.rngC (fun i σ H' => ∃ v, Same H H' ∧ H' pc = some (.lst ((List.replicate i 0 ++ ns.reverse.drop i).reverse.map V.int)) ∧ nextR ns.reverse bs.reverse = (nextR (ns.reverse.drop i) (bs.reverse.drop i)).map (List.replicate i 0 ++ ·) ∧ σ = [some (.ref pa), some (.ref pb), some (.ref pc), v]) ?_ ?_ ?_
  · refine ⟨none, Same.new hc, by rw [upd_same]; simp, ?_, rfl⟩
    rw [List.drop_zero, List.drop_zero]
    cases nextR ns.reverse bs.reverse <;> rfl
  · rintro i σ H' hi2 ⟨v, hs, hq, en, rfl⟩
    have hlen := hi.len
    obtain ⟨x, ex⟩ : ∃ x, ns.reverse[i]? = some x := ⟨_, List.getElem?_eq_getElem (by simpa using hi2)⟩
    obtain ⟨b, eb⟩ : ∃ b, bs.reverse[i]? = some b := ⟨_, List.getElem?_eq_getElem (by rw [List.length_reverse]; omega)⟩
    have eb2 : bs[ns.length - 1 - i]? = some b := by rw [← eb, List.getElem?_reverse (by omega), hlen]
    have ei : (0 + (ns.length : Int) - 1 + (i : Int) * -1) = ((ns.length - 1 - i : Nat) : Int) := by omega
    rw [drop_at ex] at hq en
    rw [drop_at eb] at en
    have el : (List.replicate i 0 ++ x :: ns.reverse.drop (i + 1)).reverse = (ns.reverse.drop (i + 1)).reverse ++ x :: List.replicate i 0 := by simp
    have l0 : ((ns.reverse.drop (i + 1)).reverse.map V.int).length = ns.length - 1 - i := by simp; omega
    rw [el, List.map_append, List.map_cons] at hq
    simp only [and_assoc, rst, rs, re, ra, rq, rx, ro, rl, rl2, rsp, rz, rix, rln, rg, rd, rwi, at0, at1, at2, at3, upd_at, List.getElem?_cons_zero, List.getElem?_cons_succ, Option.some.injEq, exists_eq_left', exists_eq_left, List.set_cons_zero, List.set_cons_succ, true_and, and_true, HO.lst.injEq, HO.tup.injEq, exists_and_left, exists_eq, exists_eq', Br.t, Br.f, Be.t, Be.f, List.cons.injEq, List.append_nil, scal, if_true, if_false, ite_true, ite_false, eq_self_iff_true, decide_true, decide_false, Bool.not_true, Bool.not_false, reduceIte, List.nil_append, List.cons_append, reduceCtorEq, false_and, exists_false, false_or, or_false, Int.reduceLT, hq, hs _ _ hb]
    rw [ei]
    refine ⟨_, atI_nat (l0 ▸ mid_at), _, rfl, _, atI_nat (by rw [List.getElem?_map, eb2]; rfl), _, rfl, ?_⟩
    refine Br.d (fun c => ?_) fun c => ?_
    · simp only [and_assoc, rst, rs, re, ra, rq, rx, ro, rl, rl2, rsp, rz, rix, rln, rg, rd, rwi, at0, at1, at2, at3, upd_at, List.getElem?_cons_zero, List.getElem?_cons_succ, Option.some.injEq, exists_eq_left', exists_eq_left, List.set_cons_zero, List.set_cons_succ, true_and, and_true, HO.lst.injEq, HO.tup.injEq, exists_and_left, exists_eq, exists_eq', Br.t, Br.f, Be.t, Be.f, List.cons.injEq, List.append_nil, scal, if_true, if_false, ite_true, ite_false, eq_self_iff_true, decide_true, decide_false, Bool.not_true, Bool.not_false, reduceIte, List.nil_append, List.cons_append, reduceCtorEq, false_and, exists_false, false_or, or_false, Int.reduceLT, hq]
      have lx : ns.length - 1 - i < ((ns.reverse.drop (i + 1)).reverse.map V.int ++ V.int x :: (List.replicate i 0).map V.int).length := by rw [List.length_append, l0, List.length_cons]; omega
      refine ⟨_, atI_nat (l0 ▸ mid_at), _, rfl, _, ixN_nat lx, ?_⟩
      rw [nextR_t c] at en
      refine q _ _ (Same.mut hs hc) (fun ms e => ⟨pc, rfl, ?_⟩) fun e => by rw [en] at e; cases e
      rw [en] at e
      cases e
      rw [upd_same, ← l0, mid_set]
      simp
    · simp only [and_assoc, rst, rs, re, ra, rq, rx, ro, rl, rl2, rsp, rz, rix, rln, rg, rd, rwi, at0, at1, at2, at3, upd_at, List.getElem?_cons_zero, List.getElem?_cons_succ, Option.some.injEq, exists_eq_left', exists_eq_left, List.set_cons_zero, List.set_cons_succ, true_and, and_true, HO.lst.injEq, HO.tup.injEq, exists_and_left, exists_eq, exists_eq', Br.t, Br.f, Be.t, Be.f, List.cons.injEq, List.append_nil, scal, if_true, if_false, ite_true, ite_false, eq_self_iff_true, decide_true, decide_false, Bool.not_true, Bool.not_false, reduceIte, List.nil_append, List.cons_append, reduceCtorEq, false_and, exists_false, false_or, or_false, Int.reduceLT, hq]
      have lx : ns.length - 1 - i < ((ns.reverse.drop (i + 1)).reverse.map V.int ++ V.int x :: (List.replicate i 0).map V.int).length := by rw [List.length_append, l0, List.length_cons]; omega
      refine ⟨_, ixN_nat lx, Same.mut hs hc, ?_, ?_⟩
      · rw [← l0, mid_set]
        simp [List.replicate_succ']
      · rw [nextR_f c] at en
        rw [en, Option.map_map]
        congr 1
        funext r
        simp [List.replicate_succ']
  · rintro σ H' ⟨v, hs, hq, en, rfl⟩
    simp only [and_assoc, rst, rs, re, ra, rq, rx, ro, rl, rl2, rsp, rz, rix, rln, rg, rd, rwi, at0, at1, at2, at3, upd_at, List.getElem?_cons_zero, List.getElem?_cons_succ, Option.some.injEq, exists_eq_left', exists_eq_left, List.set_cons_zero, List.set_cons_succ, true_and, and_true, HO.lst.injEq, HO.tup.injEq, exists_and_left, exists_eq, exists_eq', Br.t, Br.f, Be.t, Be.f, List.cons.injEq, List.append_nil, scal, if_true, if_false, ite_true, ite_false, eq_self_iff_true, decide_true, decide_false, Bool.not_true, Bool.not_false, reduceIte, List.nil_append, List.cons_append, reduceCtorEq, false_and, exists_false, false_or, or_false, Int.reduceLT]
    have e2 : nextR ns.reverse bs.reverse = none := by
      rw [en, List.drop_of_length_le (by simp), List.drop_of_length_le (by simp [hi.len])]
      rfl
    exact q _ _ hs (fun ms e => by rw [e2] at e; cases e) fun _ => rfl
theorem ok__law_refused (T : Tx K mg) (c_mixed : Cal P w K mg base 4 "mixed" ["numbers", "bases"] (sp_mixed K)) (c_unmixed : Cal P w K mg base 4 "unmixed" ["number", "bases"] (sp_unmixed K))  : Cal P w K mg base 5 "_law_refused" ["deed", "thing", "sizes"] (sp__law_refused K) := by
  refine cal_mk T.F__law_refused T.g__law_refused sc__law_refused (len3 _) (fun _ _ _ _ _ _ us hl => match us, hl with | [_, _, _], _ => rfl) (fun cdv A outer s H vs Q E hr h => ?_)
  obtain ⟨v0, v1, v2, rfl, h⟩ := h
  have hu := hu_of hr
  refine ⟨_, (pss_cons (ps_set (i := 3) sc__law_refused.nd rfl (Or.inl rfl) (pe_lst pa_nil))
      (pss_cons (ps_try_as (i := 4) (tb := _) (ts := _) (Wout := fun _ _ _ _ => False) rfl rfl sc__law_refused.nd rfl rfl ⟨rfl, by decide, Or.inl T.g_NoNumber⟩ takes0
        (fun W pn xe tk _ => (pss_one (ps_expr (pe_deedS (i := 0) (l := [(He.ga K "mixed", sp_mixed K), (He.ga K "unmixed", sp_unmixed K)]) (.cons c_mixed (by decide) (.cons c_unmixed (by decide) .nil)) hr tk rfl (Or.inl rfl) (pa_cons (pv 1) (pa_cons (pv 2) pa_nil))))))
        (fun a oe cls d pn hz hf => (pss_one (ps_set (i := 3) sc__law_refused.nd rfl (Or.inl rfl) (pe_lst (pa_cons (pe_exf T.x_NoNumber T.a_NoNumber_found hz hf (pv 4)) (pa_cons (pe_callB (call_isD T.x_NoNumber hz hf) (by rfl) T.n_isinstance (by decide +kernel) (pa_cons (pv 4) (pa_cons (pe_glob (v := .ref (He.ga K "SeedError")) rfl T.g_SeedError rfl) pa_nil))) (pa_cons (pe_callB (call_isD T.x_NoNumber hz hf) (by rfl) T.n_isinstance (by decide +kernel) (pa_cons (pv 4) (pa_cons (pe_bltn (v := .ty "ValueError") (by rfl) T.n_ValueError (by decide +kernel) rfl) pa_nil))) (pa_cons (pe_callB (call_isD T.x_NoNumber hz hf) (by rfl) T.n_isinstance (by decide +kernel) (pa_cons (pv 4) (pa_cons (pe_glob (v := .ref (He.ga K "NoPlace")) rfl T.g_NoPlace rfl) pa_nil))) pa_nil)))))))))
      (pss_one (ps_ret (pv 3))))), ?_⟩
  rcases h with ⟨rfl, pa, pb, oa, oc, xs, bs, x, rfl, rfl, ha, hxa, hb, hxb, ht, hl, hn, hp, hm, k⟩ | ⟨rfl, p, o, bs, n, rfl, ho, hs, hp, hl, hn, hw, k⟩
  · simp only [and_assoc, rst, rs, re, ra, rq, rx, ro, rl, rl2, rsp, rz, rix, rln, rg, rd, rwi, at0, at1, at2, at3, upd_at, List.getElem?_cons_zero, List.getElem?_cons_succ, Option.some.injEq, exists_eq_left', exists_eq_left, List.set_cons_zero, List.set_cons_succ, true_and, and_true, HO.lst.injEq, HO.tup.injEq, exists_and_left, exists_eq, exists_eq', Br.t, Br.f, Be.t, Be.f, List.cons.injEq, List.append_nil, scal, if_true, if_false, ite_true, ite_false, eq_self_iff_true, decide_true, decide_false, Bool.not_true, Bool.not_false, reduceIte, List.nil_append, List.cons_append, reduceCtorEq, false_and, exists_false, false_or, or_false, Int.reduceLT]
    refine fun p0 h0 => ⟨_, .head _, _, _, rfl, pa, pb, oa, oc, xs, bs, rfl, rfl, Same.new h0 _ _ ha, hxa, Same.new h0 _ _ hb, hxb, ht, hl, fun x hx => ?_, hp, fun n en => (by rw [hm] at en; cases en), fun y ey H' d hs hd => ?_⟩
    · obtain ⟨n, en⟩ := hn x hx
      exact ⟨n, tyN_same (Same.new h0) en⟩
    · obtain rfl : x = y := by rw [hm] at ey; cases ey; rfl
      have sd : Same H (upd H' d (.xd [("found", x)])) := (Same.trans (Same.new h0) hs).trans (Same.new hd)
      refine ⟨true, T.exm_NoNumber_NoNumber, fun _ a ha => ?_, fun z => by cases z⟩
      simp only [and_assoc, rst, rs, re, ra, rq, rx, ro, rl, rl2, rsp, rz, rix, rln, rg, rd, rwi, at0, at1, at2, at3, upd_at, List.getElem?_cons_zero, List.getElem?_cons_succ, Option.some.injEq, exists_eq_left', exists_eq_left, List.set_cons_zero, List.set_cons_succ, true_and, and_true, HO.lst.injEq, HO.tup.injEq, exists_and_left, exists_eq, exists_eq', Br.t, Br.f, Be.t, Be.f, List.cons.injEq, List.append_nil, scal, if_true, if_false, ite_true, ite_false, eq_self_iff_true, decide_true, decide_false, Bool.not_true, Bool.not_false, reduceIte, List.nil_append, List.cons_append, reduceCtorEq, false_and, exists_false, false_or, or_false, Int.reduceLT]
      exact ⟨_, rfl, _, rfl, isD_ref upd_same T.kit_NoNumber_SeedError (isD_ty upd_same T.kit_NoNumber_ValueError (isD_ref upd_same T.kit_NoNumber_NoPlace fun q hq => k _ q (Same.mut sd (Same.free sd hq)) (Same.free sd hq) upd_same))⟩
  · simp only [and_assoc, rst, rs, re, ra, rq, rx, ro, rl, rl2, rsp, rz, rix, rln, rg, rd, rwi, at0, at1, at2, at3, upd_at, List.getElem?_cons_zero, List.getElem?_cons_succ, Option.some.injEq, exists_eq_left', exists_eq_left, List.set_cons_zero, List.set_cons_succ, true_and, and_true, HO.lst.injEq, HO.tup.injEq, exists_and_left, exists_eq, exists_eq', Br.t, Br.f, Be.t, Be.f, List.cons.injEq, List.append_nil, scal, if_true, if_false, ite_true, ite_false, eq_self_iff_true, decide_true, decide_false, Bool.not_true, Bool.not_false, reduceIte, List.nil_append, List.cons_append, reduceCtorEq, false_and, exists_false, false_or, or_false, Int.reduceLT]
    refine fun p0 h0 => ⟨_, .tail _ (.head _), _, _, rfl, p, o, bs, n, rfl, Same.new h0 _ _ ho, hs, hp, hl, tyN_same (Same.new h0) hn, fun i e i0 i1 => ?_, fun hw H' d hs hd => ?_⟩
    · subst e
      exact absurd hw (by simp [within]; omega)
    · have sd : Same H (upd H' d (.xd [("found", v1)])) := (Same.trans (Same.new h0) hs).trans (Same.new hd)
      refine ⟨true, T.exm_NoNumber_NoNumber, fun _ a ha => ?_, fun z => by cases z⟩
      simp only [and_assoc, rst, rs, re, ra, rq, rx, ro, rl, rl2, rsp, rz, rix, rln, rg, rd, rwi, at0, at1, at2, at3, upd_at, List.getElem?_cons_zero, List.getElem?_cons_succ, Option.some.injEq, exists_eq_left', exists_eq_left, List.set_cons_zero, List.set_cons_succ, true_and, and_true, HO.lst.injEq, HO.tup.injEq, exists_and_left, exists_eq, exists_eq', Br.t, Br.f, Be.t, Be.f, List.cons.injEq, List.append_nil, scal, if_true, if_false, ite_true, ite_false, eq_self_iff_true, decide_true, decide_false, Bool.not_true, Bool.not_false, reduceIte, List.nil_append, List.cons_append, reduceCtorEq, false_and, exists_false, false_or, or_false, Int.reduceLT]
      exact ⟨_, rfl, _, rfl, isD_ref upd_same T.kit_NoNumber_SeedError (isD_ty upd_same T.kit_NoNumber_ValueError (isD_ref upd_same T.kit_NoNumber_NoPlace fun q hq => k _ q (Same.mut sd (Same.free sd hq)) (Same.free sd hq) upd_same))⟩
theorem ok__law_due (T : Tx K mg)   : Cal P w K mg base 1 "_law_due" ["found", "thing"] (sp__law_due K) := by
  refine cal_mk T.F__law_due T.g__law_due sc__law_due (len2 _) (fun _ _ _ _ _ _ us hl => match us, hl with | [_, _], _ => rfl) (fun cdv A outer s H vs Q E hr h => ?_)
  obtain ⟨v0, v1, rfl, h⟩ := h
  have hu := hu_of hr
  refine ⟨_, (pss_cons (ps_if (PW.pt (pw_or (pt_cmpR op_ne (pe_callB len_q (by rfl) T.n_len (by decide +kernel) (pa_cons (pv 0) pa_nil)) pe_int (nomark _)) (pw_or1 (pt_cmpR (op_neD hr.units) (pe_slice sl_list (pv 0) (po_some pe_int) po_none) (pe_lst (pa_cons pe_bl (pa_cons pe_bl (pa_cons pe_bl pa_nil)))) (nomark _))))) (pss_one (ps_ret pe_bl)) pss_nil)
      (pss_one (ps_ret (pe_and (pe_cmpR (op_eqU hr.units) (pe_callB is_q (by rfl) T.n_isinstance (by decide +kernel) (pa_cons (pe_ix ix_q (pv 0) pe_int (fun _ _ => rfl)) (pa_cons (pe_bltn (v := .ty "bool") (by rfl) T.n_bool (by decide +kernel) rfl) pa_nil))) (pe_callB is_q (by rfl) T.n_isinstance (by decide +kernel) (pa_cons (pv 1) (pa_cons (pe_bltn (v := .ty "bool") (by rfl) T.n_bool (by decide +kernel) rfl) pa_nil))) (nomark _)) (pe_one (pe_cmpR (op_eqU hr.units) (pe_ix ix_q (pv 0) pe_int (fun _ _ => rfl)) (pv 1) (nomark _))))))), ?_⟩
  obtain ⟨p, rfl, hp, hx, q⟩ := h
  simp only [and_assoc, rst, rs, re, ra, rq, rx, ro, rl, rl2, rsp, rz, rix, rln, rg, rd, rwi, at0, at1, at2, at3, upd_at, List.getElem?_cons_zero, List.getElem?_cons_succ, Option.some.injEq, exists_eq_left', exists_eq_left, List.set_cons_zero, List.set_cons_succ, true_and, and_true, HO.lst.injEq, HO.tup.injEq, exists_and_left, exists_eq, exists_eq', Br.t, Br.f, Be.t, Be.f, List.cons.injEq, List.append_nil, scal, if_true, if_false, ite_true, ite_false, eq_self_iff_true, decide_true, decide_false, Bool.not_true, Bool.not_false, reduceIte, List.nil_append, List.cons_append, reduceCtorEq, false_and, exists_false, false_or, or_false, Int.reduceLT, hp]
  refine Be.of (fun e => absurd e (by simp)) fun _ => ?_
  refine ⟨_, _, rfl, SqL.of hp, fun p1 h1 => ?_⟩
  rw [show cutV [v1, .bl true, .bl true, .bl false] (some 1) none = [.bl true, .bl true, .bl false] from rfl]
  refine fun p2 h2 => ?_
  have s1 : Same H (upd (upd H p1 (.lst [.bl true, .bl true, .bl false])) p2 (.lst [.bl true, .bl true, .bl false])) := Same.trans (Same.new h1) (Same.new h2)
  obtain ⟨n, en⟩ := hx.ty
  refine ⟨_, _, .lst (SqL.of (by rw [upd_ne (ne_of_none upd_same h2)]; exact upd_same)) (.cons (.bl true) (.cons (.bl true) (.cons (.bl false) .nil))), .lst (SqL.of upd_same) (.cons (.bl true) (.cons (.bl true) (.cons (.bl false) .nil))), rfl, rfl, ?_⟩
  rw [SeqAt.eqv_refl _ rfl]
  have ib := isB_bool (tyN_same s1 en)
  have hp' := s1 _ _ hp
  have hx' := hx.same s1
  generalize upd (upd H p1 (.lst [.bl true, .bl true, .bl false])) p2 (.lst [.bl true, .bl true, .bl false]) = H2 at *
  simp only [and_assoc, rst, rs, re, ra, rq, rx, ro, rl, rl2, rsp, rz, rix, rln, rg, rd, rwi, at0, at1, at2, at3, upd_at, List.getElem?_cons_zero, List.getElem?_cons_succ, Option.some.injEq, exists_eq_left', exists_eq_left, List.set_cons_zero, List.set_cons_succ, true_and, and_true, HO.lst.injEq, HO.tup.injEq, exists_and_left, exists_eq, exists_eq', Br.t, Br.f, Be.t, Be.f, List.cons.injEq, List.append_nil, scal, if_true, if_false, ite_true, ite_false, eq_self_iff_true, decide_true, decide_false, Bool.not_true, Bool.not_false, reduceIte, List.nil_append, List.cons_append, reduceCtorEq, false_and, exists_false, false_or, or_false, Int.reduceLT, hp', ib]
  refine .inl ⟨_, _, .bl _, .bl _, by cases bool? v1 <;> rfl, by cases bool? v1 <;> rfl, ?_⟩
  rw [SeqAt.eqv_refl _ (by cases bool? v1 <;> rfl)]
  simp only [and_assoc, rst, rs, re, ra, rq, rx, ro, rl, rl2, rsp, rz, rix, rln, rg, rd, rwi, at0, at1, at2, at3, upd_at, List.getElem?_cons_zero, List.getElem?_cons_succ, Option.some.injEq, exists_eq_left', exists_eq_left, List.set_cons_zero, List.set_cons_succ, true_and, and_true, HO.lst.injEq, HO.tup.injEq, exists_and_left, exists_eq, exists_eq', Br.t, Br.f, Be.t, Be.f, List.cons.injEq, List.append_nil, scal, if_true, if_false, ite_true, ite_false, eq_self_iff_true, decide_true, decide_false, Bool.not_true, Bool.not_false, reduceIte, List.nil_append, List.cons_append, reduceCtorEq, false_and, exists_false, false_or, or_false, Int.reduceLT, hp']
  exact Plain.eq hx' (q _ s1)
theorem ok__law_bad (T : Tx K mg) (c__law_take : Cal P w K mg base 1 "_law_take" ["box", "many"] (sp__law_take K))  : Cal P w K mg base 2 "_law_bad" ["box", "base"] (sp__law_bad K) := by
  refine cal_mk T.F__law_bad T.g__law_bad sc__law_bad (len2 _) (fun _ _ _ _ _ _ us hl => match us, hl with | [_, _], _ => rfl) (fun cdv A outer s H vs Q E hr h => ?_)
  obtain ⟨v0, v1, rfl, h⟩ := h
  have hu := hu_of hr
  refine ⟨_, (pss_cons (ps_set (i := 2) sc__law_bad.nd rfl (Or.inl rfl) (pe_lst (pa_cons (pv 1) (pa_cons (pe_op op_add (pv 1) (pe_cal c__law_take hr (by decide) passL rfl (pa_cons (pv 0) (pa_cons (pe_op op_pow pe_int pe_int) pa_nil)))) (pa_cons (pe_un un_neg pe_int) (pa_cons (pe_op op_sub (pe_un un_neg pe_int) (pe_cal c__law_take hr (by decide) passL rfl (pa_cons (pv 0) (pa_cons (pe_op op_pow pe_int pe_int) pa_nil)))) (pa_cons pe_bl (pa_cons pe_bl (pa_cons pe_non pa_nil)))))))))
      (pss_one (ps_ret (pe_ix ix_q (pe_op op_cat (pv 2) (pe_lst (pa_cons pe_str (pa_cons (pe_lst (pa_cons pe_int pa_nil)) (pa_cons (pe_tup (pa_cons pe_int pa_nil)) (pa_cons pe_dnewK pa_nil)))))) (pe_cal c__law_take hr (by decide) passL rfl (pa_cons (pv 0) (pa_cons pe_int pa_nil))) (fun _ _ => rfl))))), ?_⟩
  obtain ⟨p, n, rfl, hb, rfl, hn, q⟩ := h
  obtain ⟨x0, x1, x2, hb⟩ := hb
  simp only [and_assoc, rst, rs, re, ra, rq, rx, ro, rl, rl2, rsp, rz, rix, rln, rg, rd, rwi, at0, at1, at2, at3, upd_at, List.getElem?_cons_zero, List.getElem?_cons_succ, Option.some.injEq, exists_eq_left', exists_eq_left, List.set_cons_zero, List.set_cons_succ, true_and, and_true, HO.lst.injEq, HO.tup.injEq, exists_and_left, exists_eq, exists_eq', Br.t, Br.f, Be.t, Be.f, List.cons.injEq, List.append_nil, scal, if_true, if_false, ite_true, ite_false, eq_self_iff_true, decide_true, decide_false, Bool.not_true, Bool.not_false, reduceIte, List.nil_append, List.cons_append, reduceCtorEq, false_and, exists_false, false_or, or_false, Int.reduceLT]
  refine ⟨⟨by decide, by decide, by decide⟩, _, _, rfl, p, _, _, _, _, rfl, hb, rfl, by decide, by decide, fun r1 y0 y1 y2 _ _ => ?_⟩
  simp only [and_assoc, rst, rs, re, ra, rq, rx, ro, rl, rl2, rsp, rz, rix, rln, rg, rd, rwi, at0, at1, at2, at3, upd_at, List.getElem?_cons_zero, List.getElem?_cons_succ, Option.some.injEq, exists_eq_left', exists_eq_left, List.set_cons_zero, List.set_cons_succ, true_and, and_true, HO.lst.injEq, HO.tup.injEq, exists_and_left, exists_eq, exists_eq', Br.t, Br.f, Be.t, Be.f, List.cons.injEq, List.append_nil, scal, if_true, if_false, ite_true, ite_false, eq_self_iff_true, decide_true, decide_false, Bool.not_true, Bool.not_false, reduceIte, List.nil_append, List.cons_append, reduceCtorEq, false_and, exists_false, false_or, or_false, Int.reduceLT]
  refine ⟨⟨by decide, by decide, by decide⟩, _, _, rfl, p, _, _, _, _, rfl, upd_same, rfl, by decide, by decide, fun r2 z0 z1 z2 _ _ => ?_⟩
  simp only [and_assoc, rst, rs, re, ra, rq, rx, ro, rl, rl2, rsp, rz, rix, rln, rg, rd, rwi, at0, at1, at2, at3, upd_at, List.getElem?_cons_zero, List.getElem?_cons_succ, Option.some.injEq, exists_eq_left', exists_eq_left, List.set_cons_zero, List.set_cons_succ, true_and, and_true, HO.lst.injEq, HO.tup.injEq, exists_and_left, exists_eq, exists_eq', Br.t, Br.f, Be.t, Be.f, List.cons.injEq, List.append_nil, scal, if_true, if_false, ite_true, ite_false, eq_self_iff_true, decide_true, decide_false, Bool.not_true, Bool.not_false, reduceIte, List.nil_append, List.cons_append, reduceCtorEq, false_and, exists_false, false_or, or_false, Int.reduceLT]
  refine fun p1 h1 p2 h2 p3 h3 p4 h4 p5 h5 => ?_
  obtain ⟨n1, k1⟩ := ite_none h1
  obtain ⟨_, k1⟩ := ite_none k1
  obtain ⟨n21, k2⟩ := ite_none h2
  obtain ⟨n2, k2⟩ := ite_none k2
  obtain ⟨_, k2⟩ := ite_none k2
  obtain ⟨n32, k3⟩ := ite_none h3
  obtain ⟨n31, k3⟩ := ite_none k3
  obtain ⟨n3, k3⟩ := ite_none k3
  obtain ⟨_, k3⟩ := ite_none k3
  obtain ⟨n43, k4⟩ := ite_none h4
  obtain ⟨n42, k4⟩ := ite_none k4
  obtain ⟨n41, k4⟩ := ite_none k4
  obtain ⟨n4, k4⟩ := ite_none k4
  obtain ⟨_, k4⟩ := ite_none k4
  obtain ⟨n54, k5⟩ := ite_none h5
  obtain ⟨n53, k5⟩ := ite_none k5
  obtain ⟨n52, k5⟩ := ite_none k5
  obtain ⟨n51, k5⟩ := ite_none k5
  obtain ⟨n5, k5⟩ := ite_none k5
  obtain ⟨_, k5⟩ := ite_none k5
  clear h1 h2 h3 h4 h5
  have m1 := Ne.symm n1
  have m2 := Ne.symm n2
  have m3 := Ne.symm n3
  have m4 := Ne.symm n4
  have m5 := Ne.symm n5
  have m21 := Ne.symm n21
  have m32 := Ne.symm n32
  have m31 := Ne.symm n31
  have m43 := Ne.symm n43
  have m42 := Ne.symm n42
  have m41 := Ne.symm n41
  have m54 := Ne.symm n54
  have m53 := Ne.symm n53
  have m52 := Ne.symm n52
  have m51 := Ne.symm n51
  generalize hG : upd (upd (upd (upd (upd (upd (upd H p (HO.lst [V.int y0, V.int y1, V.int y2])) p (HO.lst [V.int z0, V.int z1, V.int z2])) p1 (HO.lst [V.int n, V.int (n + r1), V.int (-1), V.int (-1 - r2), V.bl true, V.bl false, V.non])) p2 (HO.lst [V.int 0])) p3 (HO.tup [V.int 0])) p4 (HO.dK [])) p5 (HO.lst [V.str (Str.ofString "0"), V.ref p2, V.ref p3, V.ref p4]) = H5
  have gp : H5 p = some (.lst [.int z0, .int z1, .int z2]) := by rw [← hG]; simp only [upd_at, if_neg m1, if_neg m2, if_neg m3, if_neg m4, if_neg m5, if_true]
  have g1 : H5 p1 = some (.lst [V.int n, V.int (n + r1), V.int (-1), V.int (-1 - r2), V.bl true, V.bl false, V.non]) := by rw [← hG]; simp only [upd_at, if_neg m21, if_neg m31, if_neg m41, if_neg m51, if_true]
  have g2 : H5 p2 = some (.lst [V.int 0]) := by rw [← hG]; simp only [upd_at, if_neg m32, if_neg m42, if_neg m52, if_true]
  have g3 : H5 p3 = some (.tup [V.int 0]) := by rw [← hG]; simp only [upd_at, if_neg m43, if_neg m53, if_true]
  have g4 : H5 p4 = some (.dK []) := by rw [← hG]; simp only [upd_at, if_neg m54, if_true]
  have g5 : H5 p5 = some (.lst [V.str (Str.ofString "0"), V.ref p2, V.ref p3, V.ref p4]) := by rw [← hG]; exact upd_same
  have gb : But p H H5 := fun a o ha ho => by
    have a1 := ne_of_none ho k1
    have a2 := ne_of_none ho k2
    have a3 := ne_of_none ho k3
    have a4 := ne_of_none ho k4
    have a5 := ne_of_none ho k5
    rw [← hG]
    simp only [upd_at, if_neg a1, if_neg a2, if_neg a3, if_neg a4, if_neg a5, if_neg ha, ho]
  clear hG
  refine ⟨p1, p5, _, _, rfl, rfl, g1, g5, by rw [sizeLine_eq]; exact (by decide : 7 + 4 ≤ 16777216), fun p6 h6 => ?_⟩
  have n6 : p ≠ p6 := ne_of_none gp h6
  refine ⟨_, _, rfl, p, _, _, _, _, rfl, by rw [upd_ne n6]; exact gp, rfl, by decide, by decide, fun r w0 w1 w2 e0 e1 => ?_⟩
  have e6 : upd (upd H5 p6 (.lst ([V.int n, V.int (n + r1), V.int (-1), V.int (-1 - r2), V.bl true, V.bl false, V.non] ++ [V.str (Str.ofString "0"), V.ref p2, V.ref p3, V.ref p4]))) p (.lst [.int w0, .int w1, .int w2]) p6 = some (.lst [V.int n, V.int (n + r1), V.int (-1), V.int (-1 - r2), V.bl true, V.bl false, V.non, V.str (Str.ofString "0"), V.ref p2, V.ref p3, V.ref p4]) := by
    rw [upd_ne n6.symm]
    exact upd_same
  refine ⟨p6, rfl, _, e6, _, rfl, r, rfl, ?_⟩
  have gH : ∀ a o, a ≠ p → H5 a = some o → upd (upd H5 p6 (.lst ([V.int n, V.int (n + r1), V.int (-1), V.int (-1 - r2), V.bl true, V.bl false, V.non] ++ [V.str (Str.ofString "0"), V.ref p2, V.ref p3, V.ref p4]))) p (.lst [.int w0, .int w1, .int w2]) a = some o := fun a o ha ho => by
    rw [upd_ne ha, upd_ne (ne_of_none ho h6)]
    exact ho
  have qq := fun v => q v (upd (upd H5 p6 (.lst ([V.int n, V.int (n + r1), V.int (-1), V.int (-1 - r2), V.bl true, V.bl false, V.non] ++ [V.str (Str.ofString "0"), V.ref p2, V.ref p3, V.ref p4]))) p (.lst [.int w0, .int w1, .int w2])) (fun a o ha ho => gH a o ha (gb a o ha ho)) ⟨w0, w1, w2, upd_same⟩
  replace g2 := gH _ _ n2 g2
  replace g3 := gH _ _ n3 g3
  replace g4 := gH _ _ n4 g4
  obtain h | h | h | h | h | h | h | h | h | h | h : r = 0 ∨ r = 1 ∨ r = 2 ∨ r = 3 ∨ r = 4 ∨ r = 5 ∨ r = 6 ∨ r = 7 ∨ r = 8 ∨ r = 9 ∨ r = 10 := by omega
  all_goals subst h
  · exact ⟨_, rfl, qq _ True.intro (by simp [within]; try omega) fun _ z => by cases z⟩
  · exact ⟨_, rfl, qq _ True.intro (by simp [within]; try omega) fun _ z => by cases z⟩
  · exact ⟨_, rfl, qq _ True.intro (by simp [within]; try omega) fun _ z => by cases z⟩
  · exact ⟨_, rfl, qq _ True.intro (by simp [within]; try omega) fun _ z => by cases z⟩
  · exact ⟨_, rfl, qq _ True.intro rfl fun _ z => by cases z⟩
  · exact ⟨_, rfl, qq _ True.intro rfl fun _ z => by cases z⟩
  · exact ⟨_, rfl, qq _ True.intro rfl fun _ z => by cases z⟩
  · exact ⟨_, rfl, qq _ True.intro rfl fun _ z => by cases z⟩
  · exact ⟨_, rfl, qq _ (.inl ⟨[0], g2, by decide⟩) rfl fun _ z => by cases z; exact k2⟩
  · exact ⟨_, rfl, qq _ (.inr (.inl ⟨[0], g3, by decide⟩)) rfl fun _ z => by cases z; exact k3⟩
  · exact ⟨_, rfl, qq _ (.inr (.inr g4)) rfl fun _ z => by cases z; exact k4⟩
theorem ok__law_back (T : Tx K mg) (c_unmixed : Cal P w K mg base 4 "unmixed" ["number", "bases"] (sp_unmixed K)) (c__law_whole : Cal P w K mg base 1 "_law_whole" ["found", "due"] (sp__law_whole K))  : Cal P w K mg base 5 "_law_back" ["number", "bases", "numbers"] (sp__law_back K) := by
  refine cal_mk T.F__law_back T.g__law_back sc__law_back (len3 _) (fun _ _ _ _ _ _ us hl => match us, hl with | [_, _, _], _ => rfl) (fun cdv A outer s H vs Q E hr h => ?_)
  obtain ⟨v0, v1, v2, rfl, h⟩ := h
  have hu := hu_of hr
  refine ⟨_, (pss_cons (ps_set (i := 3) sc__law_back.nd rfl (Or.inr rfl) (pe_cal c_unmixed hr (by decide) passL rfl (pa_cons (pv 0) (pa_cons (pv 1) pa_nil))))
      (pss_cons (ps_if (PW.pt (pw_or (pt_not (pt_val (pe_callB is_q (by rfl) T.n_isinstance (by decide +kernel) (pa_cons (pv 3) (pa_cons (pe_bltn (v := .ty "list") (by rfl) T.n_list (by decide +kernel) rfl) pa_nil))))) (pw_or1 (pt_cmpR op_ne (pe_callB len_q (by rfl) T.n_len (by decide +kernel) (pa_cons (pv 3) pa_nil)) (pe_callB len_q (by rfl) T.n_len (by decide +kernel) (pa_cons (pv 2) pa_nil)) (nomark _))))) (pss_one (ps_ret pe_bl)) pss_nil)
      (pss_cons (ps_if (pt_cmpR (op_neD hr.units) (pe_lc (own := [("k", 4)]) (g := (gName 4)) rfl sc__law_back.nd (pi_range1 (by rfl) T.n_range (pa_cons (pe_callB len_q (by rfl) T.n_len (by decide +kernel) (pa_cons (pv 3) pa_nil)) pa_nil)) (blkOk_by (N := nm__law_back) (sc := defScope s__law_back) (by decide +kernel)) (fun _ _ _ _ _ => (pg_name (i := 4) sc__law_back.nd rfl (Or.inl rfl))) (fun _ _ _ _ _ => (pts_one (pt_not (pt_val (pe_cal c__law_whole hr (by decide) passL rfl (pa_cons (pe_ix ix_q (pv 3) (pv 4) (fun _ _ => rfl)) (pa_cons (pe_ix ix_q (pv 2) (pv 4) (fun _ _ => rfl)) pa_nil))))))) (fun _ _ _ _ _ => (pv 4))) (pe_lst pa_nil) (nomark _)) (pss_one (ps_ret pe_bl)) pss_nil)
      (pss_cons (ps_expr (pe_ml0 PySem.F.slot_list_clear PySem.F.type_list_clear mt_clear (pv 3)))
      (pss_one (ps_ret (pe_cmpR (op_eqD hr.units) (pe_cal c_unmixed hr (by decide) passL rfl (pa_cons (pv 0) (pa_cons (pe_callTy tup_q (by rfl) T.n_tuple (by decide +kernel) (pa_cons (pv 1) pa_nil)) pa_nil))) (pv 2) (nomark _)))))))), ?_⟩
  obtain ⟨pb, pt, bs, ns, rfl, rfl, hb, rfl, ht, hi, hp, hl, q⟩ := h
  have vl := val_lt hi.rev
  rw [prod_rev] at vl
  simp only [and_assoc, rst, rs, re, ra, rq, rx, ro, rl, rl2, rsp, rz, rix, rln, rg, rd, rwi, at0, at1, at2, at3, upd_at, List.getElem?_cons_zero, List.getElem?_cons_succ, Option.some.injEq, exists_eq_left', exists_eq_left, List.set_cons_zero, List.set_cons_succ, true_and, and_true, HO.lst.injEq, HO.tup.injEq, exists_and_left, exists_eq, exists_eq', Br.t, Br.f, Be.t, Be.f, List.cons.injEq, List.append_nil, scal, if_true, if_false, ite_true, ite_false, eq_self_iff_true, decide_true, decide_false, Bool.not_true, Bool.not_false, reduceIte, List.nil_append, List.cons_append, reduceCtorEq, false_and, exists_false, false_or, or_false, Int.reduceLT]
  refine ⟨_, _, rfl, pb, _, bs, "int", rfl, hb, rfl, hp, hl, rfl, fun i e i0 i1 H' q' hs hq hq' => ?_, fun e => ?_⟩
  · cases e
    rw [digs_val hi.rev, List.reverse_reverse] at hq'
    refine ⟨_, isB_list hq', Be.of (fun e => by cases e) fun _ => ⟨_, rfl, _, hq', _, rfl, _, hs _ _ ht, _, rfl, ?_⟩⟩
    refine Br.of (fun e => absurd e (by simp)) fun _ => ?_
    simp only [and_assoc, rst, rs, re, ra, rq, rx, ro, rl, rl2, rsp, rz, rix, rln, rg, rd, rwi, at0, at1, at2, at3, upd_at, List.getElem?_cons_zero, List.getElem?_cons_succ, Option.some.injEq, exists_eq_left', exists_eq_left, List.set_cons_zero, List.set_cons_succ, true_and, and_true, HO.lst.injEq, HO.tup.injEq, exists_and_left, exists_eq, exists_eq', Br.t, Br.f, Be.t, Be.f, List.cons.injEq, List.append_nil, scal, if_true, if_false, ite_true, ite_false, eq_self_iff_true, decide_true, decide_false, Bool.not_true, Bool.not_false, reduceIte, List.nil_append, List.cons_append, reduceCtorEq, false_and, exists_false, false_or, or_false, Int.reduceLT, hq']
    refine ⟨by omega, by have := hi.len; rw [List.length_map]; omega, LC.rng (fun D i H2 => Same H' H2 ∧ H2 D = some (.lst [])) (fun D hD => ⟨Same.new hD, upd_same⟩) ?_ ?_⟩
    · rintro D i H2 hD hi2 ⟨s2, h2⟩
      simp only [and_assoc, rst, rs, re, ra, rq, rx, ro, rl, rl2, rsp, rz, rix, rln, rg, rd, rwi, at0, at1, at2, at3, upd_at, List.getElem?_cons_zero, List.getElem?_cons_succ, Option.some.injEq, exists_eq_left', exists_eq_left, List.set_cons_zero, List.set_cons_succ, true_and, and_true, HO.lst.injEq, HO.tup.injEq, exists_and_left, exists_eq, exists_eq', Br.t, Br.f, Be.t, Be.f, List.cons.injEq, List.append_nil, scal, if_true, if_false, ite_true, ite_false, eq_self_iff_true, decide_true, decide_false, Bool.not_true, Bool.not_false, reduceIte, List.nil_append, List.cons_append, reduceCtorEq, false_and, exists_false, false_or, or_false, Int.reduceLT, s2 _ _ hq', s2 _ _ (hs _ _ ht)]
      have hi2' : i < ns.length := by simpa using hi2
      have ea : atI (List.map V.int ns) (0 + (i : Int)) = some (.int ns[i]) := by
        rw [Int.zero_add]
        exact atI_nat (by rw [List.getElem?_map, List.getElem?_eq_getElem hi2']; rfl)
      refine ⟨_, ea, _, ea, _, _, rfl, _, _, rfl, rfl, ?_⟩
      rw [decide_eq_true rfl]
      simp only [and_assoc, rst, rs, re, ra, rq, rx, ro, rl, rl2, rsp, rz, rix, rln, rg, rd, rwi, at0, at1, at2, at3, upd_at, List.getElem?_cons_zero, List.getElem?_cons_succ, Option.some.injEq, exists_eq_left', exists_eq_left, List.set_cons_zero, List.set_cons_succ, true_and, and_true, HO.lst.injEq, HO.tup.injEq, exists_and_left, exists_eq, exists_eq', Br.t, Br.f, Be.t, Be.f, List.cons.injEq, List.append_nil, scal, if_true, if_false, ite_true, ite_false, eq_self_iff_true, decide_true, decide_false, Bool.not_true, Bool.not_false, reduceIte, List.nil_append, List.cons_append, reduceCtorEq, false_and, exists_false, false_or, or_false, Int.reduceLT]
      exact ⟨s2, h2⟩
    · rintro D H2 hD ⟨s2, h2⟩
      refine fun p5 h5 => ne_ints (ns := []) (ms := []) (SqL.of (Same.new h5 _ _ h2)) (SqL.of upd_same) ?_
      have s5 : Same H' (upd H2 p5 (.lst [])) := Same.mut s2 (Same.free s2 h5)
      have q5 := s5 _ _ hq'
      have b5 := s5 _ _ (hs _ _ hb)
      have t5 := s5 _ _ (hs _ _ ht)
      have z5 : Same H (upd H2 p5 (.lst [])) := Same.trans hs s5
      have nb : pb ≠ q' := ne_of_none hb hq
      have nt : pt ≠ q' := ne_of_none ht hq
      rw [show (List.map V.int ([] : List Int)) = [] from rfl]
      generalize upd H2 p5 (.lst []) = H5 at *
      simp only [and_assoc, rst, rs, re, ra, rq, rx, ro, rl, rl2, rsp, rz, rix, rln, rg, rd, rwi, at0, at1, at2, at3, upd_at, List.getElem?_cons_zero, List.getElem?_cons_succ, Option.some.injEq, exists_eq_left', exists_eq_left, List.set_cons_zero, List.set_cons_succ, true_and, and_true, HO.lst.injEq, HO.tup.injEq, exists_and_left, exists_eq, exists_eq', Br.t, Br.f, Be.t, Be.f, List.cons.injEq, List.append_nil, scal, if_true, if_false, ite_true, ite_false, eq_self_iff_true, decide_true, decide_false, Bool.not_true, Bool.not_false, reduceIte, List.nil_append, List.cons_append, reduceCtorEq, false_and, exists_false, false_or, or_false, Int.reduceLT, q5, b5, if_neg nb]
      refine fun l hl => ?_
      have hl0 : H l = none := by
        obtain ⟨_, hl⟩ := ite_none hl
        exact Same.free z5 hl
      have nl : pt ≠ l := ne_of_none ht hl0
      refine ⟨_, _, rfl, l, _, bs, "int", rfl, upd_same, rfl, hp, by omega, rfl, fun i e i0 i1 H6 q6 h6 hq6 hq6' => ?_, fun e => ?_⟩
      · cases e
        rw [digs_val hi.rev, List.reverse_reverse] at hq6'
        have t6 := h6 _ _ (show upd (upd H5 q' (.lst [])) l (.tup (List.map V.int bs)) pt = _ by rw [upd_ne nl, upd_ne nt]; exact t5)
        refine eq_ints (SqL.of hq6') (SqL.of t6) ?_
        rw [decide_eq_true rfl]
        refine q _ fun a o ha => h6 _ _ ?_
        rw [upd_ne (ne_of_none ha hl0), upd_ne (ne_of_none ha hq)]
        exact z5 _ _ ha
      · exact absurd e (by simp [within]; omega)
  · exact absurd e (by simp [within]; omega)
theorem ok__law_spoilt (T : Tx K mg) (c_mixed : Cal P w K mg base 4 "mixed" ["numbers", "bases"] (sp_mixed K)) (c__law_take : Cal P w K mg base 1 "_law_take" ["box", "many"] (sp__law_take K)) (c__law_refused : Cal P w K mg base 5 "_law_refused" ["deed", "thing", "sizes"] (sp__law_refused K)) (c__law_due : Cal P w K mg base 1 "_law_due" ["found", "thing"] (sp__law_due K)) (c__law_bad : Cal P w K mg base 2 "_law_bad" ["box", "base"] (sp__law_bad K))  : Cal P w K mg base 6 "_law_spoilt" ["box", "numbers", "bases"] (sp__law_spoilt K) := by
  refine cal_mk T.F__law_spoilt T.g__law_spoilt sc__law_spoilt (len3 _) (fun _ _ _ _ _ _ us hl => match us, hl with | [_, _, _], _ => rfl) (fun cdv A outer s H vs Q E hr h => ?_)
  obtain ⟨v0, v1, v2, rfl, h⟩ := h
  have hu := hu_of hr
  refine ⟨_, (pss_cons (ps_set (i := 3) sc__law_spoilt.nd rfl (Or.inl rfl) (pe_cal c__law_take hr (by decide) passL rfl (pa_cons (pv 0) (pa_cons (pe_callB len_q (by rfl) T.n_len (by decide +kernel) (pa_cons (pv 1) pa_nil)) pa_nil))))
      (pss_cons (ps_set (i := 4) sc__law_spoilt.nd rfl (Or.inl rfl) (pe_cal c__law_take hr (by decide) passL rfl (pa_cons (pv 0) (pa_cons (pe_callB len_q (by rfl) T.n_len (by decide +kernel) (pa_cons (pv 1) pa_nil)) pa_nil))))
      (pss_cons (ps_set (i := 5) sc__law_spoilt.nd rfl (Or.inl rfl) (pe_callTy lst_q (by rfl) T.n_list (by decide +kernel) (pa_cons (pv 1) pa_nil)))
      (pss_cons (ps_asg (pe_cal c__law_bad hr (by decide) passL rfl (pa_cons (pv 0) (pa_cons (pe_ix ix_q (pv 2) (pe_callB (call_max2 rfl) (by rfl) T.n_max (by decide +kernel) (pa_cons (pv 3) (pa_cons (pv 4) pa_nil))) (fun _ _ => rfl)) pa_nil))) (pg_sub (pv 5) (pe_callB (call_max2 rfl) (by rfl) T.n_max (by decide +kernel) (pa_cons (pv 3) (pa_cons (pv 4) pa_nil))) set_list))
      (pss_cons (ps_asg (pe_cal c__law_bad hr (by decide) passL rfl (pa_cons (pv 0) (pa_cons (pe_ix ix_q (pv 2) (pe_callB (call_min2 rfl) (by rfl) T.n_min (by decide +kernel) (pa_cons (pv 3) (pa_cons (pv 4) pa_nil))) (fun _ _ => rfl)) pa_nil))) (pg_sub (pv 5) (pe_callB (call_min2 rfl) (by rfl) T.n_min (by decide +kernel) (pa_cons (pv 3) (pa_cons (pv 4) pa_nil))) set_list))
      (pss_cons (ps_set (i := 6) sc__law_spoilt.nd rfl (Or.inl rfl) (pe_callTy lst_q (by rfl) T.n_list (by decide +kernel) (pa_cons (pv 5) pa_nil)))
      (pss_one (ps_ret (pe_and (pe_cal c__law_due hr (by decide) passL rfl (pa_cons (pe_cal c__law_refused hr (by decide) passL rfl (pa_cons (pe_glob (v := .ref (He.ga K "mixed")) rfl T.g_mixed rfl) (pa_cons (pv 5) (pa_cons (pv 2) pa_nil)))) (pa_cons (pe_ix ix_q (pv 5) (pe_callB (call_min2 rfl) (by rfl) T.n_min (by decide +kernel) (pa_cons (pv 3) (pa_cons (pv 4) pa_nil))) (fun _ _ => rfl)) pa_nil))) (pe_one (pe_cmpR (op_eqU hr.units) (pv 5) (pv 6) (nomark _)))))))))))), ?_⟩
  obtain ⟨p, pn, pb, ns, bs, rfl, hbox, rfl, hn, rfl, hb, np, nb, hi, hp, hne, hl, q⟩ := h
  obtain ⟨x0, x1, x2, hbox⟩ := hbox
  have l0 : 0 < ns.length := List.length_pos_iff.mpr hne
  have lb := hi.len
  simp only [and_assoc, rst, rs, re, ra, rq, rx, ro, rl, rl2, rsp, rz, rix, rln, rg, rd, rwi, at0, at1, at2, at3, upd_at, List.getElem?_cons_zero, List.getElem?_cons_succ, Option.some.injEq, exists_eq_left', exists_eq_left, List.set_cons_zero, List.set_cons_succ, true_and, and_true, HO.lst.injEq, HO.tup.injEq, exists_and_left, exists_eq, exists_eq', Br.t, Br.f, Be.t, Be.f, List.cons.injEq, List.append_nil, scal, if_true, if_false, ite_true, ite_false, eq_self_iff_true, decide_true, decide_false, Bool.not_true, Bool.not_false, reduceIte, List.nil_append, List.cons_append, reduceCtorEq, false_and, exists_false, false_or, or_false, Int.reduceLT, hn]
  refine ⟨_, _, rfl, p, _, _, _, _, rfl, hbox, rfl, by rw [List.length_map]; omega, by rw [List.length_map]; omega, fun r1 y0 y1 y2 r10 r11 => ?_⟩
  have e1 : upd H p (.lst [.int y0, .int y1, .int y2]) pn = some (.lst (ns.map V.int)) := by rw [upd_ne np]; exact hn
  simp only [and_assoc, rst, rs, re, ra, rq, rx, ro, rl, rl2, rsp, rz, rix, rln, rg, rd, rwi, at0, at1, at2, at3, upd_at, List.getElem?_cons_zero, List.getElem?_cons_succ, Option.some.injEq, exists_eq_left', exists_eq_left, List.set_cons_zero, List.set_cons_succ, true_and, and_true, HO.lst.injEq, HO.tup.injEq, exists_and_left, exists_eq, exists_eq', Br.t, Br.f, Be.t, Be.f, List.cons.injEq, List.append_nil, scal, if_true, if_false, ite_true, ite_false, eq_self_iff_true, decide_true, decide_false, Bool.not_true, Bool.not_false, reduceIte, List.nil_append, List.cons_append, reduceCtorEq, false_and, exists_false, false_or, or_false, Int.reduceLT, if_neg np, hn]
  refine ⟨_, _, rfl, p, _, _, _, _, rfl, upd_same, rfl, by rw [List.length_map]; omega, by rw [List.length_map]; omega, fun r2 z0 z1 z2 r20 r21 => ?_⟩
  rw [List.length_map] at r11 r21
  have B2 : But p H (upd (upd H p (.lst [.int y0, .int y1, .int y2])) p (.lst [.int z0, .int z1, .int z2])) := fun a o ha ho => by rw [upd_ne ha, upd_ne ha]; exact ho
  have X2 : upd (upd H p (.lst [.int y0, .int y1, .int y2])) p (.lst [.int z0, .int z1, .int z2]) p = some (.lst [.int z0, .int z1, .int z2]) := upd_same
  generalize upd (upd H p (.lst [.int y0, .int y1, .int y2])) p (.lst [.int z0, .int z1, .int z2]) = H2 at *
  have hn2 := B2 _ _ np hn
  have hb2 := B2 _ _ nb hb
  simp only [and_assoc, rst, rs, re, ra, rq, rx, ro, rl, rl2, rsp, rz, rix, rln, rg, rd, rwi, at0, at1, at2, at3, upd_at, List.getElem?_cons_zero, List.getElem?_cons_succ, Option.some.injEq, exists_eq_left', exists_eq_left, List.set_cons_zero, List.set_cons_succ, true_and, and_true, HO.lst.injEq, HO.tup.injEq, exists_and_left, exists_eq, exists_eq', Br.t, Br.f, Be.t, Be.f, List.cons.injEq, List.append_nil, scal, if_true, if_false, ite_true, ite_false, eq_self_iff_true, decide_true, decide_false, Bool.not_true, Bool.not_false, reduceIte, List.nil_append, List.cons_append, reduceCtorEq, false_and, exists_false, false_or, or_false, Int.reduceLT, hn2]
  refine fun l hl => ?_
  have nbl := ne_of_none hb2 hl
  have npl := ne_of_none X2 hl
  simp only [and_assoc, rst, rs, re, ra, rq, rx, ro, rl, rl2, rsp, rz, rix, rln, rg, rd, rwi, at0, at1, at2, at3, upd_at, List.getElem?_cons_zero, List.getElem?_cons_succ, Option.some.injEq, exists_eq_left', exists_eq_left, List.set_cons_zero, List.set_cons_succ, true_and, and_true, HO.lst.injEq, HO.tup.injEq, exists_and_left, exists_eq, exists_eq', Br.t, Br.f, Be.t, Be.f, List.cons.injEq, List.append_nil, scal, if_true, if_false, ite_true, ite_false, eq_self_iff_true, decide_true, decide_false, Bool.not_true, Bool.not_false, reduceIte, List.nil_append, List.cons_append, reduceCtorEq, false_and, exists_false, false_or, or_false, Int.reduceLT, if_neg nbl, hb2]
  obtain ⟨a, ea, la⟩ : ∃ a : Nat, (if r2 > r1 then r2 else r1) = (a : Int) ∧ a < ns.length := ⟨(if r2 > r1 then r2 else r1).toNat, by split <;> omega, by split <;> omega⟩
  obtain ⟨m, em, lm⟩ : ∃ m : Nat, (if r2 < r1 then r2 else r1) = (m : Int) ∧ m < ns.length := ⟨(if r2 < r1 then r2 else r1).toNat, by split <;> omega, by split <;> omega⟩
  have hma : m ≤ a := by
    by_cases c : r2 > r1
    · rw [if_pos c] at ea
      rw [if_neg (by omega)] at em
      omega
    · rw [if_neg c] at ea
      split at em <;> omega
  rw [ea, em]
  obtain ⟨ba, eba⟩ : ∃ x, bs[a]? = some x := ⟨_, List.getElem?_eq_getElem (by omega)⟩
  obtain ⟨bm, ebm⟩ : ∃ x, bs[m]? = some x := ⟨_, List.getElem?_eq_getElem (by omega)⟩
  have pba := hp _ (List.mem_of_getElem? eba)
  have pbm := hp _ (List.mem_of_getElem? ebm)
  refine ⟨.int ba, atI_nat (by rw [List.getElem?_map, eba]; rfl), _, _, rfl, p, ba, rfl, ⟨_, _, _, by rw [upd_ne npl]; exact X2⟩, rfl, pba.1, fun v1 H3 u3 X3 P3 _ f3 => ?_⟩
  have l3 : H3 l = some (.lst (ns.map V.int)) := u3 _ _ npl.symm upd_same
  have b3 : H3 pb = some (.lst (bs.map V.int)) := u3 _ _ nb (by rw [upd_ne nbl]; exact hb2)
  have k3 : But p H H3 := fun q o hq ho => u3 _ _ hq (by rw [upd_ne (ne_of_none (B2 _ _ hq ho) hl)]; exact B2 _ _ hq ho)
  have v13 : ∀ q, v1 = .ref q → q ≠ l ∧ q ≠ p := fun q e => by
    have z := f3 q e
    exact ⟨fun z2 => (by rw [z2, upd_same] at z; cases z), fun z2 => (by rw [z2, upd_ne npl, X2] at z; cases z)⟩
  clear u3 f3
  refine ⟨_, l3, a, ixN_nat (by rw [List.length_map]; exact la), ?_⟩
  have b4 : upd H3 l (.lst ((ns.map V.int).set a v1)) pb = some (.lst (bs.map V.int)) := by rw [upd_ne nbl]; exact b3
  have l4 : upd H3 l (.lst ((ns.map V.int).set a v1)) l = some (.lst ((ns.map V.int).set a v1)) := upd_same
  have X4 : Box (upd H3 l (.lst ((ns.map V.int).set a v1))) p := by
    obtain ⟨x, y, z, X3⟩ := X3
    exact ⟨x, y, z, by rw [upd_ne npl]; exact X3⟩
  have P4 : Plain (upd H3 l (.lst ((ns.map V.int).set a v1))) v1 := P3.move fun q o e ho => by rw [upd_ne (v13 q e).1]; exact ho
  have k4 : But p H (upd H3 l (.lst ((ns.map V.int).set a v1))) := fun q o hq ho => by rw [upd_ne (ne_of_none (B2 _ _ hq ho) hl)]; exact k3 _ _ hq ho
  generalize upd H3 l (.lst ((ns.map V.int).set a v1)) = H4 at *
  refine ⟨_, b3, _, rfl, .int bm, atI_nat (by rw [List.getElem?_map, ebm]; rfl), _, _, rfl, p, bm, rfl, X4, rfl, pbm.1, fun v2 H5 u5 X5 P5 w5 f5 => ?_⟩
  have l5 := u5 _ _ npl.symm l4
  have b5 := u5 _ _ nb b4
  have v25 : ∀ q, v2 = .ref q → q ≠ l ∧ q ≠ p := fun q e => by
    have z := f5 q e
    refine ⟨fun z2 => (by rw [z2, l4] at z; cases z), fun z2 => ?_⟩
    obtain ⟨_, _, _, X4⟩ := X4
    rw [z2, X4] at z
    cases z
  have P5' : Plain H5 v1 := P4.move fun q o e ho => u5 _ _ (v13 q e).2 ho
  have k5 : But p H H5 := fun q o hq ho => u5 _ _ hq (k4 _ _ hq ho)
  refine ⟨_, l5, m, ixN_nat (by rw [List.length_set, List.length_map]; exact lm), fun l2 hl2 => ?_⟩
  have b6 : upd H5 l (.lst (((ns.map V.int).set a v1).set m v2)) pb = some (.lst (bs.map V.int)) := by rw [upd_ne nbl]; exact b5
  have l6 : upd H5 l (.lst (((ns.map V.int).set a v1).set m v2)) l = some (.lst (((ns.map V.int).set a v1).set m v2)) := upd_same
  have X6 : Box (upd H5 l (.lst (((ns.map V.int).set a v1).set m v2))) p := by
    obtain ⟨x, y, z, X5⟩ := X5
    exact ⟨x, y, z, by rw [upd_ne npl]; exact X5⟩
  have P61 : Plain (upd H5 l (.lst (((ns.map V.int).set a v1).set m v2))) v1 := P5'.move fun q o e ho => by rw [upd_ne (v13 q e).1]; exact ho
  have P62 : Plain (upd H5 l (.lst (((ns.map V.int).set a v1).set m v2))) v2 := P5.move fun q o e ho => by rw [upd_ne (v25 q e).1]; exact ho
  have k6 : But p H (upd H5 l (.lst (((ns.map V.int).set a v1).set m v2))) := fun q o hq ho => by rw [upd_ne (ne_of_none (B2 _ _ hq ho) hl)]; exact k5 _ _ hq ho
  have hl2' : upd H5 l (.lst (((ns.map V.int).set a v1).set m v2)) l2 = none := hl2
  clear hl2
  generalize upd H5 l (.lst (((ns.map V.int).set a v1).set m v2)) = H6 at *
  have s7 : Same H6 (upd H6 l2 (.lst (((ns.map V.int).set a v1).set m v2))) := Same.new hl2'
  have l7 : upd H6 l2 (.lst (((ns.map V.int).set a v1).set m v2)) l2 = some (.lst (((ns.map V.int).set a v1).set m v2)) := upd_same
  generalize upd H6 l2 (.lst (((ns.map V.int).set a v1).set m v2)) = H7 at *
  have plain : ∀ H', Same H7 H' → ∀ x ∈ ((ns.map V.int).set a v1).set m v2, Plain H' x := fun H' s x hx => by
    rcases List.mem_or_eq_of_mem_set hx with hx | rfl
    · rcases List.mem_or_eq_of_mem_set hx with hx | rfl
      · obtain ⟨i, _, rfl⟩ := List.mem_map.mp hx
        exact True.intro
      · exact (P61.same s7).same s
    · exact (P62.same s7).same s
  have em2 : (((ns.map V.int).set a v1).set m v2)[m]? = some v2 := by
    rw [List.getElem?_set_self (by rw [List.length_set, List.length_map]; exact lm)]
  refine ⟨_, _, _, rfl, .inl ⟨rfl, l, pb, _, _, _, bs, v2, rfl, rfl, s7 _ _ l6, rfl, s7 _ _ b6, rfl, rfl, by rw [List.length_set, List.length_set, List.length_map]; exact lb, fun x hx => (plain H7 (fun _ _ z => z) x hx).ty, hp, mixR_bad m 0 (fun i him => ?_) em2 ebm w5, fun H8 f s8 hf hf8 => ?_⟩⟩
  · have li : i < ns.length := by omega
    refine ⟨ns[i], bs[i], ?_, List.getElem?_eq_getElem _, (InR.at_ hi (List.getElem?_eq_getElem li) (List.getElem?_eq_getElem (by omega)))⟩
    rw [List.getElem?_set_ne (by omega), List.getElem?_set_ne (by omega), List.getElem?_map, List.getElem?_eq_getElem li]
    rfl
  · have s68 : Same H6 H8 := Same.trans s7 s8
    refine ⟨_, s68 _ _ l6, _, rfl, v2, atI_nat em2, _, _, rfl, f, rfl, hf8, (P62.same s68), fun H9 s9 => ?_⟩
    simp only [and_assoc, rst, rs, re, ra, rq, rx, ro, rl, rl2, rsp, rz, rix, rln, rg, rd, rwi, at0, at1, at2, at3, upd_at, List.getElem?_cons_zero, List.getElem?_cons_succ, Option.some.injEq, exists_eq_left', exists_eq_left, List.set_cons_zero, List.set_cons_succ, true_and, and_true, HO.lst.injEq, HO.tup.injEq, exists_and_left, exists_eq, exists_eq', Br.t, Br.f, Be.t, Be.f, List.cons.injEq, List.append_nil, scal, if_true, if_false, ite_true, ite_false, eq_self_iff_true, decide_true, decide_false, Bool.not_true, Bool.not_false, reduceIte, List.nil_append, List.cons_append, reduceCtorEq, false_and, exists_false, false_or, or_false, Int.reduceLT]
    have s69 : Same H6 H9 := Same.trans s68 s9
    obtain ⟨w0, w1, w2, X6⟩ := X6
    exact copy_eq (s69 _ _ l6) (s9 _ _ (s8 _ _ l7)) (plain H9 (Same.trans s8 s9)) (q _ (fun q o hq ho => s69 _ _ (k6 _ _ hq ho)) ⟨w0, w1, w2, s69 _ _ X6⟩)
end
end Law

namespace Law
open PySem PySem.Spec PyProof.Rows L2 Sw
structure StL (H0 : Hp) (pb pa pd ph pz : Addr) (bs xs : List Int) (H : Hp) : Prop where
  s : Same H0 H
  x : Box H pb
  a : H pa = some (.lst (bs.map V.int))
  d : H pd = some (.lst (xs.map V.int))
  h : H ph = some (.lst (xs.map V.int))
  z : H pz = some (.lst (bs.map V.int))
  n : H0 pb = none
  na : pa ≠ pb
  nd : pd ≠ pb
  nh : ph ≠ pb
  nz : pz ≠ pb
theorem StL.same {H0 : Hp} {pb pa pd ph pz : Addr} {bs xs : List Int} {H H' : Hp} (t : StL H0 pb pa pd ph pz bs xs H) (s : Same H H') : StL H0 pb pa pd ph pz bs xs H' := by
  obtain ⟨x0, x1, x2, x⟩ := t.x
  exact ⟨Same.trans t.s s, ⟨x0, x1, x2, s _ _ x⟩, s _ _ t.a, s _ _ t.d, s _ _ t.h, s _ _ t.z, t.n, t.na, t.nd, t.nh, t.nz⟩
theorem StL.but {H0 : Hp} {pb pa pd ph pz : Addr} {bs xs : List Int} {H H' : Hp} (t : StL H0 pb pa pd ph pz bs xs H) (s : But pb H H') (x : Box H' pb) : StL H0 pb pa pd ph pz bs xs H' :=
  ⟨fun b o h => s _ _ (ne_of_none h t.n) (t.s _ _ h), x, s _ _ t.na t.a, s _ _ t.nd t.d, s _ _ t.nh t.h, s _ _ t.nz t.z, t.n, t.na, t.nd, t.nh, t.nz⟩
theorem StL.box {H0 : Hp} {pb pa pd ph pz : Addr} {bs xs : List Int} {H : Hp} (t : StL H0 pb pa pd ph pz bs xs H) {x0 x1 x2 : Int} : StL H0 pb pa pd ph pz bs xs (upd H pb (.lst [.int x0, .int x1, .int x2])) :=
  t.but (fun b o h e => by rw [upd_ne h]; exact e) ⟨_, _, _, upd_same⟩
theorem mixR_all {xs bs : List Int} (h : InR xs bs) : mixR (xs.map V.int) bs 0 = .inr (valR xs.reverse bs.reverse) := by
  rw [mixR_ok 0 h, ← mixA_val _ _ (by rw [List.length_reverse, List.length_reverse, h.len]), List.reverse_reverse, List.reverse_reverse]
section
variable {P : Program} {w : World} {K : Fg} {mg : Str → Option Value} {base : Heap}
theorem ok_law {fd : FuncData} (T : Tx K mg) (F_law : FunD K "law" "law" (defArgs s_law) (defBody s_law) (defScope s_law) [] [] (He.ga K "law") fd) (c_mixed : Cal P w K mg base 4 "mixed" ["numbers", "bases"] (sp_mixed K)) (c_unmixed : Cal P w K mg base 4 "unmixed" ["number", "bases"] (sp_unmixed K)) (c__law_cell_at : Cal P w K mg base 1 "_law_cell_at" ["script", "k"] (sp__law_cell_at K)) (c__law_box : Cal P w K mg base 1 "_law_box" ["cell"] (sp__law_box K)) (c__law_take : Cal P w K mg base 1 "_law_take" ["box", "many"] (sp__law_take K)) (c__law_whole : Cal P w K mg base 1 "_law_whole" ["found", "due"] (sp__law_whole K)) (c__law_worth : Cal P w K mg base 1 "_law_worth" ["numbers", "bases"] (sp__law_worth K)) (c__law_next : Cal P w K mg base 1 "_law_next" ["numbers", "bases"] (sp__law_next K)) (c__law_refused : Cal P w K mg base 5 "_law_refused" ["deed", "thing", "sizes"] (sp__law_refused K)) (c__law_due : Cal P w K mg base 1 "_law_due" ["found", "thing"] (sp__law_due K)) (c__law_bad : Cal P w K mg base 2 "_law_bad" ["box", "base"] (sp__law_bad K)) (c__law_back : Cal P w K mg base 5 "_law_back" ["number", "bases", "numbers"] (sp__law_back K)) (c__law_spoilt : Cal P w K mg base 6 "_law_spoilt" ["box", "numbers", "bases"] (sp__law_spoilt K)) : FnOk P w K mg base (L2.CX P w) 7 (He.ga K "law") fd ["script"] (sp_law K) := by
  refine fn_mk F_law sc_law (len1 _) (fun cdv A outer s H vs Q E hr h => ?_)
  obtain ⟨v0, rfl, h⟩ := h
  have hu := hu_of hr
  refine ⟨_, (pss_cons (ps_for (passes_of rfl) rfl (pi_range1 (by rfl) T.n_range (pa_cons (pe_callB (call_max2 rfl) (by rfl) T.n_max (by decide +kernel) (pa_cons pe_int (pa_cons (pe_callB (call_min2 rfl) (by rfl) T.n_min (by decide +kernel) (pa_cons pe_int (pa_cons (pe_callB call_len_seq (by rfl) T.n_len (by decide +kernel) (pa_cons (pv 0) pa_nil)) pa_nil))) pa_nil))) pa_nil)) (pg_name (i := 1) sc_law.nd rfl (Or.inl rfl)) (pss_cons (ps_set (i := 2) sc_law.nd rfl (Or.inr rfl) (pe_cal c__law_box hr (by decide) passL rfl (pa_cons (pe_cal c__law_cell_at hr (by decide) passL rfl (pa_cons (pv 0) (pa_cons (pv 1) pa_nil))) pa_nil)))
      (pss_cons (ps_set (i := 3) sc_law.nd rfl (Or.inl rfl) (pe_lst pa_nil))
      (pss_cons (ps_for (passes_of rfl) rfl (pi_range1 (by rfl) T.n_range (pa_cons (pe_cal c__law_take hr (by decide) passL rfl (pa_cons (pv 2) (pa_cons pe_int pa_nil))) pa_nil)) (pg_name (i := 4) sc_law.nd rfl (Or.inl rfl)) (pss_one (ps_expr (pe_ml PySem.F.slot_list_append PySem.F.type_list_append mt_append (pv 3) (pa_cons (pe_ix ix_q (pe_lst (pa_cons pe_int (pa_cons pe_int (pa_cons (pe_op op_add pe_int (pe_cal c__law_take hr (by decide) passL rfl (pa_cons (pv 2) (pa_cons pe_int pa_nil)))) (pa_cons (pe_op op_add pe_int (pe_cal c__law_take hr (by decide) passL rfl (pa_cons (pv 2) (pa_cons (pe_op op_pow pe_int pe_int) pa_nil)))) pa_nil))))) (pe_cal c__law_take hr (by decide) passL rfl (pa_cons (pv 2) (pa_cons pe_int pa_nil))) (fun _ _ => rfl)) pa_nil)))))
      (pss_cons (ps_setLc (i := 5) (own := [("base", 14)]) (g := (gName 14)) rfl sc_law.nd rfl rfl (sw_true rfl rfl rfl (by decide +kernel)) (pi_q (pv 3)) (blkOk_by (N := nm_law) (sc := defScope s_law) (by decide +kernel)) (fun _ _ _ _ _ => (pg_name (i := 14) sc_law.nd rfl (Or.inl rfl))) (fun _ _ _ _ _ => pts_nil) (fun _ _ _ _ _ => (pe_ix ix_q (pe_lst (pa_cons pe_int (pa_cons (pe_op op_sub (pv 14) pe_int) (pa_cons (pe_cal c__law_take hr (by decide) passL rfl (pa_cons (pv 2) (pa_cons (pv 14) pa_nil))) pa_nil)))) (pe_cal c__law_take hr (by decide) passL rfl (pa_cons (pv 2) (pa_cons pe_int pa_nil))) (fun _ _ => rfl))))
      (pss_cons (ps_asg (pe_cal c__law_worth hr (by decide) passL rfl (pa_cons (pv 5) (pa_cons (pv 3) pa_nil))) (pg_tupQ rfl (pgs_cons (pg_name (i := 6) sc_law.nd rfl (Or.inl rfl)) (pgs_cons (pg_name (i := 7) sc_law.nd rfl (Or.inl rfl)) pgs_nil)) (gname_len (gname_len (fun _ _ _ _ h => gnil_len h)))))
      (pss_cons (ps_set (i := 8) sc_law.nd rfl (Or.inl rfl) (pe_callTy lst_q (by rfl) T.n_list (by decide +kernel) (pa_cons (pv 5) pa_nil)))
      (pss_cons (ps_set (i := 9) sc_law.nd rfl (Or.inl rfl) (pe_callTy lst_q (by rfl) T.n_list (by decide +kernel) (pa_cons (pv 3) pa_nil)))
      (pss_cons (ps_if (PW.pt (pw_and (pt_cmpR op_eq (pe_cal c__law_take hr (by decide) passL rfl (pa_cons (pv 2) (pa_cons pe_int pa_nil))) pe_int (nomark _)) (pw_and1 (pt_not (pt_val (pe_cal c__law_back hr (by decide) passL rfl (pa_cons (pv 6) (pa_cons (pv 9) (pa_cons (pv 5) pa_nil))))))))) (pss_one (ps_ret pe_bl)) pss_nil)
      (pss_cons (ps_if (PW.pt (pw_or (pt_not (pt_val (pe_cal c__law_whole hr (by decide) passL rfl (pa_cons (pe_cal c_mixed hr (by decide) passL rfl (pa_cons (pv 8) (pa_cons (pv 9) pa_nil))) (pa_cons (pv 6) pa_nil))))) (pw_or1 (pt_not (pt_val (pe_cal c__law_whole hr (by decide) passL rfl (pa_cons (pe_cal c_mixed hr (by decide) passL rfl (pa_cons (pe_callTy tup_q (by rfl) T.n_tuple (by decide +kernel) (pa_cons (pv 5) pa_nil)) (pa_cons (pe_callTy tup_q (by rfl) T.n_tuple (by decide +kernel) (pa_cons (pv 3) pa_nil)) pa_nil))) (pa_cons (pv 6) pa_nil)))))))) (pss_one (ps_ret pe_bl)) pss_nil)
      (pss_cons (ps_if (PW.pt (pw_or (pt_cmpR (op_neD hr.units) (pv 8) (pv 5) (nomark _)) (pw_or (pt_cmpR (op_neD hr.units) (pv 9) (pv 3) (nomark _)) (pw_or1 (pt_not (pt_val (pe_cal c__law_back hr (by decide) passL rfl (pa_cons (pv 6) (pa_cons (pv 9) (pa_cons (pv 5) pa_nil)))))))))) (pss_one (ps_ret pe_bl)) pss_nil)
      (pss_cons (ps_set (i := 10) sc_law.nd rfl (Or.inl rfl) (pe_cal c__law_next hr (by decide) passL rfl (pa_cons (pv 5) (pa_cons (pv 3) pa_nil))))
      (pss_cons (ps_if (PW.pt (pw_and (pt_cmpR op_notN (pv 10) pe_non (nomark _)) (pw_and1 (pt_not (pt_val (pe_cal c__law_back hr (by decide) passL rfl (pa_cons (pe_op op_add (pv 6) pe_int) (pa_cons (pv 3) (pa_cons (pv 10) pa_nil))))))))) (pss_one (ps_ret pe_bl)) pss_nil)
      (pss_cons (ps_set (i := 11) sc_law.nd rfl (Or.inl rfl) (pe_cal c__law_bad hr (by decide) passL rfl (pa_cons (pv 2) (pa_cons (pv 7) pa_nil))))
      (pss_cons (ps_if (PW.pt (pw_or (pt_cmpR op_ne (pe_cmpR op_isN (pv 10) pe_non (nomark _)) (pe_cmpR op_eq (pe_op op_add (pv 6) pe_int) (pv 7) (nomark _)) (nomark _)) (pw_or1 (pt_not (pt_val (pe_cal c__law_due hr (by decide) passL rfl (pa_cons (pe_cal c__law_refused hr (by decide) passL rfl (pa_cons (pe_glob (v := .ref (He.ga K "unmixed")) rfl T.g_unmixed rfl) (pa_cons (pv 11) (pa_cons (pv 3) pa_nil)))) (pa_cons (pv 11) pa_nil)))))))) (pss_one (ps_ret pe_bl)) pss_nil)
      (pss_cons (ps_set (i := 12) sc_law.nd rfl (Or.inl rfl) (pe_lst (pa_cons (pv 6) pa_nil)))
      (pss_cons (ps_set (i := 13) sc_law.nd rfl (Or.inl rfl) (pe_cal c__law_refused hr (by decide) passL rfl (pa_cons (pe_glob (v := .ref (He.ga K "unmixed")) rfl T.g_unmixed rfl) (pa_cons (pv 12) (pa_cons (pv 3) pa_nil)))))
      (pss_cons (ps_expr (pe_ml PySem.F.slot_list_append PySem.F.type_list_append mt_append (pv 12) (pa_cons pe_int pa_nil)))
      (pss_cons (ps_if (pt_cmpR (op_neD hr.units) (pe_slice sl_list (pv 13) po_none (po_some pe_int)) (pe_lst (pa_cons (pv 12) pa_nil)) (nomark _)) (pss_one (ps_ret pe_bl)) pss_nil)
      (pss_one (ps_if (PW.pt (pw_and (pt_cmpR (op_neD hr.units) (pv 5) (pe_lst pa_nil) (nomark _)) (pw_and1 (pt_not (pt_val (pe_cal c__law_spoilt hr (by decide) passL rfl (pa_cons (pv 2) (pa_cons (pv 5) (pa_cons (pv 3) pa_nil))))))))) (pss_one (ps_ret pe_bl)) pss_nil)))))))))))))))))))))
      (pss_one (ps_ret pe_bl))), ?_⟩
  obtain ⟨a, ns, rfl, hS, hl, q⟩ := h
  simp only [and_assoc, rst, rs, re, ra, rq, rx, ro, rl, rl2, rsp, rz, rix, rln, rg, rd, rwi, at0, at1, at2, at3, upd_at, List.getElem?_cons_zero, List.getElem?_cons_succ, Option.some.injEq, exists_eq_left', exists_eq_left, List.set_cons_zero, List.set_cons_succ, true_and, and_true, HO.lst.injEq, HO.tup.injEq, exists_and_left, exists_eq, exists_eq', Br.t, Br.f, Be.t, Be.f, List.cons.injEq, List.append_nil, scal, if_true, if_false, ite_true, ite_false, eq_self_iff_true, decide_true, decide_false, Bool.not_true, Bool.not_false, reduceIte, List.nil_append, List.cons_append, reduceCtorEq, false_and, exists_false, false_or, or_false, Int.reduceLT]
  have hl' : (ns.map V.int).length = ns.length := List.length_map _
  refine ⟨_, .inl hS, by split <;> (split <;> omega), by split <;> (split <;> omega), FI.rng (fun i σ H' => ∃ v1 v2 v3 v4 v5 v6 v7 v8 v9 v10 v11 v12 v13 v14, Same H H' ∧ σ = [some (.ref a), v1, v2, v3, v4, v5, v6, v7, v8, v9, v10, v11, v12, v13, v14]) ⟨none, none, none, none, none, none, none, none, none, none, none, none, none, none, fun _ _ z => z, rfl⟩ ?_ ?_⟩
  · rintro i σ H1 hi ⟨v1, v2, v3, v4, v5, v6, v7, v8, v9, v10, v11, v12, v13, v14, s1, rfl⟩
    simp only [and_assoc, rst, rs, re, ra, rq, rx, ro, rl, rl2, rsp, rz, rix, rln, rg, rd, rwi, at0, at1, at2, at3, upd_at, List.getElem?_cons_zero, List.getElem?_cons_succ, Option.some.injEq, exists_eq_left', exists_eq_left, List.set_cons_zero, List.set_cons_succ, true_and, and_true, HO.lst.injEq, HO.tup.injEq, exists_and_left, exists_eq, exists_eq', Br.t, Br.f, Be.t, Be.f, List.cons.injEq, List.append_nil, scal, if_true, if_false, ite_true, ite_false, eq_self_iff_true, decide_true, decide_false, Bool.not_true, Bool.not_false, reduceIte, List.nil_append, List.cons_append, reduceCtorEq, false_and, exists_false, false_or, or_false, Int.reduceLT]
    refine ⟨_, _, rfl, a, ns, i, rfl, s1.seq hS, by rw [Int.zero_add], by omega, fun z => ⟨_, rfl, z, rfl, fun pb x0 x1 x2 hpb => ?_⟩⟩
    have fb : H pb = none := Same.free s1 hpb
    have X2 : upd H1 pb (.lst [.int x0, .int x1, .int x2]) pb = some (.lst [.int x0, .int x1, .int x2]) := upd_same
    have s2 : Same H (upd H1 pb (.lst [.int x0, .int x1, .int x2])) := Same.mut s1 fb
    generalize upd H1 pb (.lst [.int x0, .int x1, .int x2]) = H2 at *
    simp only [and_assoc, rst, rs, re, ra, rq, rx, ro, rl, rl2, rsp, rz, rix, rln, rg, rd, rwi, at0, at1, at2, at3, upd_at, List.getElem?_cons_zero, List.getElem?_cons_succ, Option.some.injEq, exists_eq_left', exists_eq_left, List.set_cons_zero, List.set_cons_succ, true_and, and_true, HO.lst.injEq, HO.tup.injEq, exists_and_left, exists_eq, exists_eq', Br.t, Br.f, Be.t, Be.f, List.cons.injEq, List.append_nil, scal, if_true, if_false, ite_true, ite_false, eq_self_iff_true, decide_true, decide_false, Bool.not_true, Bool.not_false, reduceIte, List.nil_append, List.cons_append, reduceCtorEq, false_and, exists_false, false_or, or_false, Int.reduceLT]
    refine fun pa hpa => ?_
    have fa : H pa = none := Same.free s2 hpa
    have nba : pb ≠ pa := ne_of_none X2 hpa
    refine ⟨_, _, rfl, pb, x0, x1, x2, 13, rfl, by rw [upd_ne nba]; exact X2, rfl, by decide, by decide, fun cnt y0 y1 y2 c0 c1 => ?_⟩
    simp only [and_assoc, rst, rs, re, ra, rq, rx, ro, rl, rl2, rsp, rz, rix, rln, rg, rd, rwi, at0, at1, at2, at3, upd_at, List.getElem?_cons_zero, List.getElem?_cons_succ, Option.some.injEq, exists_eq_left', exists_eq_left, List.set_cons_zero, List.set_cons_succ, true_and, and_true, HO.lst.injEq, HO.tup.injEq, exists_and_left, exists_eq, exists_eq', Br.t, Br.f, Be.t, Be.f, List.cons.injEq, List.append_nil, scal, if_true, if_false, ite_true, ite_false, eq_self_iff_true, decide_true, decide_false, Bool.not_true, Bool.not_false, reduceIte, List.nil_append, List.cons_append, reduceCtorEq, false_and, exists_false, false_or, or_false, Int.reduceLT]
    refine ⟨by omega, by omega, FI.rng (fun j σ H' => ∃ (bs : List Int) (v4 : Option V), Same H H' ∧ Box H' pb ∧ H' pa = some (.lst (bs.map V.int)) ∧ Pos bs ∧ bs.length = j ∧ σ = [some (.ref a), some (.int (0 + (i : Int))), some (.ref pb), some (.ref pa), v4, v5, v6, v7, v8, v9, v10, v11, v12, v13, v14])
      ⟨[], v4, Same.mut (Same.mut s2 fa) fb, ⟨_, _, _, upd_same⟩, by rw [upd_ne nba.symm]; exact upd_same, fun _ z => (by cases z), rfl, rfl⟩ ?_ ?_⟩
    · rintro j σ H3 hj ⟨bs, v4, s3, ⟨x0, x1, x2, X3⟩, a3, hp, hbl, rfl⟩
      simp only [and_assoc, rst, rs, re, ra, rq, rx, ro, rl, rl2, rsp, rz, rix, rln, rg, rd, rwi, at0, at1, at2, at3, upd_at, List.getElem?_cons_zero, List.getElem?_cons_succ, Option.some.injEq, exists_eq_left', exists_eq_left, List.set_cons_zero, List.set_cons_succ, true_and, and_true, HO.lst.injEq, HO.tup.injEq, exists_and_left, exists_eq, exists_eq', Br.t, Br.f, Be.t, Be.f, List.cons.injEq, List.append_nil, scal, if_true, if_false, ite_true, ite_false, eq_self_iff_true, decide_true, decide_false, Bool.not_true, Bool.not_false, reduceIte, List.nil_append, List.cons_append, reduceCtorEq, false_and, exists_false, false_or, or_false, Int.reduceLT, a3]
      refine ⟨_, _, rfl, pb, x0, x1, x2, 12, rfl, X3, rfl, by decide, by decide, fun r1 y0 y1 y2 r10 r11 => ?_⟩
      simp only [and_assoc, rst, rs, re, ra, rq, rx, ro, rl, rl2, rsp, rz, rix, rln, rg, rd, rwi, at0, at1, at2, at3, upd_at, List.getElem?_cons_zero, List.getElem?_cons_succ, Option.some.injEq, exists_eq_left', exists_eq_left, List.set_cons_zero, List.set_cons_succ, true_and, and_true, HO.lst.injEq, HO.tup.injEq, exists_and_left, exists_eq, exists_eq', Br.t, Br.f, Be.t, Be.f, List.cons.injEq, List.append_nil, scal, if_true, if_false, ite_true, ite_false, eq_self_iff_true, decide_true, decide_false, Bool.not_true, Bool.not_false, reduceIte, List.nil_append, List.cons_append, reduceCtorEq, false_and, exists_false, false_or, or_false, Int.reduceLT]
      refine ⟨⟨by decide, by decide, by decide⟩, _, _, rfl, pb, _, _, _, _, rfl, upd_same, rfl, by decide, by decide, fun r2 z0 z1 z2 r20 r21 => ?_⟩
      have s4 : Same H (upd (upd H3 pb (HO.lst [V.int y0, V.int y1, V.int y2])) pb (HO.lst [V.int z0, V.int z1, V.int z2])) := Same.mut (Same.mut s3 fb) fb
      have X4 : upd (upd H3 pb (HO.lst [V.int y0, V.int y1, V.int y2])) pb (HO.lst [V.int z0, V.int z1, V.int z2]) pb = some (HO.lst [V.int z0, V.int z1, V.int z2]) := upd_same
      have a4 : upd (upd H3 pb (HO.lst [V.int y0, V.int y1, V.int y2])) pb (HO.lst [V.int z0, V.int z1, V.int z2]) pa = some (.lst (bs.map V.int)) := by rw [upd_ne nba.symm, upd_ne nba.symm]; exact a3
      generalize upd (upd H3 pb (HO.lst [V.int y0, V.int y1, V.int y2])) pb (HO.lst [V.int z0, V.int z1, V.int z2]) = H4 at *
      simp only [and_assoc, rst, rs, re, ra, rq, rx, ro, rl, rl2, rsp, rz, rix, rln, rg, rd, rwi, at0, at1, at2, at3, upd_at, List.getElem?_cons_zero, List.getElem?_cons_succ, Option.some.injEq, exists_eq_left', exists_eq_left, List.set_cons_zero, List.set_cons_succ, true_and, and_true, HO.lst.injEq, HO.tup.injEq, exists_and_left, exists_eq, exists_eq', Br.t, Br.f, Be.t, Be.f, List.cons.injEq, List.append_nil, scal, if_true, if_false, ite_true, ite_false, eq_self_iff_true, decide_true, decide_false, Bool.not_true, Bool.not_false, reduceIte, List.nil_append, List.cons_append, reduceCtorEq, false_and, exists_false, false_or, or_false, Int.reduceLT]
      refine fun pc hpc => ?_
      have nbc := ne_of_none X4 hpc
      have nac := ne_of_none a4 hpc
      have fc := Same.free s4 hpc
      refine ⟨_, _, rfl, pb, _, _, _, _, rfl, by rw [upd_ne nbc]; exact X4, rfl, by decide, by decide, fun r3 w0 w1 w2 r30 r31 => ?_⟩
      refine ⟨_, by rw [upd_ne nbc.symm]; exact upd_same, _, rfl, ?_⟩
      have s5 : Same H (upd (upd H4 pc (.lst [V.int 1, V.int 2, V.int (1 + r1), V.int (1 + r2)])) pb (.lst [.int w0, .int w1, .int w2])) := Same.mut (Same.mut s4 fc) fb
      have X5 : upd (upd H4 pc (.lst [V.int 1, V.int 2, V.int (1 + r1), V.int (1 + r2)])) pb (.lst [.int w0, .int w1, .int w2]) pb = some (.lst [.int w0, .int w1, .int w2]) := upd_same
      have a5 : upd (upd H4 pc (.lst [V.int 1, V.int 2, V.int (1 + r1), V.int (1 + r2)])) pb (.lst [.int w0, .int w1, .int w2]) pa = some (.lst (bs.map V.int)) := by rw [upd_ne nba.symm, upd_ne nac]; exact a4
      generalize upd (upd H4 pc (.lst [V.int 1, V.int 2, V.int (1 + r1), V.int (1 + r2)])) pb (.lst [.int w0, .int w1, .int w2]) = H5 at *
      simp only [and_assoc, rst, rs, re, ra, rq, rx, ro, rl, rl2, rsp, rz, rix, rln, rg, rd, rwi, at0, at1, at2, at3, upd_at, List.getElem?_cons_zero, List.getElem?_cons_succ, Option.some.injEq, exists_eq_left', exists_eq_left, List.set_cons_zero, List.set_cons_succ, true_and, and_true, HO.lst.injEq, HO.tup.injEq, exists_and_left, exists_eq, exists_eq', Br.t, Br.f, Be.t, Be.f, List.cons.injEq, List.append_nil, scal, if_true, if_false, ite_true, ite_false, eq_self_iff_true, decide_true, decide_false, Bool.not_true, Bool.not_false, reduceIte, List.nil_append, List.cons_append, reduceCtorEq, false_and, exists_false, false_or, or_false, Int.reduceLT, a5]
      have big : r2 < 10 ^ 19 := r21
      obtain ⟨b, eb, b0, b1⟩ : ∃ b : Int, atI [V.int 1, V.int 2, V.int (1 + r1), V.int (1 + r2)] r3 = some (.int b) ∧ 0 < b ∧ b < 2 ^ 64 := by
        obtain h | h | h | h : r3 = 0 ∨ r3 = 1 ∨ r3 = 2 ∨ r3 = 3 := by omega
        all_goals subst h
        · exact ⟨1, rfl, by decide, by decide⟩
        · exact ⟨2, rfl, by decide, by decide⟩
        · exact ⟨1 + r1, rfl, by omega, by omega⟩
        · exact ⟨1 + r2, rfl, by omega, by omega⟩
      refine ⟨_, eb, ?_, Same.mut s5 fa, ⟨w0, w1, w2, by rw [upd_ne nba]; exact X5⟩, bs ++ [b], (List.map_append (f := V.int) (l₁ := bs) (l₂ := [b])).symm, fun c hc => ?_, by rw [List.length_append, hbl]; rfl⟩
      · rw [List.length_map, sizeLine_eq]
        omega
      · rcases List.mem_append.mp hc with hc | hc
        · exact hp c hc
        · rw [List.mem_singleton.mp hc]
          exact ⟨b0, b1⟩
    · rintro σ H3 ⟨bs, v4, s3, ⟨x0, x1, x2, X3⟩, a3, hp, hbl, rfl⟩
      have bl12 : bs.length ≤ 12 := by omega
      simp only [and_assoc, rst, rs, re, ra, rq, rx, ro, rl, rl2, rsp, rz, rix, rln, rg, rd, rwi, at0, at1, at2, at3, upd_at, List.getElem?_cons_zero, List.getElem?_cons_succ, Option.some.injEq, exists_eq_left', exists_eq_left, List.set_cons_zero, List.set_cons_succ, true_and, and_true, HO.lst.injEq, HO.tup.injEq, exists_and_left, exists_eq, exists_eq', Br.t, Br.f, Be.t, Be.f, List.cons.injEq, List.append_nil, scal, if_true, if_false, ite_true, ite_false, eq_self_iff_true, decide_true, decide_false, Bool.not_true, Bool.not_false, reduceIte, List.nil_append, List.cons_append, reduceCtorEq, false_and, exists_false, false_or, or_false, Int.reduceLT, a3]
      refine LC.seq rfl (fun D j H' => ∃ xs : List Int, Same H H' ∧ Box H' pb ∧ H' pa = some (.lst (bs.map V.int)) ∧ H' D = some (.lst (xs.map V.int)) ∧ InR xs (bs.take j)) (fun D hD => ?_) (fun D j H' _ _ ⟨_, _, _, h, _⟩ => h) ?_ ?_
      · refine ⟨[], Same.mut s3 (Same.free s3 hD), ⟨x0, x1, x2, by rw [upd_ne (ne_of_none X3 hD)]; exact X3⟩, by rw [upd_ne (ne_of_none a3 hD)]; exact a3, upd_same, ?_⟩
        rw [List.take_zero]
        exact True.intro
      · rintro D j x H4 hD hx ⟨xs, s4, ⟨z0, z1, z2, X4⟩, a4, d4, hi4⟩
        obtain ⟨b, eb, rfl⟩ := map_at hx
        have hb := hp b (List.mem_of_getElem? eb)
        have fd := Same.free s3 hD
        have nbd := ne_of_none X3 hD
        have nad := ne_of_none a3 hD
        have jl : j < bs.length := (List.getElem?_eq_some_iff.mp eb).1
        simp only [and_assoc, rst, rs, re, ra, rq, rx, ro, rl, rl2, rsp, rz, rix, rln, rg, rd, rwi, at0, at1, at2, at3, upd_at, List.getElem?_cons_zero, List.getElem?_cons_succ, Option.some.injEq, exists_eq_left', exists_eq_left, List.set_cons_zero, List.set_cons_succ, true_and, and_true, HO.lst.injEq, HO.tup.injEq, exists_and_left, exists_eq, exists_eq', Br.t, Br.f, Be.t, Be.f, List.cons.injEq, List.append_nil, scal, if_true, if_false, ite_true, ite_false, eq_self_iff_true, decide_true, decide_false, Bool.not_true, Bool.not_false, reduceIte, List.nil_append, List.cons_append, reduceCtorEq, false_and, exists_false, false_or, or_false, Int.reduceLT]
        refine ⟨_, _, rfl, pb, _, _, _, b, rfl, X4, rfl, hb.1, hb.2, fun r1 y0 y1 y2 r10 r11 => ?_⟩
        have s5 : Same H (upd H4 pb (.lst [.int y0, .int y1, .int y2])) := Same.mut s4 fb
        have X5 : upd H4 pb (.lst [.int y0, .int y1, .int y2]) pb = some (.lst [.int y0, .int y1, .int y2]) := upd_same
        have a5 : upd H4 pb (.lst [.int y0, .int y1, .int y2]) pa = some (.lst (bs.map V.int)) := by rw [upd_ne nba.symm]; exact a4
        have d5 : upd H4 pb (.lst [.int y0, .int y1, .int y2]) D = some (.lst (xs.map V.int)) := by rw [upd_ne nbd.symm]; exact d4
        generalize upd H4 pb (.lst [.int y0, .int y1, .int y2]) = H5 at *
        refine fun pc hc => ?_
        have fc := Same.free s5 hc
        have nbc := ne_of_none X5 hc
        have nac := ne_of_none a5 hc
        have ndc := ne_of_none d5 hc
        refine ⟨_, _, rfl, pb, _, _, _, 3, rfl, by rw [upd_ne nbc]; exact X5, rfl, by decide, by decide, fun r3 w0 w1 w2 r30 r31 => ?_⟩
        refine ⟨_, by rw [upd_ne nbc.symm]; exact upd_same, _, rfl, _, rfl, ?_⟩
        have s6 : Same H (upd (upd H5 pc (.lst [V.int 0, V.int (b - 1), V.int r1])) pb (.lst [.int w0, .int w1, .int w2])) := Same.mut (Same.mut s5 fc) fb
        have X6 : upd (upd H5 pc (.lst [V.int 0, V.int (b - 1), V.int r1])) pb (.lst [.int w0, .int w1, .int w2]) pb = some (.lst [.int w0, .int w1, .int w2]) := upd_same
        have a6 : upd (upd H5 pc (.lst [V.int 0, V.int (b - 1), V.int r1])) pb (.lst [.int w0, .int w1, .int w2]) pa = some (.lst (bs.map V.int)) := by rw [upd_ne nba.symm, upd_ne nac]; exact a5
        have d6 : upd (upd H5 pc (.lst [V.int 0, V.int (b - 1), V.int r1])) pb (.lst [.int w0, .int w1, .int w2]) D = some (.lst (xs.map V.int)) := by rw [upd_ne nbd.symm, upd_ne ndc]; exact d5
        generalize upd (upd H5 pc (.lst [V.int 0, V.int (b - 1), V.int r1])) pb (.lst [.int w0, .int w1, .int w2]) = H6 at *
        obtain ⟨n, en, n0, n1⟩ : ∃ n : Int, atI [V.int 0, V.int (b - 1), V.int r1] r3 = some (.int n) ∧ 0 ≤ n ∧ n < b := by
          obtain h | h | h : r3 = 0 ∨ r3 = 1 ∨ r3 = 2 := by omega
          all_goals subst h
          · exact ⟨0, rfl, by decide, by omega⟩
          · exact ⟨b - 1, rfl, by omega, by omega⟩
          · exact ⟨r1, rfl, by omega, by omega⟩
        refine ⟨_, en, _, d6, ?_, Same.mut s6 fd, ⟨w0, w1, w2, by rw [upd_ne nbd]; exact X6⟩, by rw [if_neg nad]; exact a6, xs ++ [n], (List.map_append (f := V.int) (l₁ := xs) (l₂ := [n])).symm, ?_⟩
        · have := hi4.len
          rw [List.length_take] at this
          rw [List.length_map, sizeLine_eq]
          omega
        · rw [take_snoc eb]
          exact hi4.snoc n0 n1
      · rintro D H4 hD ⟨xs, s4, ⟨z0, z1, z2, X4⟩, a4, d4, hi4⟩
        rw [List.length_map, List.take_length] at hi4
        have fd := Same.free s3 hD
        have nbd := ne_of_none X3 hD
        have nad := ne_of_none a3 hD
        have xl := hi4.len
        have vl := val_lt hi4.rev
        rw [prod_rev] at vl
        refine ⟨_, _, rfl, D, pa, xs, bs, rfl, rfl, d4, a4, hi4, hp, fun H5 pw s5 _ hw => ?_⟩
        have X5 := s5 _ _ X4
        have a5 := s5 _ _ a4
        have d5 := s5 _ _ d4
        refine ⟨_, rfl, _, hw, rfl, _, rfl, _, _, rfl, _, _, rfl, rfl, _, rfl, _, d5, _, rfl, fun ph hph => ?_⟩
        have nah := ne_of_none a5 hph
        rw [if_neg nah]
        refine ⟨_, a5, _, rfl, fun pz hpz => ?_⟩
        have t5 : StL H pb pa D ph pz bs xs (upd (upd H5 ph (.lst (xs.map V.int))) pz (.lst (bs.map V.int))) := by
          have nbh := ne_of_none X5 hph
          have ndh := ne_of_none d5 hph
          have e : ∀ {q : Addr} {o : HO}, H5 q = some o → upd (upd H5 ph (.lst (xs.map V.int))) pz (.lst (bs.map V.int)) q = some o := fun {q o} ho => by
            have h1 : upd H5 ph (.lst (xs.map V.int)) q = some o := by rw [upd_ne (ne_of_none ho hph)]; exact ho
            rw [upd_ne (ne_of_none h1 hpz)]
            exact h1
          exact ⟨fun q o ho => e (s5 _ _ (s4 _ _ ho)), ⟨_, _, _, e X5⟩, e a5, e d5, by rw [upd_ne (ne_of_none (show upd H5 ph (.lst (xs.map V.int)) ph = _ from upd_same) hpz)]; exact upd_same, upd_same, fb, nba.symm, nbd.symm, nbh.symm, (ne_of_none (show upd H5 ph (.lst (xs.map V.int)) pb = _ by rw [upd_ne nbh]; exact X5) hpz).symm⟩
        generalize upd (upd H5 ph (.lst (xs.map V.int))) pz (.lst (bs.map V.int)) = H6 at *
        clear s5 X5 a5 d5 hw hph hpz nah s4 X4 a4 d4 s3 X3 a3 s2 X2 hpa hpb
        obtain ⟨x0', x1', x2', X6⟩ := t5.x
        refine ⟨_, _, rfl, pb, _, _, _, 2, rfl, X6, rfl, by decide, by decide, fun r w0 w1 w2 _ _ => ⟨rfl, ?_⟩⟩
        refine Be.join (StL H pb pa D ph pz bs xs) t5.box ?_ (fun n _ => ⟨_, _, _, rfl, pz, D, bs, xs, rfl, rfl, t5.box.z, rfl, t5.box.d, hi4, hp, bl12, fun H' s => ⟨_, rfl, Br.of (fun e => by cases e) fun _ => ?_⟩⟩)
        rotate_left
        · have m := n _ (t5.box.same s)
          simp only [and_assoc, rst, rs, re, ra, rq, rx, ro, rl, rl2, rsp, rz, rix, rln, rg, rd, rwi, at0, at1, at2, at3, upd_at, List.getElem?_cons_zero, List.getElem?_cons_succ, Option.some.injEq, exists_eq_left', exists_eq_left, List.set_cons_zero, List.set_cons_succ, true_and, and_true, HO.lst.injEq, HO.tup.injEq, exists_and_left, exists_eq, exists_eq', Br.t, Br.f, Be.t, Be.f, List.cons.injEq, List.append_nil, scal, if_true, if_false, ite_true, ite_false, eq_self_iff_true, decide_true, decide_false, Bool.not_true, Bool.not_false, reduceIte, List.nil_append, List.cons_append, reduceCtorEq, false_and, exists_false, false_or, or_false, Int.reduceLT] at m
          simp only [and_assoc, rst, rs, re, ra, rq, rx, ro, rl, rl2, rsp, rz, rix, rln, rg, rd, rwi, at0, at1, at2, at3, upd_at, List.getElem?_cons_zero, List.getElem?_cons_succ, Option.some.injEq, exists_eq_left', exists_eq_left, List.set_cons_zero, List.set_cons_succ, true_and, and_true, HO.lst.injEq, HO.tup.injEq, exists_and_left, exists_eq, exists_eq', Br.t, Br.f, Be.t, Be.f, List.cons.injEq, List.append_nil, scal, if_true, if_false, ite_true, ite_false, eq_self_iff_true, decide_true, decide_false, Bool.not_true, Bool.not_false, reduceIte, List.nil_append, List.cons_append, reduceCtorEq, false_and, exists_false, false_or, or_false, Int.reduceLT]
          exact m
        clear t5 X6
        intro H7 t7
        simp only [and_assoc, rst, rs, re, ra, rq, rx, ro, rl, rl2, rsp, rz, rix, rln, rg, rd, rwi, at0, at1, at2, at3, upd_at, List.getElem?_cons_zero, List.getElem?_cons_succ, Option.some.injEq, exists_eq_left', exists_eq_left, List.set_cons_zero, List.set_cons_succ, true_and, and_true, HO.lst.injEq, HO.tup.injEq, exists_and_left, exists_eq, exists_eq', Br.t, Br.f, Be.t, Be.f, List.cons.injEq, List.append_nil, scal, if_true, if_false, ite_true, ite_false, eq_self_iff_true, decide_true, decide_false, Bool.not_true, Bool.not_false, reduceIte, List.nil_append, List.cons_append, reduceCtorEq, false_and, exists_false, false_or, or_false, Int.reduceLT]
        have ty : ∀ x ∈ xs.map V.int, ∀ H', ∃ n, tyN H' x = some n := fun x hx H' => by
          obtain ⟨i, _, rfl⟩ := List.mem_map.mp hx
          exact ⟨"int", rfl⟩
        refine ⟨_, _, rfl, ph, pz, _, _, _, bs, rfl, rfl, t7.h, rfl, t7.z, rfl, rfl, by rw [List.length_map]; exact xl, fun x hx => ty x hx _, hp, fun n en H8 s8 => ?_, fun x ex => ?_⟩
        rotate_left
        · rw [mixR_all hi4] at ex
          cases ex
        rw [mixR_all hi4] at en
        cases en
        refine ⟨_, _, rfl, _, _, rfl, rfl, ?_⟩
        rw [decide_eq_true rfl]
        have t8 := t7.same s8
        clear t7 s8
        simp only [and_assoc, rst, rs, re, ra, rq, rx, ro, rl, rl2, rsp, rz, rix, rln, rg, rd, rwi, at0, at1, at2, at3, upd_at, List.getElem?_cons_zero, List.getElem?_cons_succ, Option.some.injEq, exists_eq_left', exists_eq_left, List.set_cons_zero, List.set_cons_succ, true_and, and_true, HO.lst.injEq, HO.tup.injEq, exists_and_left, exists_eq, exists_eq', Br.t, Br.f, Be.t, Be.f, List.cons.injEq, List.append_nil, scal, if_true, if_false, ite_true, ite_false, eq_self_iff_true, decide_true, decide_false, Bool.not_true, Bool.not_false, reduceIte, List.nil_append, List.cons_append, reduceCtorEq, false_and, exists_false, false_or, or_false, Int.reduceLT, t8.d]
        refine fun p1 h1 => ?_
        have n1 := ne_of_none t8.a h1
        rw [if_neg n1]
        refine ⟨_, t8.a, fun p2 h2 => ?_⟩
        have t9 := (t8.same (Same.new h1)).same (Same.new (o := .tup (bs.map V.int)) h2)
        have q1 : upd (upd H8 p1 (.tup (xs.map V.int))) p2 (.tup (bs.map V.int)) p1 = some (.tup (xs.map V.int)) := by rw [upd_ne (ne_of_none (show upd H8 p1 (.tup (xs.map V.int)) p1 = _ from upd_same) h2)]; exact upd_same
        have q2 : upd (upd H8 p1 (.tup (xs.map V.int))) p2 (.tup (bs.map V.int)) p2 = some (.tup (bs.map V.int)) := upd_same
        generalize upd (upd H8 p1 (.tup (xs.map V.int))) p2 (.tup (bs.map V.int)) = H9 at *
        clear h1 h2 t8
        refine ⟨_, _, rfl, p1, p2, _, _, _, bs, rfl, rfl, q1, rfl, q2, rfl, rfl, by rw [List.length_map]; exact xl, fun x hx => ty x hx _, hp, fun n en H10 s10 => ?_, fun x ex => ?_⟩
        rotate_left
        · rw [mixR_all hi4] at ex
          cases ex
        rw [mixR_all hi4] at en
        cases en
        refine ⟨_, _, rfl, _, _, rfl, rfl, ?_⟩
        rw [decide_eq_true rfl]
        have t10 := t9.same s10
        clear t9 s10 q1 q2
        simp only [and_assoc, rst, rs, re, ra, rq, rx, ro, rl, rl2, rsp, rz, rix, rln, rg, rd, rwi, at0, at1, at2, at3, upd_at, List.getElem?_cons_zero, List.getElem?_cons_succ, Option.some.injEq, exists_eq_left', exists_eq_left, List.set_cons_zero, List.set_cons_succ, true_and, and_true, HO.lst.injEq, HO.tup.injEq, exists_and_left, exists_eq, exists_eq', Br.t, Br.f, Be.t, Be.f, List.cons.injEq, List.append_nil, scal, if_true, if_false, ite_true, ite_false, eq_self_iff_true, decide_true, decide_false, Bool.not_true, Bool.not_false, reduceIte, List.nil_append, List.cons_append, reduceCtorEq, false_and, exists_false, false_or, or_false, Int.reduceLT]
        refine ne_ints (SqL.of t10.h) (SqL.of t10.d) ?_
        rw [decide_eq_true rfl]
        simp only [and_assoc, rst, rs, re, ra, rq, rx, ro, rl, rl2, rsp, rz, rix, rln, rg, rd, rwi, at0, at1, at2, at3, upd_at, List.getElem?_cons_zero, List.getElem?_cons_succ, Option.some.injEq, exists_eq_left', exists_eq_left, List.set_cons_zero, List.set_cons_succ, true_and, and_true, HO.lst.injEq, HO.tup.injEq, exists_and_left, exists_eq, exists_eq', Br.t, Br.f, Be.t, Be.f, List.cons.injEq, List.append_nil, scal, if_true, if_false, ite_true, ite_false, eq_self_iff_true, decide_true, decide_false, Bool.not_true, Bool.not_false, reduceIte, List.nil_append, List.cons_append, reduceCtorEq, false_and, exists_false, false_or, or_false, Int.reduceLT]
        refine ne_ints (SqL.of t10.z) (SqL.of t10.a) ?_
        rw [decide_eq_true rfl]
        simp only [and_assoc, rst, rs, re, ra, rq, rx, ro, rl, rl2, rsp, rz, rix, rln, rg, rd, rwi, at0, at1, at2, at3, upd_at, List.getElem?_cons_zero, List.getElem?_cons_succ, Option.some.injEq, exists_eq_left', exists_eq_left, List.set_cons_zero, List.set_cons_succ, true_and, and_true, HO.lst.injEq, HO.tup.injEq, exists_and_left, exists_eq, exists_eq', Br.t, Br.f, Be.t, Be.f, List.cons.injEq, List.append_nil, scal, if_true, if_false, ite_true, ite_false, eq_self_iff_true, decide_true, decide_false, Bool.not_true, Bool.not_false, reduceIte, List.nil_append, List.cons_append, reduceCtorEq, false_and, exists_false, false_or, or_false, Int.reduceLT]
        refine ⟨_, _, _, rfl, pz, D, bs, xs, rfl, rfl, t10.z, rfl, t10.d, hi4, hp, bl12, fun H11 s11 => ?_⟩
        simp only [and_assoc, rst, rs, re, ra, rq, rx, ro, rl, rl2, rsp, rz, rix, rln, rg, rd, rwi, at0, at1, at2, at3, upd_at, List.getElem?_cons_zero, List.getElem?_cons_succ, Option.some.injEq, exists_eq_left', exists_eq_left, List.set_cons_zero, List.set_cons_succ, true_and, and_true, HO.lst.injEq, HO.tup.injEq, exists_and_left, exists_eq, exists_eq', Br.t, Br.f, Be.t, Be.f, List.cons.injEq, List.append_nil, scal, if_true, if_false, ite_true, ite_false, eq_self_iff_true, decide_true, decide_false, Bool.not_true, Bool.not_false, reduceIte, List.nil_append, List.cons_append, reduceCtorEq, false_and, exists_false, false_or, or_false, Int.reduceLT]
        have t11 := t10.same s11
        clear t10 s11
        refine ⟨_, _, rfl, D, pa, xs, bs, rfl, rfl, t11.d, t11.a, hi4, by omega, fun vl H12 s12 hs hn => ?_⟩
        have t12 := t11.same s12
        clear t11 s12
        have hv : vl = V.non ↔ valR xs.reverse bs.reverse + 1 = prodI bs := by
          cases e : nextR xs.reverse bs.reverse with
          | none =>
            have z := next_none hi4.rev e
            rw [prod_rev] at z
            exact ⟨fun _ => z, fun _ => hn e⟩
          | some ms =>
            obtain ⟨q2, q1, _⟩ := hs ms e
            obtain ⟨i1, i2⟩ := next_some hi4.rev e
            have i3 := (val_lt i1).2
            rw [prod_rev] at i3
            exact ⟨fun z => (by rw [q1] at z; cases z), fun z => (by omega)⟩
        refine Be.join (StL H pb pa D ph pz bs xs) t12 ?_ (fun n c => ?_)
        rotate_left
        · cases e : nextR xs.reverse bs.reverse with
          | none =>
            rw [hn e] at c
            cases c
          | some ms =>
            obtain ⟨pl, rfl, hpl⟩ := hs ms e
            obtain ⟨i1, i2⟩ := next_some hi4.rev e
            have i4 := i1.rev
            rw [List.reverse_reverse] at i4
            refine ⟨_, _, _, rfl, pa, pl, bs, ms.reverse, by rw [List.reverse_reverse, i2], rfl, t12.a, rfl, hpl, i4, hp, bl12, fun H13 s13 => ⟨_, rfl, Br.of (fun e => by cases e) fun _ => ?_⟩⟩
            have m := n _ (t12.same s13)
            simp only [and_assoc, rst, rs, re, ra, rq, rx, ro, rl, rl2, rsp, rz, rix, rln, rg, rd, rwi, at0, at1, at2, at3, upd_at, List.getElem?_cons_zero, List.getElem?_cons_succ, Option.some.injEq, exists_eq_left', exists_eq_left, List.set_cons_zero, List.set_cons_succ, true_and, and_true, HO.lst.injEq, HO.tup.injEq, exists_and_left, exists_eq, exists_eq', Br.t, Br.f, Be.t, Be.f, List.cons.injEq, List.append_nil, scal, if_true, if_false, ite_true, ite_false, eq_self_iff_true, decide_true, decide_false, Bool.not_true, Bool.not_false, reduceIte, List.nil_append, List.cons_append, reduceCtorEq, false_and, exists_false, false_or, or_false, Int.reduceLT] at m
            simp only [and_assoc, rst, rs, re, ra, rq, rx, ro, rl, rl2, rsp, rz, rix, rln, rg, rd, rwi, at0, at1, at2, at3, upd_at, List.getElem?_cons_zero, List.getElem?_cons_succ, Option.some.injEq, exists_eq_left', exists_eq_left, List.set_cons_zero, List.set_cons_succ, true_and, and_true, HO.lst.injEq, HO.tup.injEq, exists_and_left, exists_eq, exists_eq', Br.t, Br.f, Be.t, Be.f, List.cons.injEq, List.append_nil, scal, if_true, if_false, ite_true, ite_false, eq_self_iff_true, decide_true, decide_false, Bool.not_true, Bool.not_false, reduceIte, List.nil_append, List.cons_append, reduceCtorEq, false_and, exists_false, false_or, or_false, Int.reduceLT]
            exact m
        clear hs hn t12
        intro H13 t13
        refine ⟨_, _, rfl, pb, prodI bs, rfl, t13.x, rfl, prod_pos hp, fun vb H14 b14 x14 pl14 w14 _ => ?_⟩
        have t14 := t13.but b14 x14
        clear b14 x14 t13
        rw [show decide (decide (vl = V.non) = decide (valR xs.reverse bs.reverse + 1 = prodI bs)) = true by simp [hv]]
        simp only [and_assoc, rst, rs, re, ra, rq, rx, ro, rl, rl2, rsp, rz, rix, rln, rg, rd, rwi, at0, at1, at2, at3, upd_at, List.getElem?_cons_zero, List.getElem?_cons_succ, Option.some.injEq, exists_eq_left', exists_eq_left, List.set_cons_zero, List.set_cons_succ, true_and, and_true, HO.lst.injEq, HO.tup.injEq, exists_and_left, exists_eq, exists_eq', Br.t, Br.f, Be.t, Be.f, List.cons.injEq, List.append_nil, scal, if_true, if_false, ite_true, ite_false, eq_self_iff_true, decide_true, decide_false, Bool.not_true, Bool.not_false, reduceIte, List.nil_append, List.cons_append, reduceCtorEq, false_and, exists_false, false_or, or_false, Int.reduceLT]
        obtain ⟨nb, enb⟩ := pl14.ty
        refine ⟨_, _, _, rfl, .inr ⟨rfl, pa, _, bs, nb, rfl, t14.a, rfl, hp, bl12, enb, w14, fun H15 q15 s15 _ hq15 => ?_⟩⟩
        refine ⟨_, _, rfl, q15, rfl, hq15, pl14.same s15, fun H16 s16 => ?_⟩
        have t16 := (t14.same s15).same s16
        clear t14 s15 s16 hq15 pl14 enb
        simp only [and_assoc, rst, rs, re, ra, rq, rx, ro, rl, rl2, rsp, rz, rix, rln, rg, rd, rwi, at0, at1, at2, at3, upd_at, List.getElem?_cons_zero, List.getElem?_cons_succ, Option.some.injEq, exists_eq_left', exists_eq_left, List.set_cons_zero, List.set_cons_succ, true_and, and_true, HO.lst.injEq, HO.tup.injEq, exists_and_left, exists_eq, exists_eq', Br.t, Br.f, Be.t, Be.f, List.cons.injEq, List.append_nil, scal, if_true, if_false, ite_true, ite_false, eq_self_iff_true, decide_true, decide_false, Bool.not_true, Bool.not_false, reduceIte, List.nil_append, List.cons_append, reduceCtorEq, false_and, exists_false, false_or, or_false, Int.reduceLT]
        refine fun pg hpg => ?_
        have t17 := t16.same (Same.new (o := .lst [.int (valR xs.reverse bs.reverse)]) hpg)
        have fg := Same.free t16.s hpg
        have npa := ne_of_none t16.a hpg
        have npd := ne_of_none t16.d hpg
        have nph := ne_of_none t16.h hpg
        have npz := ne_of_none t16.z hpg
        have npb : pb ≠ pg := by obtain ⟨_, _, _, x⟩ := t16.x; exact ne_of_none x hpg
        have g17 : upd H16 pg (.lst [.int (valR xs.reverse bs.reverse)]) pg = some (.lst [.int (valR xs.reverse bs.reverse)]) := upd_same
        generalize upd H16 pg (.lst [.int (valR xs.reverse bs.reverse)]) = H17 at *
        refine ⟨_, _, _, rfl, .inr ⟨rfl, pa, _, bs, "list", rfl, t17.a, rfl, hp, bl12, by rw [tyN, g17]; rfl, rfl, fun H18 q18 s18 hf18 hq18 => ?_⟩⟩
        have t18 := t17.same s18
        have g18 := s18 _ _ g17
        have nqg : q18 ≠ pg := (ne_of_none g17 hf18).symm
        simp only [and_assoc, rst, rs, re, ra, rq, rx, ro, rl, rl2, rsp, rz, rix, rln, rg, rd, rwi, at0, at1, at2, at3, upd_at, List.getElem?_cons_zero, List.getElem?_cons_succ, Option.some.injEq, exists_eq_left', exists_eq_left, List.set_cons_zero, List.set_cons_succ, true_and, and_true, HO.lst.injEq, HO.tup.injEq, exists_and_left, exists_eq, exists_eq', Br.t, Br.f, Be.t, Be.f, List.cons.injEq, List.append_nil, scal, if_true, if_false, ite_true, ite_false, eq_self_iff_true, decide_true, decide_false, Bool.not_true, Bool.not_false, reduceIte, List.nil_append, List.cons_append, reduceCtorEq, false_and, exists_false, false_or, or_false, Int.reduceLT, g18]
        have t19 : StL H pb pa D ph pz bs xs (upd H18 pg (.lst [V.int (valR xs.reverse bs.reverse), V.int 1])) := by
          obtain ⟨z0, z1, z2, x⟩ := t18.x
          exact ⟨Same.mut t18.s fg, ⟨z0, z1, z2, by rw [upd_ne npb]; exact x⟩, by rw [upd_ne npa]; exact t18.a, by rw [upd_ne npd]; exact t18.d, by rw [upd_ne nph]; exact t18.h, by rw [upd_ne npz]; exact t18.z, t18.n, t18.na, t18.nd, t18.nh, t18.nz⟩
        have g19 : upd H18 pg (.lst [V.int (valR xs.reverse bs.reverse), V.int 1]) pg = some (.lst [V.int (valR xs.reverse bs.reverse), V.int 1]) := upd_same
        have q19 : upd H18 pg (.lst [V.int (valR xs.reverse bs.reverse), V.int 1]) q18 = some (.lst [.ref pg, .bl true, .bl true, .bl false]) := by rw [upd_ne nqg]; exact hq18
        refine ⟨by rw [sizeLine_eq]; exact (by decide : 1 < 16777216), ?_⟩
        generalize upd H18 pg (.lst [V.int (valR xs.reverse bs.reverse), V.int 1]) = H19 at *
        refine ⟨q18, _, rfl, SqL.of q19, fun p1 h1 => ?_⟩
        rw [show cutV [.ref pg, .bl true, .bl true, .bl false] none (some 1) = [.ref pg] from rfl]
        refine fun p2 h2 => ?_
        have t21 := (t19.same (Same.new (o := .lst [.ref pg]) h1)).same (Same.new (o := .lst [.ref pg]) h2)
        have g21 := Same.new (o := .lst [.ref pg]) h2 _ _ (Same.new (o := .lst [.ref pg]) h1 _ _ g19)
        have a21 := Same.new (o := .lst [.ref pg]) h2 _ _ (show upd H19 p1 (.lst [.ref pg]) p1 = _ from upd_same)
        have b21 : upd (upd H19 p1 (.lst [.ref pg])) p2 (.lst [.ref pg]) p2 = some (.lst [.ref pg]) := upd_same
        generalize upd (upd H19 p1 (.lst [.ref pg])) p2 (.lst [.ref pg]) = H21 at *
        refine ⟨.list [.list [.int (valR xs.reverse bs.reverse), .int 1]], .list [.list [.int (valR xs.reverse bs.reverse), .int 1]], .lst (SqL.of a21) (.cons (.lst (SqL.of g21) (.cons (.int _) (.cons (.int _) .nil))) .nil), .lst (SqL.of b21) (.cons (.lst (SqL.of g21) (.cons (.int _) (.cons (.int _) .nil))) .nil), rfl, rfl, ?_⟩
        rw [SeqAt.eqv_refl _ rfl]
        simp only [and_assoc, rst, rs, re, ra, rq, rx, ro, rl, rl2, rsp, rz, rix, rln, rg, rd, rwi, at0, at1, at2, at3, upd_at, List.getElem?_cons_zero, List.getElem?_cons_succ, Option.some.injEq, exists_eq_left', exists_eq_left, List.set_cons_zero, List.set_cons_succ, true_and, and_true, HO.lst.injEq, HO.tup.injEq, exists_and_left, exists_eq, exists_eq', Br.t, Br.f, Be.t, Be.f, List.cons.injEq, List.append_nil, scal, if_true, if_false, ite_true, ite_false, eq_self_iff_true, decide_true, decide_false, Bool.not_true, Bool.not_false, reduceIte, List.nil_append, List.cons_append, reduceCtorEq, false_and, exists_false, false_or, or_false, Int.reduceLT]
        refine fun p3 h3 => ?_
        have t22 := t21.same (Same.new (o := .lst []) h3)
        refine ne_ints (ms := []) (SqL.of t22.d) (SqL.of upd_same) ?_
        generalize upd H21 p3 (.lst []) = H22 at *
        have fin : ∀ H', But pb H22 H' → Same H H' := fun H' b q o ho => b _ _ (ne_of_none ho fb) (t22.s _ _ ho)
        refine ⟨_, rfl, Be.n (fun c => ?_) fun c => ?_⟩
        · refine ⟨_, _, _, rfl, pb, D, pa, xs, bs, rfl, t22.x, rfl, t22.d, rfl, t22.a, t22.nd, t22.na, hi4, hp, c, by omega, fun H23 b23 _ => ⟨_, rfl, Br.of (fun e => by cases e) fun _ => ?_⟩⟩
          simp only [and_assoc, rst, rs, re, ra, rq, rx, ro, rl, rl2, rsp, rz, rix, rln, rg, rd, rwi, at0, at1, at2, at3, upd_at, List.getElem?_cons_zero, List.getElem?_cons_succ, Option.some.injEq, exists_eq_left', exists_eq_left, List.set_cons_zero, List.set_cons_succ, true_and, and_true, HO.lst.injEq, HO.tup.injEq, exists_and_left, exists_eq, exists_eq', Br.t, Br.f, Be.t, Be.f, List.cons.injEq, List.append_nil, scal, if_true, if_false, ite_true, ite_false, eq_self_iff_true, decide_true, decide_false, Bool.not_true, Bool.not_false, reduceIte, List.nil_append, List.cons_append, reduceCtorEq, false_and, exists_false, false_or, or_false, Int.reduceLT]
          have z := fin _ b23
          exact z
        · have z := fin _ (fun _ _ _ h => h)
          exact z
  · rintro σ H' ⟨v1, v2, v3, v4, v5, v6, v7, v8, v9, v10, v11, v12, v13, v14, s, rfl⟩
    simp only [and_assoc, rst, rs, re, ra, rq, rx, ro, rl, rl2, rsp, rz, rix, rln, rg, rd, rwi, at0, at1, at2, at3, upd_at, List.getElem?_cons_zero, List.getElem?_cons_succ, Option.some.injEq, exists_eq_left', exists_eq_left, List.set_cons_zero, List.set_cons_succ, true_and, and_true, HO.lst.injEq, HO.tup.injEq, exists_and_left, exists_eq, exists_eq', Br.t, Br.f, Be.t, Be.f, List.cons.injEq, List.append_nil, scal, if_true, if_false, ite_true, ite_false, eq_self_iff_true, decide_true, decide_false, Bool.not_true, Bool.not_false, reduceIte, List.nil_append, List.cons_append, reduceCtorEq, false_and, exists_false, false_or, or_false, Int.reduceLT]
    exact q _
end
end Law

namespace Law
open PySem PySem.Spec PyProof.Rows L2 Sw
theorem sp_law_of {K : Fg} {H : Hp} {a : Addr} {ns : List Int} (h1 : ns.length ≤ 63) (h2 : SqL K H a (ns.map V.int)) : sp_law K [.ref a] H (fun v _ => v = .bl true) fun _ _ _ => False := ⟨_, rfl, a, ns, rfl, h2, h1, fun _ => rfl⟩
theorem all_ok {P : Program} {w : World} {K : Fg} {mg : Str → Option Value} {base : Heap} {fd : FuncData} (T : Tx K mg) (F_law : FunD K "law" "law" (defArgs s_law) (defBody s_law) (defScope s_law) [] [] (He.ga K "law") fd) : FnOk P w K mg base (L2.CX P w) 7 (He.ga K "law") fd ["script"] (sp_law K) := by
  have c_is_whole := ok_is_whole (P := P) (w := w) (base := base) T  
  have c_is_within := ok_is_within (P := P) (w := w) (base := base) T c_is_whole 
  have c_mixed := ok_mixed (P := P) (w := w) (base := base) T c_is_within (ex_NoNumber T)
  have c_product := ok_product (P := P) (w := w) (base := base) T  
  have c_unmixed := ok_unmixed (P := P) (w := w) (base := base) T c_is_within c_product (ex_NoNumber T)
  have c__law_cell_at := ok__law_cell_at (P := P) (w := w) (base := base) T  
  have c__law_box := ok__law_box (P := P) (w := w) (base := base) T  
  have c__law_take := ok__law_take (P := P) (w := w) (base := base) T  
  have c__law_whole := ok__law_whole (P := P) (w := w) (base := base) T  
  have c__law_worth := ok__law_worth (P := P) (w := w) (base := base) T  
  have c__law_next := ok__law_next (P := P) (w := w) (base := base) T  
  have c__law_refused := ok__law_refused (P := P) (w := w) (base := base) T c_mixed c_unmixed 
  have c__law_due := ok__law_due (P := P) (w := w) (base := base) T  
  have c__law_bad := ok__law_bad (P := P) (w := w) (base := base) T c__law_take 
  have c__law_back := ok__law_back (P := P) (w := w) (base := base) T c_unmixed c__law_whole 
  have c__law_spoilt := ok__law_spoilt (P := P) (w := w) (base := base) T c_mixed c__law_take c__law_refused c__law_due c__law_bad 
  exact ok_law T F_law c_mixed c_unmixed c__law_cell_at c__law_box c__law_take c__law_whole c__law_worth c__law_next c__law_refused c__law_due c__law_bad c__law_back c__law_spoilt
theorem fin {P : Program} {w : World} {K : Fg} {mg : Str → Option Value} {h : Heap} {fa : Addr} (KX : K.In h) (G : h.Ns mainGlobals mg) (c : sayX fp fn K) (hmg : mg ("law" : Str) = some (.ref fa)) :
    ∃ (K : PySem.W.Frag) (fd : FuncData) (sp : Sp), K.In h ∧ (∀ (s : Shared) (u : Value), BindsTo s fd ⟨[u], []⟩ [("script", u)]) ∧
        (∀ (H : Hp) (a : Addr) (ns : List Int), ns.length ≤ 63 → Only H → SqL K H a (ns.map V.int) → sp [.ref a] H (fun v _ => v = .bl true) fun _ _ _ => False) ∧
        ∀ base : Heap, K.In base → base.Ns mainGlobals mg → FnOk P w K mg base (fun _ _ _ _ _ _ => False) 7 fa fd ["script"] sp := by
  have T := tx_mk KX G c
  have e : fa = He.ga K "law" := Value.ref.inj (Option.some.inj (hmg.symm.trans T.g_law))
  exact fin_mk KX e T.F_law (fun _ _ _ _ _ _ us hl => match us, hl with | [_], _ => rfl) (fun H a ns h1 h2 => sp_law_of h1 h2) (fun fd base F => all_ok T F)
abbrev R : PySem.W.OpenRow := PySem.W.OpenLaw.row PySem.Challenge.rw_splitwide_k14_mixed_both_ways
abbrev hk : PySem.W.Hook := hkX 5 fp fn
def ob (s : PySem.W.SharedT) : He.AlD := obX fp fn (He.frG (HandSHeadRun.getT s) (asX (HandSHeadRun.getT s) 5))
theorem ob_eq (s : PySem.W.SharedT) : ob s = hk.obs s.abs := obX_eq (HandSHeadRun.getT_eq s)
def loose : List Str := ["SeedError", "NoNumber", "NoPlace", "is_whole", "is_within", "mixed", "product", "unmixed", "_law_cell_at", "_law_box", "_law_take", "_law_whole", "_law_worth", "_law_next", "_law_refused", "_law_due", "_law_bad", "_law_back", "_law_spoilt"]
theorem run (w : World) : HandSHeadRun.RunEq R (PySem.W.view R.prog [23]) hk ob 3000 loose w := by
  intro os
  kernel_rfl
end Law
open PySem PySem.W PySem.Calls PyProof.Rows
theorem PySem.Challenge.cw_splitwide_k14_mixed_both_ways_holds : PySem.Challenge.rw_splitwide_k14_mixed_both_ways.Holds := by
  w_on; o_law
  refine HandSHeadRun.head_any (r := OpenLaw.row PySem.Challenge.rw_splitwide_k14_mixed_both_ways) (q := view (OpenLaw.row PySem.Challenge.rw_splitwide_k14_mixed_both_ways).prog [23]) (H := Law.hk) (ob := Law.ob) (M := 3000) (loose := Law.loose) (d := HandSHeadRun.topDef (OpenLaw.row PySem.Challenge.rw_splitwide_k14_mixed_both_ways).prog 23) (kwd := []) Law.ob_eq
    (by kernel_rfl) (fun s => by kernel_rfl) Law.run (by kernel_rfl) (by kernel_rfl) (by kernel_rfl) (by rfl) (by first | assumption | decide +kernel) (by decide +kernel) ⟨rfl, rfl, rfl, rfl, rfl, by decide +kernel⟩ ?hw ?hc
  case hw => w_witness2
  case hc =>
    refine L2.walk_ofE (l := PySem.Challenge.rw_splitwide_k14_mixed_both_ways) (n := 63) (k := 7) (x := "script") (CX := fun _ _ _ _ _ _ => False) rfl (by decide) (by kernel_rfl) ⟨rfl, by decide, by decide⟩ ?F (fun _ _ _ _ z => z)
    intro w mg fa h Y G hmg0
    obtain ⟨K, KX, c⟩ := Y
    have hmg : mg ("law" : PySem.Str) = some (.ref fa) := by
      have e : (HandSHeadRun.topDef (OpenLaw.row PySem.Challenge.rw_splitwide_k14_mixed_both_ways).prog 23).name = ("law" : PySem.Str) := by kernel_rfl
      rw [← e]
      exact hmg0
    exact Law.fin KX G c hmg
