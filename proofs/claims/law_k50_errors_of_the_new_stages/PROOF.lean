import PyProof.Rows.All
import Wide.All
import OpenK.AllK
import Wide.FinOn
import HandS.ForMost
import HandS.Exc
import HandS.ExcOwn
import HandS.ExcInit
import HandS.ExcIs
import HandS.WordsExc
import HandS.Defaults
import HandS.IsInst
import HandS.CallLocal
import HandS.RevRange
import HandS.Rev
import HandS.Zip
import HandS.Style
import HandS.Wide
import HandS.WideBits
import HandS.Head0
import HandS.Head1
import HandS.Head2
import HandS.HeadEnd
import HandS.HeadHook1
import HandS.HeadHook2
import HandS.ExcField
import HandS.HeadWalk
import HandS.DeepEq
import HandS.TupAny
import HandS.More
import HandS.HeadHook3
import HandS.ExcValue
import HandS.Iter
import HandS.Dict
import HandS.WordsDict
import PySem.Challenge.RW_splitwide_k50_errors_of_the_new_stages
set_option Elab.async false
set_option linter.all false
set_option maxRecDepth 100000
set_option maxHeartbeats 0
/-! Own words over the layer: the head's facts as a Bool, callable defs, errors of the program's own. -/
namespace Sw
open PySem PySem.Spec PyProof.Rows L2
abbrev Fg := PySem.W.Frag
/-! ### the head: any Bool over the written part, and the defs -/
def obX (p : Fg → Bool) (fn : List He.DefD) (K : Fg) : He.AlD := (p K && fn.all (fun d => d.ok K), fn.map fun d => He.fnW K d.at_)
/-- what the module's names, and the table of the classes' own, reach in n steps -/
def asX (g : Addr → Option Obj) : Nat → List Addr
  | 0 => [mainGlobals, PySem.cStatics]
  | n + 1 => He.growD g (asX g n)
def sayX (p : Fg → Bool) (fn : List He.DefD) (K : Fg) : Prop := obX p fn K = He.valD fn
def hkX (n : Nat) (p : Fg → Bool) (fn : List He.DefD) : PySem.W.Hook where
  α := He.AlD
  obs := fun s => obX p fn (He.frG s.heap.get? (asX s.heap.get? n))
  val := fun _ => He.valD fn
  says := fun _ h => ∃ K : Fg, K.In h ∧ sayX p fn K
  of := fun _ _ e => ⟨_, He.frG_in, e⟩
  keeps := fun _ _ _ ⟨K, hK, c⟩ k => ⟨K, PySem.W.Frag.In.keeps hK k, c⟩
theorem obX_eq {n : Nat} {p : Fg → Bool} {fn : List He.DefD} {g : Addr → Option Obj} {s : Shared} (h : ∀ a, g a = s.heap.get? a) : obX p fn (He.frG g (asX g n)) = (hkX n p fn).obs s := by
  rw [show g = s.heap.get? from funext h] <;> rfl
theorem sayX.p {p : Fg → Bool} {fn : List He.DefD} {K : Fg} (c : sayX p fn K) : p K = true := (He.ba (congrArg (·.1) c)).1
theorem sayX.def_ {p : Fg → Bool} {fn : List He.DefD} {K : Fg} (c : sayX p fn K) (i : Nat) {d : He.DefD} (h : fn[i]? = some d := by rfl) :
    ∃ fd, FunD K d.name d.qual d.params d.body d.scope (d.dvs K) (d.kws K) (He.fAd K d.at_) fd := by
  have c2 : (fn.all fun d => d.ok K) = true := (He.ba (congrArg (·.1) c)).2
  have e : fn.map (fun d => He.fnW K d.at_) = fn.map He.DefD.val := congrArg (·.2) c
  have e2 : (fn.map fun d => He.fnW K d.at_)[i]? = (fn.map He.DefD.val)[i]? := by rw [e]
  rw [List.getElem?_map, List.getElem?_map, h] at e2
  exact He.DefD.funD (Option.some.inj e2) (List.all_eq_true.mp c2 d (List.mem_of_getElem? h))
/-! ### a def that may be called by its name -/
structure Cal (P : Program) (w : World) (K : Fg) (mg : Str → Option Value) (base : Heap) (k : Nat) (x : Str) (ps : List Str) (sp : Sp) : Prop where
  ex : ∃ fd : FuncData, FnOk P w K mg base (L2.CX P w) k (He.ga K x) fd ps sp ∧ Binds K fd ps []
  at_ : mg x = some (.ref (He.ga K x))
  kp : PySem.W.keepIn K (.ref (He.ga K x)) = true
section
variable {X : Cx} {k j : Nat} {x : Str} {ps : List Str} {sp : Sp} {E : XK} {p pos : Pos} {e : Expr} {es : List Expr} {t : TA}
theorem pe_cal (c : Cal X.prog X.w X.K X.mg X.base k x ps sp) (hr : Room j X.A) (hk : k ≤ j) (hx : Passes (L2.CX X.prog X.w) X E) (hg : Gl X x) (ha : PA X (e :: es) t)
    (hd : (x == ("__debug__" : Str)) = false := by decide) (he : starEach (e :: es) X.env = (false, eval e X.env) :: starEach es X.env := by rfl) (hpl : (backTo pos (starEach es X.env)).any (·.1) = false := by rfl) :
    PE X (.Call (.Name x p) (e :: es) [] pos) (tCall sp [] E t) := by
  obtain ⟨fd, F, b⟩ := c.ex
  exact pe_call F (hr.mono hk) hg c.at_ c.kp b .nil hx ha hd he hpl
theorem pe_cal0 (c : Cal X.prog X.w X.K X.mg X.base k x ps sp) (hr : Room j X.A) (hk : k ≤ j) (hx : Passes (L2.CX X.prog X.w) X E) (hg : Gl X x)
    (hd : (x == ("__debug__" : Str)) = false := by decide) : PE X (.Call (.Name x p) [] [] pos) (tCall sp [] E tNil) := by
  obtain ⟨fd, F, b⟩ := c.ex
  exact pe_call0 F (hr.mono hk) hg c.at_ c.kp b .nil hx hd
/-- within a try's body -/
theorem pe_calS {W : WX} (c : Cal X.prog X.w X.K X.mg X.base k x ps sp) (hr : Room j X.A) (hk : k ≤ j) (tk : Takes X W) (hg : Gl X x) (ha : PA X (e :: es) t)
    (hd : (x == ("__debug__" : Str)) = false := by decide) (he : starEach (e :: es) X.env = (false, eval e X.env) :: starEach es X.env := by rfl) (hpl : (backTo pos (starEach es X.env)).any (·.1) = false := by rfl) :
    PE X (.Call (.Name x p) (e :: es) [] pos) (tCallS sp (WE W) t) := by
  obtain ⟨fd, F, b⟩ := c.ex
  exact pe_callS F (hr.mono hk) hg c.at_ c.kp b (fun σ => passAt tk σ) ha hd he hpl
end
/-- one def of the text: its body's reading gives its promise -/
theorem cal_mk {P : Program} {w : World} {K : Fg} {mg : Str → Option Value} {base : Heap} {k : Nat} {x : Str} {N ps : List Str} {sp : Sp} {st : Stmt}
    (F : ∃ fd, FunD K x x (defArgs st) (defBody st) (defScope st) [] [] (He.ga K x) fd) (hm : mg x = some (.ref (He.ga K x))) (S : FnScope N ps (defScope st)) (len : ∀ vs H Q E, sp vs H Q E → vs.length = ps.length)
    (hb : ∀ (kV doc pm : Value) (an : Option Addr) (cdv ct : Value) (us : List Value), us.length = ps.length → bindArgs (PySem.W.fnOf x x (defArgs st) (defBody st) (defScope st) .none kV doc pm an cdv ct) ⟨us, []⟩ = pure (ps.zip us))
    (hbody : ∀ (cdv : Value) (A : Around) (outer : List Env) (s : Shared) (H : Hp) (vs : List V) (Q : VK) (E : XK), Room k (A.deeper (envOfC x (defScope st) s.heap.objs.size (He.ga K x) cdv)) → sp vs H Q E →
      ∃ t, PSs (cxOf (L2.CX P w) P w K mg base N x (defScope st) (He.ga K x) cdv A outer s H E) (defBody st) t ∧ t { nx := fun _ H' => Q .non H', rt := Q } (start N vs) H) : Cal P w K mg base (k + 1) x ps sp := by
  obtain ⟨fd, F⟩ := F
  exact ⟨⟨fd, F.ok S len hbody, F.bindsN hb⟩, hm, F.kp⟩
theorem Cal.imp {P : Program} {w : World} {K : Fg} {mg : Str → Option Value} {base : Heap} {k : Nat} {x : Str} {ps : List Str} {sp sp' : Sp} (c : Cal P w K mg base k x ps sp) (h : ∀ vs H Q E, sp' vs H Q E → sp vs H Q E) :
    Cal P w K mg base k x ps sp' := by
  obtain ⟨⟨fd, F, b⟩, a, kp⟩ := c
  exact ⟨⟨fd, F.imp h, b⟩, a, kp⟩
end Sw

/-! Readings by simp: each reading opened when it stands at its slots and its heap, branches kept shut. -/
namespace Sw
open PySem PySem.Spec PyProof.Rows L2
/-- a branch that waits -/
def Br (b : Bool) (f g : L2.St → Hp → Prop) (σ : L2.St) (H : Hp) : Prop := if b = true then f σ H else g σ H
theorem Br.t {f g : L2.St → Hp → Prop} {σ : L2.St} {H : Hp} : Br true f g σ H = f σ H := by unfold Br; rw [if_pos rfl]
theorem Br.f {f g : L2.St → Hp → Prop} {σ : L2.St} {H : Hp} : Br false f g σ H = g σ H := by unfold Br; rw [if_neg (by decide)]
theorem Br.of {b : Bool} {f g : L2.St → Hp → Prop} {σ : L2.St} {H : Hp} (h1 : b = true → f σ H) (h2 : b = false → g σ H) : Br b f g σ H := by
  cases b with
  | true => rw [Br.t]; exact h1 rfl
  | false => rw [Br.f]; exact h2 rfl
theorem Br.d {p : Prop} [Decidable p] {f g : L2.St → Hp → Prop} {σ : L2.St} {H : Hp} (h1 : p → f σ H) (h2 : ¬ p → g σ H) : Br (decide p) f g σ H := .of (fun h => h1 (of_decide_eq_true h)) fun h => h2 (of_decide_eq_false h)
theorem Br.n {p : Prop} [Decidable p] {f g : L2.St → Hp → Prop} {σ : L2.St} {H : Hp} (h1 : ¬ p → f σ H) (h2 : p → g σ H) : Br (!decide p) f g σ H := .of (fun h => h1 (of_decide_eq_false (by simpa using h))) fun h => h2 (by simpa using h)
/-- a value's branch that waits -/
def Be (b : Bool) (f g : Hp → Prop) (H : Hp) : Prop := if b = true then f H else g H
theorem Be.t {f g : Hp → Prop} {H : Hp} : Be true f g H = f H := by unfold Be; rw [if_pos rfl]
theorem Be.f {f g : Hp → Prop} {H : Hp} : Be false f g H = g H := by unfold Be; rw [if_neg (by decide)]
theorem Be.of {b : Bool} {f g : Hp → Prop} {H : Hp} (h1 : b = true → f H) (h2 : b = false → g H) : Be b f g H := by
  cases b with
  | true => rw [Be.t]; exact h1 rfl
  | false => rw [Be.f]; exact h2 rfl
theorem Be.d {p : Prop} [Decidable p] {f g : Hp → Prop} {H : Hp} (h1 : p → f H) (h2 : ¬ p → g H) : Be (decide p) f g H := .of (fun h => h1 (of_decide_eq_true h)) fun h => h2 (of_decide_eq_false h)
theorem Be.n {p : Prop} [Decidable p] {f g : Hp → Prop} {H : Hp} (h1 : ¬ p → f H) (h2 : p → g H) : Be (!decide p) f g H := .of (fun h => h1 (of_decide_eq_false (by simpa using h))) fun h => h2 (by simpa using h)
theorem upd_at {H : Hp} {a b : Addr} {o : HO} : upd H a o b = if b = a then some o else H b := rfl
theorem rs : (∀ t u D σ H, tSeq t u D σ H = t ⟨u D, D.rt, D.bk, D.ct⟩ σ H) ∧ (∀ D σ H, tNext D σ H = D.nx σ H) ∧ (∀ D σ H, tBreak D σ H = D.bk σ H) ∧ (∀ D σ H, tCont D σ H = D.ct σ H) ∧
    (∀ te g D σ H, tAsg te g D σ H = te σ H fun x H1 => g x σ H1 D.nx) ∧ (∀ te D σ H, tDrop te D σ H = te σ H fun _ H1 => D.nx σ H1) ∧ (∀ te D σ H, tRet te D σ H = te σ H D.rt) ∧ (∀ D σ H, tRetN D σ H = D.rt .non H) ∧
    (∀ c t u D σ H, tIfS c t u D σ H = c σ H fun b H1 => Br b (t D) (u D) σ H1) ∧
    (∀ i j ta D σ H, tPar i j ta D σ H = ta σ H fun vs H1 => ∃ v w, vs = [v, w] ∧ D.nx ((σ.set i (some v)).set j (some w)) H1) ∧
    (∀ i te ti D σ H, tAug i te ti D σ H = ∃ x, σ[i]? = some (some x) ∧ te σ H fun y H1 => ti x y H1 fun z H2 => D.nx (σ.set i (some z)) H2) ∧
    (∀ i v σ H Q, gName i v σ H Q = Q (σ.set i (some v)) H) ∧ (∀ vs σ H Q, gNil vs σ H Q = (vs = [] ∧ Q σ H)) ∧ (∀ t u vs σ H Q, gCons t u vs σ H Q = ∃ v r, vs = v :: r ∧ t v σ H fun σ' H' => u r σ' H' Q) ∧
    (∀ to ti t v σ H Q, gSub to ti t v σ H Q = to σ H fun o H1 => ti σ H1 fun i H2 => t o i v H2 fun H3 => Q σ H3) ∧
    (∀ b f g σ H, Br b f g σ H = Br b f g σ H) := by
  refine ⟨?_, ?_, ?_, ?_, ?_, ?_, ?_, ?_, ?_, ?_, ?_, ?_, ?_, ?_, ?_, ?_⟩ <;> intros <;> rfl
theorem re : (∀ i σ H Q, tVar i σ H Q = ∃ v, σ[i]? = some (some v) ∧ Q v H) ∧ (∀ v σ H Q, tC v σ H Q = Q v H) ∧
    (∀ r ta tb σ H Q, tOp r ta tb σ H Q = ta σ H fun x H1 => tb σ H1 fun y H2 => r x y H2 Q) ∧ (∀ r ta σ H Q, tUn r ta σ H Q = ta σ H fun x H1 => r x H1 Q) ∧
    (∀ g x y H Q, rI0 g x y H Q = ∃ i j, x = .int i ∧ y = .int j ∧ Q (g i j) H) ∧ (∀ C g x y H Q, rI C g x y H Q = ∃ i j, x = .int i ∧ y = .int j ∧ C i j ∧ Q (g i j) H) ∧ (∀ g x H Q, rU g x H Q = ∃ i, x = .int i ∧ Q (g i) H) ∧
    (∀ x y H Q, L2.rEq x y H Q = (scal x y = true ∧ Q (.bl (decide (x = y))) H)) ∧ (∀ x y H Q, L2.rNe x y H Q = (scal x y = true ∧ Q (.bl (!decide (x = y))) H)) ∧
    (∀ t σ H Q, tTest t σ H Q = t σ H fun x H1 => ∃ k, x = .bl k ∧ Q k H1) ∧ (∀ t σ H Q, tB t σ H Q = t σ H fun x H1 => ∃ k, x = .bl k ∧ Q k H1) ∧
    (∀ t u σ H Q, tAnd t u σ H Q = t σ H fun c H1 => Be c (fun H2 => u σ H2 Q) (Q false) H1) ∧ (∀ t u σ H Q, tOr t u σ H Q = t σ H fun c H1 => Be c (Q true) (fun H2 => u σ H2 Q) H1) ∧ (∀ t σ H Q, tNot t σ H Q = t σ H fun c H1 => Q (!c) H1) ∧
    (∀ ta tb σ H Q, tAndV ta tb σ H Q = ta σ H fun x H1 => ∃ c, x = .bl c ∧ Be c (fun H2 => tb σ H2 Q) (Q (.bl false)) H1) ∧ (∀ ta tb σ H Q, tOrV ta tb σ H Q = ta σ H fun x H1 => ∃ c, x = .bl c ∧ Be c (Q (.bl true)) (fun H2 => tb σ H2 Q) H1) ∧
    (∀ ta σ H Q, tNotV ta σ H Q = ta σ H fun x H1 => ∃ c, x = .bl c ∧ Q (.bl (!c)) H1) ∧ (∀ t ta tb σ H Q, tIf t ta tb σ H Q = t σ H fun c H1 => Be c (fun H2 => ta σ H2 Q) (fun H2 => tb σ H2 Q) H1) ∧
    (∀ r r' ta tb tc σ H Q, tChain r r' ta tb tc σ H Q = ta σ H fun x H1 => tb σ H1 fun y H2 => r x y H2 fun z H3 => ∃ k, z = .bl k ∧ Be k (fun H4 => tc σ H4 fun w' H5 => r' y w' H5 Q) (Q (.bl false)) H3) := by
  refine ⟨?_, ?_, ?_, ?_, ?_, ?_, ?_, ?_, ?_, ?_, ?_, ?_, ?_, ?_, ?_, ?_, ?_, ?_, ?_⟩ <;> intros <;> rfl
theorem ra : (∀ σ H Q, tNil σ H Q = Q [] H) ∧ (∀ ta tr σ H Q, tCons ta tr σ H Q = ta σ H fun x H1 => tr σ H1 fun xs H2 => Q (x :: xs) H2) ∧ (∀ t σ H Q, tTup t σ H Q = t σ H fun xs H1 => xs.length ≤ sizeLine ∧ ∀ p, H1 p = none → Q (.ref p) (upd H1 p (.tup xs))) ∧
    (∀ t σ H Q, tLst t σ H Q = t σ H fun xs H1 => xs.length ≤ sizeLine ∧ ∀ p, H1 p = none → Q (.ref p) (upd H1 p (.lst xs))) ∧ (∀ sp dvs E t σ H Q, tCall sp dvs E t σ H Q = t σ H fun vs H1 => sp (vs ++ dvs) H1 Q E) ∧
    (∀ sp E t σ H Q, tCallS sp E t σ H Q = t σ H fun vs H1 => sp vs H1 Q (E σ)) ∧ (∀ r t σ H Q, tCB r t σ H Q = t σ H fun vs H1 => r vs H1 Q) ∧
    (∀ σ H Q, tNoPart σ H Q = Q none H) ∧ (∀ t σ H Q, tPart t σ H Q = t σ H fun x H1 => ∃ i, x = .int i ∧ Q (some i) H1) ∧ (∀ r te tl th σ H Q, tSl r te tl th σ H Q = te σ H fun x H1 => tl σ H1 fun l H2 => th σ H2 fun u H3 => r x l u H3 Q) ∧
    (∀ K T r to σ H Q, tBM0 K T r to σ H Q = to σ H fun x H1 => tyV K T x H1 ∧ r x [] H1 Q) ∧ (∀ K T r to t σ H Q, tBM K T r to t σ H Q = to σ H fun x H1 => tyV K T x H1 ∧ t σ H1 fun xs H2 => r x xs H2 Q) ∧
    (∀ K ta σ H Q, tVeI K ta σ H Q = ta σ H fun vs H1 => ∃ (a C : Addr) (ws : List V), vs = .ref a :: ws ∧ ws.length ≤ 1000 ∧ OexC K C ∧ H1 a = some (exo a C none) ∧ Q .non H1) := by
  refine ⟨?_, ?_, ?_, ?_, ?_, ?_, ?_, ?_, ?_, ?_, ?_, ?_, ?_⟩ <;> intros <;> rfl
/-! ### sequences by their place -/
def seqO : HO → Option (List V)
  | .lst xs => some xs
  | .tup xs => some xs
  | .frz _ (.lst xs) => some xs
  | .frz _ (.tup xs) => some xs
  | _ => none
theorem seqO_sq {K : Fg} {H : Hp} {p : Addr} {o : HO} {xs : List V} (h : H p = some o) (e : seqO o = some xs) : SqL K H p xs ∨ SqT K H p xs := by
  unfold seqO at e
  split at e <;> first
    | (cases e; exact .inl (.inl (.inl h)))
    | (cases e; exact .inr (.inl (.inl h)))
    | (cases e; exact .inl (.inl (.inr ⟨_, h⟩)))
    | (cases e; exact .inr (.inl (.inr ⟨_, h⟩)))
    | cases e
def rIxQ : R2 := fun x y H Q => ∃ p o xs i v, x = .ref p ∧ H p = some o ∧ seqO o = some xs ∧ y = .int i ∧ atI xs i = some v ∧ Q v H
theorem ix_q {X : Cx} : IxR X rIxQ := fun value slice pins s σ H x y v u Q I rx ry h hp => by
  obtain ⟨p, o, xs, i, z, rfl, ho, hs, rfl, ha, q⟩ := h
  rcases seqO_sq (K := X.K) ho hs with l | l
  · exact ix_list value slice pins s σ H _ _ v u Q I rx ry ⟨p, xs, i, z, rfl, rfl, l, ha, q⟩ hp
  · exact ix_tup value slice pins s σ H _ _ v u Q I rx ry ⟨p, xs, i, z, rfl, rfl, l, ha, q⟩ hp
def rLenQ : List V → Hp → VK → Prop := fun vs H Q => ∃ p o xs, vs = [.ref p] ∧ H p = some o ∧ seqO o = some xs ∧ Q (.int (xs.length : Nat)) H
theorem len_q {X : Cx} : CallR X (.builtin "len") rLenQ := fun pins s σ H xs us Q I r h => by
  obtain ⟨p, o, ys, rfl, ho, hs, q⟩ := h
  exact call_len_seq pins s σ H _ us Q I r ⟨p, ys, rfl, seqO_sq ho hs, q⟩
/-- list(t), a new list -/
def rLstQ : List V → Hp → VK → Prop := fun vs H Q => ∃ p o xs, vs = [.ref p] ∧ H p = some o ∧ seqO o = some xs ∧ ∀ l, H l = none → Q (.ref l) (upd H l (.lst xs))
theorem lst_q {X : Cx} : CallR X (.type "list") rLstQ := fun pins s σ H xs us Q I r h => by
  obtain ⟨p, o, ys, rfl, ho, hs, q⟩ := h
  exact call_list_of pins s σ H _ us Q I r ⟨p, ys, rfl, seqO_sq ho hs, q⟩
/-- tuple(l) of a list -/
def rTupQ : List V → Hp → VK → Prop := fun vs H Q => ∃ p xs, vs = [.ref p] ∧ H p = some (.lst xs) ∧ ∀ l, H l = none → Q (.ref l) (upd H l (.tup xs))
theorem tup_q {X : Cx} : CallR X (.type "tuple") rTupQ := fun pins s σ H xs us Q I r h => by
  obtain ⟨p, ys, rfl, ho, q⟩ := h
  exact call_tuple_of pins s σ H _ us Q I r ⟨p, ys, rfl, .inl ⟨SqL.of ho, q⟩⟩
/-! ### products -/
def MulOk (i j : Int) : Prop := CMul i j ∨ CMulW i j
theorem op_mulA {X : Cx} : OpR X (binaryOp .Mult) (rI MulOk fun i j => .int (i * j)) := fun pins s σ H x y v u Q I rx ry h => by
  obtain ⟨i, j, rfl, rfl, c, q⟩ := h
  rcases c with c | c
  · exact op_mul pins s σ H _ _ v u Q I rx ry ⟨i, j, rfl, rfl, c, q⟩
  · exact op_mulW pins s σ H _ _ v u Q I rx ry ⟨i, j, rfl, rfl, c, q⟩
theorem rq : (∀ x y H Q, rIxQ x y H Q = ∃ p o xs i v, x = .ref p ∧ H p = some o ∧ seqO o = some xs ∧ y = .int i ∧ atI xs i = some v ∧ Q v H) ∧ (∀ vs H Q, rLenQ vs H Q = ∃ p o xs, vs = [.ref p] ∧ H p = some o ∧ seqO o = some xs ∧ Q (.int (xs.length : Nat)) H) ∧
    (∀ vs H Q, rLstQ vs H Q = ∃ p o xs, vs = [.ref p] ∧ H p = some o ∧ seqO o = some xs ∧ ∀ l, H l = none → Q (.ref l) (upd H l (.lst xs))) ∧ (∀ vs H Q, rTupQ vs H Q = ∃ p xs, vs = [.ref p] ∧ H p = some (.lst xs) ∧ ∀ l, H l = none → Q (.ref l) (upd H l (.tup xs))) ∧
    (∀ xs, seqO (.lst xs) = some xs) ∧ (∀ xs, seqO (.tup xs) = some xs) ∧ (∀ o xs, seqO (.frz o (.lst xs)) = some xs) ∧ (∀ o i v H Q, rSetL o i v H Q = ∃ p xs k j, o = .ref p ∧ i = .int k ∧ H p = some (.lst xs) ∧ ixN xs.length k = some j ∧ Q (upd H p (.lst (xs.set j v)))) ∧
    (∀ x vs H Q, rAppend x vs H Q = ∃ l xs y, x = .ref l ∧ vs = [y] ∧ H l = some (.lst xs) ∧ xs.length < sizeLine ∧ Q .non (upd H l (.lst (xs ++ [y])))) ∧ (∀ x vs H Q, rClear x vs H Q = ∃ l xs, x = .ref l ∧ vs = [] ∧ H l = some (.lst xs) ∧ Q .non (upd H l (.lst []))) := by
  refine ⟨?_, ?_, ?_, ?_, ?_, ?_, ?_, ?_, ?_, ?_⟩ <;> intros <;> rfl
theorem at0 {a : V} {l : List V} : atI (a :: l) 0 = some a := by simp [atI, ixN]
theorem at1 {a b : V} {l : List V} : atI (a :: b :: l) 1 = some b := by
  have : (1 : Int) < (l.length : Int) + 1 + 1 := by omega
  simp [atI, ixN, this]
theorem at2 {a b c : V} {l : List V} : atI (a :: b :: c :: l) 2 = some c := by
  have : (2 : Int) < (l.length : Int) + 1 + 1 + 1 := by omega
  simp [atI, ixN, this]
theorem at3 {a b c d : V} {l : List V} : atI (a :: b :: c :: d :: l) 3 = some d := by
  have : (3 : Int) < (l.length : Int) + 1 + 1 + 1 + 1 := by omega
  simp [atI, ixN, this]
/-- what simp opens besides -/
theorem rx : (∀ (v : V) l, some v = some l ↔ v = l) ∧ (∀ (a b : Int), V.int a = V.int b ↔ a = b) ∧ (∀ (a b : Bool), V.bl a = V.bl b ↔ a = b) ∧ (∀ (a b : Addr), V.ref a = V.ref b ↔ a = b) ∧ (∀ (a b : Str), V.str a = V.str b ↔ a = b) := by
  refine ⟨?_, ?_, ?_, ?_, ?_⟩ <;> intros <;> simp
theorem rst : (∀ x N v vs, L2.start (x :: N) (v :: vs) = some v :: L2.start N vs) ∧ (∀ x N, L2.start (x :: N) [] = none :: L2.start N []) ∧ (L2.start [] [] = []) := by
  refine ⟨?_, ?_, ?_⟩ <;> intros <;> simp [L2.start, List.replicate_succ]
theorem rg : (∀ (a : V) (l : List V), ([] : List V) = a :: l ↔ False) ∧ (∀ (a : V) (l : List V), a :: l = ([] : List V) ↔ False) ∧ (∀ o u : HO, some o = some u ↔ o = u) := by
  refine ⟨?_, ?_, ?_⟩ <;> intros <;> simp
end Sw

/-! Errors of the program's own: a class over SeedError (over ValueError) whose __init__ says SeedError.__init__(self, text) and keeps one thing. -/
namespace PySem.W
open PySem.Calls PyProof.Rows
section
variable {prog : Program} {w : World} {A : Around} {E : Value → Shared → Prop} {s : Shared} {K : Frag} {x D : Addr} {ox : Obj} {od : Option Obj}
theorem sw_findData {C : Addr} {name : Str} {a g : Value} (hc : (clsIn K C).isSome = true) (ha : findIn K (.ref C) name = some (some a)) (hg : specialIn K a "__get__" = some (some g)) (ht : takesIn K a = some true) : findObj K C od name = some (.bind g a) := by
  obtain ⟨cd, q⟩ := Option.isSome_iff_exists.mp hc
  unfold findObj
  rw [q]
  simp [ha, hg, ht]
/-- the class of an exception that may have its own dict -/
theorem sw_classE {Q : Option Value → Shared → Prop} (hga : findIn K (.ref D) "__getattribute__" = some (some (.builtin "BaseException.__getattribute__"))) (hgt : findIn K (.ref D) "__getattr__" = some none) (hsub : subIn K (.ref D) (.type "BaseException") = some true)
    (hdct : hasDictIn K D = true) (ha : findIn K (.ref D) "__class__" = some (some (.builtin "object.__class__")))
    (hn : specialIn K (.builtin "object.__class__") "__get__" = some (some (.builtin "getset_descriptor.__get__"))) (htk : takesIn K (.builtin "object.__class__") = some true) (hm : mroIn K D (.type "object") = some true)
    (X : K.In s.heap) (I : InstAt s.heap x ox D od) (h : Q (some (.ref D)) { s with toks := s.toks + 1 }) : wpAny (model prog w) A (getAttr? (.ref x) "__class__") Q E s := by
  have hfo : findObj K D od "__class__" = some (.bind (.builtin "getset_descriptor.__get__") (.builtin "object.__class__")) := sw_findData (by obtain ⟨cd, hc, _⟩ := any_some hdct; rw [hc] <;> rfl) ha hn htk
  obtain ⟨hp, g, d, t, os⟩ := s
  have la := I.type (M := model prog w)
  have lb := looks_findIn (M := model prog w) X hga
  have lc := looks_findIn (M := model prog w) X hgt
  have ld := looks_find (M := model prog w) X I hfo
  have ls : Looks (model prog w) hp (isInstance (.ref x) (.type "BaseException")) true := la.andThen (looks_subIn X hsub)
  have k2 : (Value.builtin "BaseException.__getattribute__" == Value.builtin "object.__getattribute__") = false := by decide +kernel
  have k1 : (onTheHeap (Value.ref D) && Value.builtin "BaseException.__getattribute__" == Value.builtin "object.__getattribute__") = false := by rw [k2] <;> rfl
  unfold getAttr? getAttrBy? getAttrBy
  refine wpAny_bind (wpAny_mkText (wpAny_bind (wpAny_attempt (wpAny_holding (wpAny_bind (la.at (wpAny_bind (lb.at ?_))))))))
  show wpAny _ _ (if (onTheHeap (Value.ref D) && Value.builtin "BaseException.__getattribute__" == Value.builtin "object.__getattribute__") = true then _ else _) _ _ _
  rw [k1, if_neg (by decide)]
  unfold getAttrByItsOwn hookBefore
  refine wpAny_bind ?_
  rw [if_pos (by rfl : onTheHeap (Value.ref D) = true)]
  refine lc.at ?_
  refine wpAny_bind (wpAny_attempt (wpAny_holding ?_))
  unfold callGetattribute
  rw [show (false && onTheHeap (Value.builtin "BaseException.__getattribute__")) = false from rfl, if_neg (by decide)]
  unfold boundAndCalled
  rw [PySem.F.excAttr_ValueError.ga.bind (.ref x)]
  refine wpAny_bind (wpAny_pure ?_)
  show wpAny _ _ (call (.builtin "BaseException.__getattribute__") [.ref x, .str "__class__" t]) _ _ _
  refine wpAny_call (codeAny_call_builtin PySem.F.excAttr_ValueError.ga.plain PySem.F.entry_bexc_ga ?_)
  refine @check_slot (model prog w) _ _ ⟨hp, g, d, t + 1, os⟩ "BaseException.__getattribute__" "BaseException" "__getattribute__" (.ref x) [.str "__class__" t] [] _ (by decide +kernel) (by decide +kernel) ls (PySem.F.args_bexc_ga (.ref x) (.str "__class__" t)) ?_
  unfold Builtin.«object.__getattribute__»
  refine wpAny_bind (wpAny_of_eq (a := ((Value.ref x : Value), [Value.str "__class__" t])) (by first | rfl | (simp only [slotArgs] <;> rfl)) ?_)
  refine wpAny_bind (wpAny_pure (wpAny_bind (la.at (wpAny_bind (ld.at ?_)))))
  show wpAny _ _ (holding [Value.builtin "object.__class__"] (call (.builtin "getset_descriptor.__get__") [.builtin "object.__class__", .ref x, .ref D]) >>= ret) _ _ _
  refine wpAny_bind (wpAny_holding (wpAny_call (class_get (s := ⟨hp, g, d, t + 1, os⟩) (ox := ox) (od := od) X I hm ?_)))
  refine wpAny_pure ?_
  show wpAny _ _ (handedOut (.ref D)) _ _ _
  rw [handedOut_of (v := .ref D) rfl]
  first
    | exact wpAny_pure (wpAny_pure h)
    | exact wpAny_pure h
    | exact wpAny_pure (wpAny_bind (wpAny_pure (wpAny_pure h)))
theorem sw_kitE (hga : findIn K (.ref D) "__getattribute__" = some (some (.builtin "BaseException.__getattribute__"))) (hgt : findIn K (.ref D) "__getattr__" = some none) (hsub : subIn K (.ref D) (.type "BaseException") = some true)
    (hdct : hasDictIn K D = true) (ha : findIn K (.ref D) "__class__" = some (some (.builtin "object.__class__")))
    (hn : specialIn K (.builtin "object.__class__") "__get__" = some (some (.builtin "getset_descriptor.__get__"))) (htk : takesIn K (.builtin "object.__class__") = some true) (hm : mroIn K D (.type "object") = some true) :
    KitX K (.ref x) (.ref D) (fun h => InstAt h x ox D od) where
  ty := fun _ _ _ I => I.type
  it := fun _ _ X _ => by
    obtain ⟨cd, hc, _⟩ := any_some hdct
    unfold clsIn at hc
    split at hc
    · rename_i e1 e2 e3 e4 ho
      intro A' Q' E' s' k q
      unfold isType loadHead
      exact wpAny_bind (wpAny_loadPart (k _ _ (X _ _ ho)) (wpAny_pure q))
    · cases hc
  ne := fun h tp dd its n sl X htp => by
    obtain ⟨cd, hc, _⟩ := any_some hdct
    refine Bool.eq_false_iff.mpr fun q => ?_
    have e : D = tp := Value.ref.inj (beq_iff_eq.mp q)
    subst e
    unfold clsIn at hc
    split at hc
    · rename_i e1 e2 e3 e4 ho
      have z := (X _ _ ho).symm.trans htp
      cases z
    · cases hc
  ca := fun X I k => sw_classE hga hgt hsub hdct ha hn htk hm X I k
end
end PySem.W
namespace Sw
open PySem PySem.Spec PyProof.Rows L2
/-! ### what the head says of such a class, as one Bool -/
def excB (K : Fg) (C : Addr) : Bool := match K.lookup C with
  | some ⟨.type "type", _, .cls cd, sl⟩ => (match cd.mro, sl.toList with
    | .ref C' :: bm, [_, _, _, _, some (.builtin n), _] => decide (C' = C) && (decide (n = "ValueError.__new__") && (!cd.hasDel && (cd.hasDict && PySem.HandSPX.refsVE bm)))
    | _, _ => false)
  | _ => false
def exB (K : Fg) (C : Addr) : Bool := excB K C && (decide (PySem.W.findIn K (.ref C) "__setattr__" = some (some (.builtin "object.__setattr__"))) && (xfB K C && (decide (PySem.W.typeIn K (.ref C) = some (.type "type")) && (PySem.W.keepIn K (.ref C) &&
  (decide (PySem.W.findIn K (.ref C) "__class__" = some (some (.builtin "object.__class__"))) && (decide (PySem.W.mroIn K C (.type "object") = some true) &&
  (decide (PySem.W.specialIn K (.builtin "object.__class__") "__get__" = some (some (.builtin "getset_descriptor.__get__"))) && decide (PySem.W.takesIn K (.builtin "object.__class__") = some true))))))))
structure ExC (K : Fg) (C : Addr) : Prop where
  ox : OexC K C
  xf : XfC K C
  cc : PySem.W.findIn K (.ref C) "__class__" = some (some (.builtin "object.__class__"))
  mo : PySem.W.mroIn K C (.type "object") = some true
  gs : PySem.W.specialIn K (.builtin "object.__class__") "__get__" = some (some (.builtin "getset_descriptor.__get__"))
  tk : PySem.W.takesIn K (.builtin "object.__class__") = some true
theorem excB_ok {K : Fg} {C : Addr} (h : excB K C = true) : ∃ nm q N bs bm sn sub ab col dd k0 k1 k2 k3 k5, K.lookup C = some (excClassObj nm q C N bs bm true sn sub ab col dd k0 k1 k2 k3 k5 "ValueError.__new__") ∧ PySem.HandSPX.refsVE bm = true := by
  unfold excB at h
  split at h
  · rename_i dd cd sl ho
    split at h
    · rename_i C' bm k0 k1 k2 k3 n k5 hm hs
      simp only [Bool.and_eq_true, decide_eq_true_eq, Bool.not_eq_true'] at h
      obtain ⟨rfl, rfl, h3, h4, h5⟩ := h
      obtain ⟨nm, bs, mro, ns, qn, hd, sn, sub, ab, col, dl⟩ := cd
      dsimp only at hm h3 h4
      subst hm h3 h4
      obtain ⟨sl⟩ := sl
      dsimp only at hs
      subst hs
      exact ⟨nm, qn, ns, bs, bm, sn, sub, ab, col, dd, k0, k1, k2, k3, k5, ho, h5⟩
    · cases h
  · cases h
theorem exB_ok {K : Fg} {C : Addr} (h : exB K C = true) : ExC K C := by
  unfold exB at h
  simp only [Bool.and_eq_true, decide_eq_true_eq] at h
  obtain ⟨h1, h2, h3, h4, h5, h6, h7, h8, h9⟩ := h
  have xf := xfB_ok h3
  exact ⟨⟨excB_ok h1, h2, xf.exC, h4, h5⟩, xf, h6, h7, h8, h9⟩
/-- SeedError.__init__: the base's, read off the class at C -/
def iniB (K : Fg) (C : Addr) : Bool := decide (PySem.W.specialIn K (.ref C) "__getattribute__" = some (some (.builtin "type.__getattribute__"))) && (PySem.W.readsIn K C (.type "type") &&
  (match PySem.W.findCls K (.ref C) (.type "type") "__init__" with
  | some (.val (.builtin n)) => decide (n = "ValueError.__init__")
  | _ => false))
structure IniC (K : Fg) (C : Addr) : Prop where
  sp : PySem.W.specialIn K (.ref C) "__getattribute__" = some (some (.builtin "type.__getattribute__"))
  rd : PySem.W.readsIn K C (.type "type") = true
  fc : PySem.W.findCls K (.ref C) (.type "type") "__init__" = some (.val (.builtin "ValueError.__init__"))
theorem iniB_ok {K : Fg} {C : Addr} (h : iniB K C = true) : IniC K C := by
  unfold iniB at h
  simp only [Bool.and_eq_true, decide_eq_true_eq] at h
  obtain ⟨h1, h2, h3⟩ := h
  refine ⟨h1, h2, ?_⟩
  split at h3
  · rename_i n q
    have e : n = "ValueError.__init__" := of_decide_eq_true h3
    rw [q, e]
  · cases h3
section
variable {X : Cx} {o e : Expr} {es : List Expr} {ta : TA} {S : Str} {p1 p2 pos : Pos} {Cs : Addr}
/-- S.__init__(self, ..), S a class of the program whose __init__ is ValueError's -/
theorem pe_sinit (I0 : IniC X.K Cs) (hg : Gl X S) (hm : X.mg S = some (.ref Cs)) (ha : PA X (e :: es) ta) (hl : (p2.endLine == pos.line) = true := by rfl) (hf : methodCallForm ((e :: es).length + ([] : List Keyword).length) (backTo pos (starEach (e :: es) X.env)) (backToKw pos (keywordEach [] X.env)) = true := by rfl)
    (hdb : (S == ("__debug__" : Str)) = false := by decide)
    (he : starEach (e :: es) X.env = (false, eval e X.env) :: starEach es X.env := by rfl) (hpl : (backTo pos (starEach es X.env)).any (·.1) = false := by rfl) :
    PE X (.Call (.Attribute (.Name S p1) "__init__" p2) (e :: es) [] pos) (tVeI X.K ta) := by
  refine ⟨fun pins s σ H Q I h => ?_⟩
  have hc : eval (.Call (.Attribute (.Name S p1) "__init__" p2) (e :: es) [] pos) X.env = (do
      let ov ← eval (.Name S p1) X.env
      standAt p2.atName
      let (f, first) ← holding [ov] (getMethod ov "__init__" (plainOf (.Name S p1) X.env))
      callWith pos f first (backTo pos (starEach (e :: es) X.env)) (backToKw pos (keywordEach [] X.env))) := by
    show (do let ov ← eval (.Name S p1) X.env; standAt p2.atName; methodCall (.Name S p1) "__init__" p2 pos X.env ov _ _ _) = _
    simp only [mcall_line hf hl]
  refine PySem.W.methodCall_KW (ld_glob I hg hm ?_ hdb) hc
  refine PySem.W.method_cls I.kIn I0.sp (PySem.W.cls_value I.kIn I0.rd I0.fc (by decide +kernel) ?_)
  show wpAny _ _ (callWith pos (Value.builtin "ValueError.__init__") [] (backTo pos (starEach (e :: es) X.env)) []) _ _ _
  refine PyProof.Rows.callWith_method1 (thn (ha.run pos pins _ σ H _ (I.tok _) h) fun us s1 ⟨vs, H1, I1, r1, a, C, ws, ev, hl, T, ea, q⟩ => ?_) he hpl
  subst ev
  cases r1 with
  | @cons _ u0 _ ur ra rr =>
    obtain rfl : u0 = Value.ref a := ra
    have hlen : ur.length ≤ sizeLine := by
      rw [← Paired.length rr, sizeLine_eq]
      omega
    exact oinit_ok T I1 ea hlen fun s' J => ⟨.non, H1, J, rfl, q⟩
end
theorem ro : (∀ K f to te D σ H, tOst K f to te D σ H = te σ H fun y H1 => to σ H1 fun x H2 => ∃ a C : Addr, x = .ref a ∧ OexC K C ∧ PySem.W.findIn K (.ref C) f = some none ∧
      ((H2 a = some (exo a C none) ∧ ∀ dx, H2 dx = none → dx ≠ a → D.nx σ (upd (upd H2 dx (exd dx [(f, y)])) a (exo a C (some dx)))) ∨
        ∃ (dx : Addr) (fs : List (Str × V)), H2 a = some (exo a C (some dx)) ∧ H2 dx = some (exd dx fs) ∧ fs.length ≤ 900 ∧ D.nx σ (upd H2 dx (exd dx ((f, y) :: fs))))) ∧
    (∀ a cls d C f te σ H Q, tXf a cls d C f te σ H Q = te σ H fun x H1 => x = .ref a ∧ cls = .ref C ∧ ∃ (dd : Addr) (fs : List (Str × V)) (v : V), d = some dd ∧ H1 dd = some (.xd fs) ∧ fs.lookup f = some v ∧ Q v H1) := by
  refine ⟨?_, ?_⟩ <;> intros <;> rfl
/-! ### the __init__ of such a class with one field -/
def ini1 (m f : Str) (p1 p2 p3 p4 p5 p6 p7 p8 p9 p10 : Pos) (j : Nat) : List Stmt :=
  [.Expr (.Call (.Attribute (.Name "SeedError" p1) "__init__" p2) [.Name "self" p3, .Constant (.str m) j p4] [] p5) p6, .Assign [.Attribute (.Name "self" p7) f p8] (.Name f p9) p10]
def spIni1 (C : Addr) (f : Str) : Sp := fun vs H Q _ => ∃ (a : Addr) (v : V), vs = [.ref a, v] ∧ H a = some (exo a C none) ∧ ∀ d, H d = none → d ≠ a → Q .non (upd (upd H d (exd d [(f, v)])) a (exo a C (some d)))
theorem ok_ini1 {P : Program} {w : World} {K : Fg} {mg : Str → Option Value} {base : Heap} {C Cs fI : Addr} {f m qual : Str} {params : Arguments} {body : List Stmt} {scope : Scope} {fd : FuncData}
    {p1 p2 p3 p4 p5 p6 p7 p8 p9 p10 : Pos} {j : Nat} (F : FunD K "__init__" qual params body scope [] [] fI fd) (S : FnScope ["self", f] ["self", f] scope) (hb : body = ini1 m f p1 p2 p3 p4 p5 p6 p7 p8 p9 p10 j)
    (l1 : scope.names.lookup ("self" : Str) = some .local) (l2 : scope.names.lookup f = some .local) (l3 : scope.names.lookup ("SeedError" : Str) = some .globalImplicit) (hdb : (f == ("__debug__" : Str)) = false) (hcd : (f == ("__classdict__" : Str)) = false)
    (hl : (p2.endLine == p5.line) = true)
    (T : ExC K C) (I0 : IniC K Cs) (gS : mg "SeedError" = some (.ref Cs)) (hno : PySem.W.findIn K (.ref C) f = some none) : FnOk P w K mg base (L2.CX P w) 2 fI fd ["self", f] (spIni1 C f) := by
  subst hb
  refine F.ok S (fun vs H Q E h => ?_) (fun cdv A outer s H vs Q E hr h => ?_)
  · obtain ⟨a, v, rfl, _⟩ := h
    rfl
  · obtain ⟨a, v, rfl, ha, k⟩ := h
    refine ⟨_, pss_cons (ps_expr (pe_sinit I0 l3 gS (pa_cons (pv 0 (hv := .inl l1)) (pa_cons pe_str pa_nil)) (hl := hl))) (pss_one (ps_ost (pv 0 (hv := .inl l1)) (pv 1 (hv := .inl l2) (hd := hdb) (hcd := hcd)))), ?_⟩
    simp only [rst, rs, re, ra, ro, List.getElem?_cons_zero, List.getElem?_cons_succ, Option.some.injEq, exists_eq_left', exists_eq_left, exists_and_left, exists_eq, exists_eq', List.cons.injEq, V.ref.injEq]
    exact ⟨a, C, [.str m], ⟨rfl, rfl⟩, (by show 1 ≤ 1000; decide), T.ox, ha, C, T.ox, hno, .inl ⟨ha, k⟩⟩
/-- C(e): such an error is made; it is kept away but for its own dict -/
def tMk1 (C : Addr) (f : Str) (ta : TA) : L2.St → Hp → XK → Prop := fun σ H Q => ta σ H fun vs H1 => ∃ v, vs = [v] ∧ ∀ d, H1 d = none → Q (.ref C) (some d) (upd H1 d (.xd [(f, v)]))
/-- raise C(e) -/
def tRs1 (C : Addr) (f : Str) (W : WX) (ta : TA) : TS := fun _ σ H => tMk1 C f ta σ H fun cls d H' => W cls d σ H'
/-- the class x: where it stands, its __init__ -/
structure Exn (P : Program) (w : World) (K : Fg) (mg : Str → Option Value) (base : Heap) (x f : Str) : Prop where
  at_ : mg x = some (.ref (He.ga K x))
  c : ExC K (He.ga K x)
  no : PySem.W.findIn K (.ref (He.ga K x)) f = some none
  ini : ∃ (fI : Addr) (fd : FuncData), PySem.W.findIn K (.ref (He.ga K x)) "__init__" = some (some (.ref fI)) ∧ PySem.W.typeIn K (.ref fI) = some (.type "function") ∧ FnOk P w K mg base (L2.CX P w) 2 fI fd ["self", f] (spIni1 (He.ga K x) f) ∧ Binds K fd ["self", f] []
section
variable {X : Cx} {k : Nat} {x f : Str} {e : Expr} {es : List Expr} {ta : TA} {p pos : Pos} {W : WX}
theorem pa_mono {t : TA} {es : List Expr} (h : PA X es t) : PA X es (fun σ H Q => ∃ R : List V → Hp → Prop, t σ H R ∧ ∀ vs H1, R vs H1 → Q vs H1) := ⟨fun pos pins s σ H Q I ⟨R, h1, h2⟩ =>
  thn (h.run pos pins s σ H R I h1) fun us s1 ⟨vs, H1, I1, r, q⟩ => ⟨vs, H1, I1, r, h2 _ _ q⟩⟩
theorem pmk_1 (T : Exn X.prog X.w X.K X.mg X.base x f) (hr : Room k X.A) (hk : 3 ≤ k) (hg : Gl X x) (ha : PA X (e :: es) ta)
    (hdb : (x == ("__debug__" : Str)) = false := by decide) (he : starEach (e :: es) X.env = (false, eval e X.env) :: starEach es X.env := by rfl) (hpl : (backTo pos (starEach es X.env)).any (·.1) = false := by rfl) :
    PMk X (.Call (.Name x p) (e :: es) [] pos) (tMk1 (He.ga X.K x) f ta) := by
  obtain ⟨fI, fd, iC, tI, F, b⟩ := T.ini
  intro pins s σ H Q I h
  refine pmk_oex (CX := L2.CX X.prog X.w) (k := 2) (ds := []) (dvs := []) T.c.ox iC tI F (hr.mono hk) b .nil passL hg T.at_ (pa_mono ha) hdb he hpl pins s σ H Q I ⟨_, h, fun vs H1 q => ?_⟩
  obtain ⟨v, rfl, q⟩ := q
  refine ⟨by show 1 ≤ 1000; decide, fun a na => ⟨a, v, rfl, upd_same, fun d nd ne => ?_⟩⟩
  rw [upd_ne ne] at nd
  refine ⟨rfl, d, [(f, v)], upd_same, by rw [upd_ne ne, upd_same], nd, ?_⟩
  have e : upd (del (upd (upd (upd H1 a (exo a (He.ga X.K x) none)) d (exd d [(f, v)])) a (exo a (He.ga X.K x) (some d))) a) d (.xd [(f, v)]) = upd H1 d (.xd [(f, v)]) := by
    funext b
    by_cases hd : b = d
    · rw [hd, upd_same, upd_same]
    · rw [upd_ne hd, upd_ne hd]
      by_cases hb : b = a
      · rw [hb, del_same, na]
      · rw [del_ne hb, upd_ne hb, upd_ne hd, upd_ne hb]
  rw [e]
  exact q d nd
/-- raise x(e) -/
theorem ps_rs1 {pos' : Pos} (T : Exn X.prog X.w X.K X.mg X.base x f) (hc : X.calm = true) (tk : Takes X W) (hr : Room k X.A) (hk : 3 ≤ k) (hg : Gl X x) (ha : PA X (e :: es) ta)
    (hdb : (x == ("__debug__" : Str)) = false := by decide) (he : starEach (e :: es) X.env = (false, eval e X.env) :: starEach es X.env := by rfl) (hpl : (backTo pos (starEach es X.env)).any (·.1) = false := by rfl) :
    PS X (.Raise (some (.Call (.Name x p) (e :: es) [] pos)) none pos') (tRs1 (He.ga X.K x) f W ta) := ps_raise hc tk (pmk_1 T hr hk hg ha hdb he hpl)
/-! ### in an except suite -/
/-- e.f -/
theorem pe_exf {a : Addr} {oe : Obj} {cls : Value} {d : Option Addr} {pn : List (Addr × Obj)} {e : Expr} {te : TE} {C : Addr} (T : ExC X.K C) (hno : PySem.W.findIn X.K (.ref C) f = some none) (hz : Zc cls d oe) (hf : ∃ vs, oe.data = .fields vs) (he : PE (X.suite a ((a, oe) :: pn)) e te)
    (hb : attributeBase e f X.env (eval e X.env) = eval e X.env := by rfl) : PE (X.suite a ((a, oe) :: pn)) (.Attribute e f pos) (tXf a cls d C f te) := pe_xf T.xf hno hz hf he hb
/-- isinstance(e, c), e the error in the suite, with a dict of its own -/
def rIsD (K : Fg) (D a : Addr) (cls : Value) (d : Option Addr) : List V → Hp → VK → Prop := fun xs H Q => ∃ (c : V) (cv : Value) (dd : Addr) (fs : List (Str × V)) (b : Bool), xs = [.ref a, c] ∧ ClsV c cv ∧ cls = .ref D ∧ d = some dd ∧ H dd = some (.xd fs) ∧ PySem.W.kitOne K (.ref D) cv = some b ∧ Q (.bl b) H
theorem call_isD {a D : Addr} {cls : Value} {d : Option Addr} {oe : Obj} {pn : List (Addr × Obj)} (C : ExC X.K D) (hz : Zc cls d oe) (hf : ∃ vs, oe.data = .fields vs) : CallR (X.suite a ((a, oe) :: pn)) (.builtin "isinstance") (rIsD X.K D a cls d) := by
  intro pins s σ H xs us Q I r h
  obtain ⟨c, cv, dd, fs, b, rfl, hcv, rfl, rfl, hd, e, q⟩ := h
  cases r with
  | cons r1 r2 =>
    cases r2 with
    | cons r3 r4 =>
      cases r4
      cases r1
      have ec := hcv.eq r3
      subst ec
      obtain ⟨hget, _⟩ := I.pin (a, oe) (List.mem_append.mpr (.inl List.mem_cons_self))
      obtain ⟨vs, hv⟩ := hf
      obtain ⟨mA, hns, _⟩ := (show ObjOk X.prog X.w H s.heap dd (.xd fs) from I.hok dd _ hd)
      obtain ⟨od, ho, _⟩ := lookIn_ns hns
      have J : PySem.W.InstAt s.heap a oe D (some od) := ⟨hget, hz.1, by unfold PySem.W.notCls; rw [hv] <;> rfl, by rw [hz.2]; exact ho⟩
      exact PySem.W.kia_one (PySem.W.sw_kitE C.xf.ga C.xf.gg C.xf.exC C.xf.hdC C.cc C.gs C.tk C.mo) I.kIn J e (fun z => nomatch z) fun tk => ⟨.bl b, H, I.kept (t' := tk) fun _ _ z => z, rfl, q⟩
end
end Sw

/-! Loops and comprehensions, over a list or a tuple alike; unpacking; isinstance by kinds. -/
namespace Sw
open PySem PySem.Spec PyProof.Rows L2
/-- what a for still asks behind its iterator -/
def FI (J : It) (g : TG) (tb : TS) (D : Ends) (σ : L2.St) (H1 : Hp) : Prop := ∃ W : Nat → Nat → L2.St → Hp → Prop, (∃ m, W 0 m σ H1) ∧ ∀ i m σ H, W i m σ H →
  (J.stop i H ∧ D.nx σ H) ∨ (J.go i H ∧ ∃ N : L2.St → Hp → Prop, (∀ σ' H', N σ' H' → ∃ m', m' < m ∧ W (i + 1) m' σ' H') ∧ ∀ x H', J.yld i H x H' → g x σ H' fun σ2 H2 => tb { D with nx := N, ct := N, bk := D.nx } σ2 H2)
/-- .. a comprehension -/
def LC (J : It) (g : TG) (tt : TT) (te : TE) (vs : List Nat) (σ : L2.St) (Q : VK) (H1 : Hp) : Prop := ∀ D, H1 D = none → ∃ W : Nat → Nat → Hp → Prop, (∃ m, W 0 m (upd H1 D (.lst []))) ∧ ∀ i m H, W i m H →
  (J.stop i H ∧ Q (.ref D) H) ∨ (J.go i H ∧ ∃ Nx : Hp → Prop, (∀ H', Nx H' → ∃ m', m' < m ∧ W (i + 1) m' H') ∧ ∀ x H', J.yld i H x H' → g x (wipe σ vs) H' fun σ2 H2 => wipe σ2 vs = wipe σ vs ∧ tt σ2 H2 fun b H3 =>
    if b = true then te σ2 H3 fun y H4 => ∃ acc, H4 D = some (.lst acc) ∧ acc.length < sizeLine ∧ Nx (upd H4 D (.lst (acc ++ [y]))) else Nx H3)
def isT : HO → Bool
  | .tup _ => true
  | .frz _ (.tup _) => true
  | _ => false
theorem seqO_L {K : Fg} {H : Hp} {p : Addr} {o : HO} {xs : List V} (h : H p = some o) (e : seqO o = some xs) (t : isT o = false) : SqL K H p xs := by
  unfold seqO at e
  split at e <;> first
    | exact Bool.noConfusion (show _ = _ from t)
    | (cases e; exact .inl (.inl h))
    | (cases e; exact .inl (.inr ⟨_, h⟩))
    | cases e
theorem seqO_T {K : Fg} {H : Hp} {p : Addr} {o : HO} {xs : List V} (h : H p = some o) (e : seqO o = some xs) (t : isT o = true) : SqT K H p xs := by
  unfold seqO at e
  split at e <;> first
    | exact Bool.noConfusion (show _ = _ from t)
    | (cases e; exact .inl (.inl h))
    | (cases e; exact .inl (.inr ⟨_, h⟩))
    | cases e
/-! ### for x in s -/
def ItQ (K : Fg) (a : Addr) (o : HO) : It := if isT o = true then Itt K a else Itl K a
def iSeq (K : Fg) (tl : TE) : TI := fun σ H R => tl σ H fun x H1 => ∃ a o xs, x = .ref a ∧ H1 a = some o ∧ seqO o = some xs ∧ R (ItQ K a o) H1
theorem pi_q {X : Cx} {tg e : Expr} {tl : TE} (he : PE X e tl) : PI X tg e (iSeq X.K tl) := by
  refine ⟨fun pins s σ H R I h => ?_⟩
  refine thn (he.run pins s σ H _ I h) fun u s1 ⟨v, H1, I1, r1, a, o, xs, ev, ho, hs, q⟩ => ?_
  subst ev
  cases r1
  unfold ItQ at q
  have new : ∀ b ∈ [s1.heap.objs.size], FpOk X pins H1 b := fun b hb => by
    rw [List.mem_singleton.mp hb]
    exact I1.fpOk (Nat.le_refl _) (I1.hok.fresh (Nat.le_refl _))
  cases t : isT o with
  | true =>
    rw [t, if_pos rfl] at q
    obtain ⟨its, rv, p, hz⟩ := I1.tuple (seqO_T (K := X.K) ho hs t)
    exact wpAny_pyIter_tuple (show s1.heap.IsTuple a its.toArray from p) ⟨_, [s1.heap.objs.size], _, _, H1, rfl, I1.kept (t' := s1.toks) fun b o e => Heap.get?_push_of_some _ e, turn_tuple a _, ⟨_, Heap.get?_push_size _ rfl, rfl, rfl⟩, new, q⟩
  | false =>
    rw [t, if_neg (by decide)] at q
    obtain ⟨its, rv, p, hz⟩ := I1.list (seqO_L (K := X.K) ho hs t)
    exact wpAny_pyIter_list p.isList ⟨_, [s1.heap.objs.size], _, _, H1, rfl, I1.kept (t' := s1.toks) fun b o e => Heap.get?_push_of_some _ e, turn_list a _, ⟨_, Heap.get?_push_size _ rfl, rfl, rfl⟩, new, q⟩
theorem FI.seq {K : Fg} {a : Addr} {o : HO} {xs : List V} {g : TG} {tb : TS} {D : Ends} {σ : L2.St} {H : Hp} (hs : seqO o = some xs) (Pv : Nat → L2.St → Hp → Prop) (h0 : Pv 0 σ H) (hl : ∀ i σ H, i ≤ xs.length → Pv i σ H → H a = some o)
    (ht : ∀ i x σ H, xs[i]? = some x → Pv i σ H → g x σ H fun σ2 H2 => tb ⟨Pv (i + 1), D.rt, D.nx, Pv (i + 1)⟩ σ2 H2) (hd : ∀ σ H, Pv xs.length σ H → D.nx σ H) : FI (ItQ K a o) g tb D σ H := by
  unfold ItQ
  cases t : isT o with
  | true =>
    rw [if_pos rfl]
    exact for_tup (K := K) Pv h0 (fun i σ H hi p => seqO_T (hl i σ H hi p) hs t) ht hd
  | false =>
    rw [if_neg (by decide)]
    exact for_list (K := K) Pv h0 (fun i σ H hi p => seqO_L (hl i σ H hi p) hs t) ht hd
/-- the script's own list: it may stand in the written part -/
theorem FI.lst {K : Fg} {a : Addr} {xs : List V} {g : TG} {tb : TS} {D : Ends} {σ : L2.St} {H : Hp} (Pv : Nat → L2.St → Hp → Prop) (h0 : Pv 0 σ H) (hl : ∀ i σ H, i ≤ xs.length → Pv i σ H → SqL K H a xs)
    (ht : ∀ i x σ H, xs[i]? = some x → Pv i σ H → g x σ H fun σ2 H2 => tb ⟨Pv (i + 1), D.rt, D.nx, Pv (i + 1)⟩ σ2 H2) (hd : ∀ σ H, Pv xs.length σ H → D.nx σ H) : FI (Itl K a) g tb D σ H := for_list (K := K) Pv h0 hl ht hd
theorem FI.rng {lo : Int} {n : Nat} {g : TG} {tb : TS} {D : Ends} {σ : L2.St} {H : Hp} (Pv : Nat → L2.St → Hp → Prop) (h0 : Pv 0 σ H)
    (ht : ∀ i σ H, i < n → Pv i σ H → g (.int (lo + (i : Nat))) σ H fun σ2 H2 => tb ⟨Pv (i + 1), D.rt, D.nx, Pv (i + 1)⟩ σ2 H2) (hd : ∀ σ H, Pv n σ H → D.nx σ H) : FI (Itr lo n) g tb D σ H := for_range Pv h0 ht hd
theorem FI.rngC {lo c : Int} {n : Nat} {g : TG} {tb : TS} {D : Ends} {σ : L2.St} {H : Hp} (Pv : Nat → L2.St → Hp → Prop) (h0 : Pv 0 σ H)
    (ht : ∀ i σ H, i < n → Pv i σ H → g (.int (lo + (i : Nat) * c)) σ H fun σ2 H2 => tb ⟨Pv (i + 1), D.rt, D.nx, Pv (i + 1)⟩ σ2 H2) (hd : ∀ σ H, Pv n σ H → D.nx σ H) : FI (Itc lo c n) g tb D σ H := for_rangeC Pv h0 ht hd
/-! ### zip of two of one kind -/
def ItZ (K : Fg) (a b : Addr) (o : HO) : It := if isT o = true then RZ.ItzT K a b else Itz K a b
def iZipQ (K : Fg) (ta : TA) : TI := fun σ H R => ta σ H fun vs H1 => ∃ a b oa ob xs ys, vs = [.ref a, .ref b] ∧ H1 a = some oa ∧ seqO oa = some xs ∧ H1 b = some ob ∧ seqO ob = some ys ∧ isT ob = isT oa ∧ R (ItZ K a b oa) H1
theorem pi_zipQ {X : Cx} {e e2 : Expr} {ta : TA} {p pos tpos : Pos} {elts : List Expr} {kk : Nat} (hg : Gl X "zip") (hm : X.mg "zip" = none) (ha : PA X [e, e2] ta)
    (hs : starEach [e, e2] X.env = (false, eval e X.env) :: starEach [e2] X.env := by rfl) (hpl : (backTo pos (starEach [e2] X.env)).any (·.1) = false := by rfl) :
    PI X (.Tuple elts kk tpos) (.Call (.Name "zip" p) [e, e2] [] pos) (iZipQ X.K ta) := by
  refine ⟨fun pins s σ H R I h => (RZ.pi_zipA hg hm (pa_mono ha) hs hpl).run pins s σ H R I ⟨_, h, fun vs H1 q => ?_⟩⟩
  obtain ⟨a, b, oa, ob, xs, ys, ev, h1, h2, h3, h4, h5, q⟩ := q
  refine ⟨a, b, xs, ys, ev, ?_⟩
  unfold ItZ at q
  cases t : isT oa with
  | true =>
    rw [t, if_pos rfl] at q
    exact .inr ⟨seqO_T h1 h2 t, seqO_T h3 h4 (h5.trans t), q⟩
  | false =>
    rw [t, if_neg (by decide)] at q
    exact .inl ⟨seqO_L h1 h2 t, seqO_L h3 h4 (h5.trans t), q⟩
/-- for x, y in zip(..), x in slot i, y in slot j -/
theorem FI.zip {K : Fg} {a b : Addr} {oa ob : HO} {xs ys : List V} {i j : Nat} {tb : TS} {D : Ends} {σ : L2.St} {H : Hp} (hx : seqO oa = some xs) (hy : seqO ob = some ys) (ht : isT ob = isT oa) (hl : xs.length = ys.length) (Pv : Nat → L2.St → Hp → Prop) (h0 : Pv 0 σ H)
    (hq : ∀ i σ H, Pv i σ H → H a = some oa ∧ H b = some ob)
    (hs : ∀ (n : Nat) (x y : V) (T : Addr) (σ : L2.St) (H : Hp), xs[n]? = some x → ys[n]? = some y → Pv n σ H → H T = none → tb ⟨Pv (n + 1), D.rt, D.nx, Pv (n + 1)⟩ ((σ.set i (some x)).set j (some y)) (upd H T (.tup [x, y]))) (hd : ∀ σ H, Pv xs.length σ H → D.nx σ H) :
    FI (ItZ K a b oa) (gTup K 2 (gCons (gName i) (gCons (gName j) gNil))) tb D σ H := by
  have turn : ∀ (n : Nat) (x y : V) (T : Addr) (σ : L2.St) (H : Hp), xs[n]? = some x → ys[n]? = some y → Pv n σ H → H T = none →
      gTup K 2 (gCons (gName i) (gCons (gName j) gNil)) (.ref T) σ (upd H T (.tup [x, y])) fun σ2 H2 => tb ⟨Pv (n + 1), D.rt, D.nx, Pv (n + 1)⟩ σ2 H2 := fun n x y T σ H h1 h2 p hT =>
    ⟨T, [x, y], rfl, SqT.of upd_same, rfl, x, [y], rfl, y, [], rfl, rfl, hs n x y T σ H h1 h2 p hT⟩
  unfold ItZ
  cases t : isT oa with
  | true =>
    rw [if_pos rfl]
    exact RZ.for_zipT (K := K) hl Pv h0 (fun i σ H p => ⟨seqO_T (hq i σ H p).1 hx t, seqO_T (hq i σ H p).2 hy (ht.trans t)⟩) turn hd
  | false =>
    rw [if_neg (by decide)]
    exact RZ.for_zipL (K := K) hl Pv h0 (fun i σ H p => ⟨seqO_L (hq i σ H p).1 hx t, seqO_L (hq i σ H p).2 hy (ht.trans t)⟩) turn hd
/-! ### reversed of a list or a tuple -/
def ItR (K : Fg) (a : Addr) (o : HO) (n : Nat) : It := if isT o = true then RT.ItvT K a n else Itv K a n
def iRevQ (K : Fg) (te : TE) : TI := fun σ H R => te σ H fun v H1 => ∃ a o xs, v = .ref a ∧ H1 a = some o ∧ seqO o = some xs ∧ R (ItR K a o xs.length) H1
theorem pe_mono {X : Cx} {e : Expr} {te : TE} (h : PE X e te) : PE X e (fun σ H Q => ∃ R : VK, te σ H R ∧ ∀ v H1, R v H1 → Q v H1) := ⟨fun pins s σ H Q I ⟨R, h1, h2⟩ => thn (h.run pins s σ H R I h1) fun u s1 ⟨v, H1, I1, r, q⟩ => ⟨v, H1, I1, r, h2 _ _ q⟩⟩
theorem pi_revQ {X : Cx} {tg e : Expr} {te : TE} {p pos : Pos} (hg : Gl X "reversed") (hm : X.mg "reversed" = none) (he : PE X e te) (hs : starEach [e] X.env = (false, eval e X.env) :: starEach [] X.env := by rfl) :
    PI X tg (.Call (.Name "reversed" p) [e] [] pos) (iRevQ X.K te) := by
  refine ⟨fun pins s σ H R I h => (RT.pi_revA hg hm (pe_mono he) hs).run pins s σ H R I ⟨_, h, fun v H1 q => ?_⟩⟩
  obtain ⟨a, o, xs, ev, h1, h2, q⟩ := q
  refine ⟨a, xs, ev, ?_⟩
  unfold ItR at q
  cases t : isT o with
  | true =>
    rw [t, if_pos rfl] at q
    exact .inr ⟨seqO_T h1 h2 t, q⟩
  | false =>
    rw [t, if_neg (by decide)] at q
    exact .inl ⟨seqO_L h1 h2 t, q⟩
theorem FI.rev {K : Fg} {a : Addr} {o : HO} {xs : List V} {g : TG} {tb : TS} {D : Ends} {σ : L2.St} {H : Hp} (hs : seqO o = some xs) (Pv : Nat → L2.St → Hp → Prop) (h0 : Pv 0 σ H) (hl : ∀ i σ H, Pv i σ H → H a = some o)
    (ht : ∀ (i : Nat) (x : V) (σ : L2.St) (H : Hp), i < xs.length → xs[xs.length - 1 - i]? = some x → Pv i σ H → g x σ H fun σ2 H2 => tb ⟨Pv (i + 1), D.rt, D.nx, Pv (i + 1)⟩ σ2 H2) (hd : ∀ σ H, Pv xs.length σ H → D.nx σ H) : FI (ItR K a o xs.length) g tb D σ H := by
  unfold ItR
  cases t : isT o with
  | true =>
    rw [if_pos rfl]
    exact RT.for_ItvT (K := K) Pv h0 (fun i σ H p => seqO_T (hl i σ H p) hs t) ht hd
  | false =>
    rw [if_neg (by decide)]
    exact RT.for_Itv (K := K) Pv h0 (fun i σ H p => seqO_L (hl i σ H p) hs t) ht hd
/-! ### comprehensions -/
theorem LC.rng {lo : Int} {n : Nat} {g : TG} {tt : TT} {te : TE} {vs : List Nat} {σ : L2.St} {H1 : Hp} {Q : VK} (Pv : Addr → Nat → Hp → Prop) (h0 : ∀ D, H1 D = none → Pv D 0 (upd H1 D (.lst [])))
    (hs : ∀ D i H, H1 D = none → i < n → Pv D i H → g (.int (lo + (i : Nat))) (wipe σ vs) H fun σ2 H2 => wipe σ2 vs = wipe σ vs ∧ tt σ2 H2 fun b H3 => Be b (fun H3 => te σ2 H3 fun y H4 => ∃ acc, H4 D = some (.lst acc) ∧ acc.length < sizeLine ∧ Pv D (i + 1) (upd H4 D (.lst (acc ++ [y])))) (Pv D (i + 1)) H3)
    (hd : ∀ D H, H1 D = none → Pv D n H → Q (.ref D) H) : LC (Itr lo n) g tt te vs σ Q H1 := fun D nD => lc_range (Pv D) (h0 D nD) (fun i H hi p => hs D i H nD hi p) fun H p => hd D H nD p
theorem LC.seq {K : Fg} {a : Addr} {o : HO} {xs : List V} {g : TG} {tt : TT} {te : TE} {vs : List Nat} {σ : L2.St} {H1 : Hp} {Q : VK} (hx : seqO o = some xs) (Pv : Addr → Nat → Hp → Prop) (h0 : ∀ D, H1 D = none → Pv D 0 (upd H1 D (.lst [])))
    (hl : ∀ D i H, H1 D = none → i ≤ xs.length → Pv D i H → H a = some o)
    (hs : ∀ D i x H, H1 D = none → xs[i]? = some x → Pv D i H → g x (wipe σ vs) H fun σ2 H2 => wipe σ2 vs = wipe σ vs ∧ tt σ2 H2 fun b H3 => Be b (fun H3 => te σ2 H3 fun y H4 => ∃ acc, H4 D = some (.lst acc) ∧ acc.length < sizeLine ∧ Pv D (i + 1) (upd H4 D (.lst (acc ++ [y])))) (Pv D (i + 1)) H3)
    (hd : ∀ D H, H1 D = none → Pv D xs.length H → Q (.ref D) H) : LC (ItQ K a o) g tt te vs σ Q H1 := fun D nD => by
  unfold ItQ
  cases t : isT o with
  | true =>
    rw [if_pos rfl]
    exact lc_tup (K := K) (Pv D) (h0 D nD) (fun i H hi p => seqO_T (hl D i H nD hi p) hx t) (fun i x H hi p => hs D i x H nD hi p) fun H p => hd D H nD p
  | false =>
    rw [if_neg (by decide)]
    exact lc_list (K := K) (Pv D) (h0 D nD) (fun i H hi p => seqO_L (hl D i H nD hi p) hx t) (fun i x H hi p => hs D i x H nD hi p) fun H p => hd D H nD p
theorem rl : (∀ wi g tb D σ H, tFor wi g tb D σ H = wi σ H fun J H1 => FI J g tb D σ H1) ∧ (∀ wi g tt te vs σ H Q, tLc wi g tt te vs σ H Q = wi σ H fun J H1 => LC J g tt te vs σ Q H1) ∧
    (∀ K tl σ H R, iSeq K tl σ H R = tl σ H fun x H1 => ∃ a o xs, x = .ref a ∧ H1 a = some o ∧ seqO o = some xs ∧ R (ItQ K a o) H1) ∧
    (∀ K ta σ H R, iZipQ K ta σ H R = ta σ H fun vs H1 => ∃ a b oa ob xs ys, vs = [.ref a, .ref b] ∧ H1 a = some oa ∧ seqO oa = some xs ∧ H1 b = some ob ∧ seqO ob = some ys ∧ isT ob = isT oa ∧ R (ItZ K a b oa) H1) ∧
    (∀ K te σ H R, iRevQ K te σ H R = te σ H fun v H1 => ∃ a o xs, v = .ref a ∧ H1 a = some o ∧ seqO o = some xs ∧ R (ItR K a o xs.length) H1) ∧
    (∀ ta σ H R, iRng1 ta σ H R = ta σ H fun vs H1 => ∃ j : Int, vs = [.int j] ∧ -(2 ^ 62) ≤ j ∧ j < 2 ^ 62 ∧ R (Itr 0 j.toNat) H1) ∧
    (∀ ta σ H R, iRng2 ta σ H R = ta σ H fun vs H1 => ∃ i j : Int, vs = [.int i, .int j] ∧ (-(2 ^ 62) ≤ i ∧ i < 2 ^ 62 ∧ -(2 ^ 62) ≤ j ∧ j < 2 ^ 62) ∧ R (Itr i (j - i).toNat) H1) ∧
    (∀ tr σ H R, iRevR tr σ H R = tr σ H fun a b H1 => -(2 ^ 62) ≤ a ∧ a < 2 ^ 62 ∧ -(2 ^ 62) ≤ b ∧ b < 2 ^ 62 ∧ R (Itc (a + (((b - a).toNat : Nat) : Int) - 1) (-1) (b - a).toNat) H1) ∧
    (∀ ta σ H Q, tRg1 ta σ H Q = ta σ H fun x H1 => ∃ n, x = .int n ∧ Q 0 n H1) ∧ (∀ σ H Q, tYes σ H Q = Q true H) ∧ (∀ xs, isT (.lst xs) = false) ∧ (∀ xs, isT (.tup xs) = true) := by
  refine ⟨?_, ?_, ?_, ?_, ?_, ?_, ?_, ?_, ?_, ?_, ?_, ?_⟩ <;> intros <;> rfl
/-! ### unpacking -/
def gTupQ (t : TGs) : TG := fun v σ H Q => ∃ a o xs, v = .ref a ∧ H a = some o ∧ isT o = true ∧ seqO o = some xs ∧ t xs σ H Q
theorem pg_tupQ {X : Cx} {es : List Expr} {k : Nat} {t : TGs} {n : Nat} {pos : Pos} (hc : X.calm = true) (h : PGs X es t) (hlen : ∀ xs σ H Q, t xs σ H Q → xs.length = n)
    (hn : (assignEach es X.env).length = n := by rfl) (hst : (assignEach es X.env).findIdx? (·.1) = none := by rfl) : PG X (.Tuple es k pos) (gTupQ t) :=
  ⟨fun pins s σ H v u Q I r ⟨a, o, xs, ev, ho, ht, hs, q⟩ => (pg_tup hc h hn hst).run pins s σ H v u Q I r ⟨a, xs, ev, seqO_T ho hs ht, hlen _ _ _ _ q, q⟩⟩
theorem gnil_len {xs : List V} {σ : L2.St} {H : Hp} {Q : L2.St → Hp → Prop} (h : gNil xs σ H Q) : xs.length = 0 := by rw [h.1] <;> rfl
theorem gname_len {n i : Nat} {t : TGs} (ht : ∀ xs σ H Q, t xs σ H Q → xs.length = n) (xs : List V) (σ : L2.St) (H : Hp) (Q : L2.St → Hp → Prop) (h : gCons (gName i) t xs σ H Q) : xs.length = n + 1 := by
  obtain ⟨v, r, rfl, h⟩ := h
  rw [List.length_cons, ht r _ _ _ h]
theorem rl2 : (∀ t v σ H Q, gTupQ t v σ H Q = ∃ a o xs, v = .ref a ∧ H a = some o ∧ isT o = true ∧ seqO o = some xs ∧ t xs σ H Q) ∧ (∀ K te σ H Q, tRevL K te σ H Q = te σ H fun x H1 => ∃ a xs, x = .ref a ∧ SqL K H1 a xs ∧ ∀ p, H1 p = none → Q (.ref p) (upd H1 p (.lst xs.reverse))) ∧
    (∀ C f ta D W σ H, tRs1 C f W ta D σ H = ta σ H fun vs H1 => ∃ v, vs = [v] ∧ ∀ d, H1 d = none → W (.ref C) (some d) σ (upd H1 d (.xd [(f, v)]))) := by
  refine ⟨?_, ?_, ?_⟩ <;> intros <;> rfl
end Sw

/-! Promises by arity, facts by Bools, kinds of things, things that equal themselves, methods of lists. -/
namespace Sw
open PySem PySem.Spec PyProof.Rows L2
/-! ### promises -/
def sp1 (f : V → Hp → VK → XK → Prop) : Sp := fun vs H Q E => ∃ a, vs = [a] ∧ f a H Q E
def sp2 (f : V → V → Hp → VK → XK → Prop) : Sp := fun vs H Q E => ∃ a b, vs = [a, b] ∧ f a b H Q E
def sp3 (f : V → V → V → Hp → VK → XK → Prop) : Sp := fun vs H Q E => ∃ a b c, vs = [a, b, c] ∧ f a b c H Q E
def sp4 (f : V → V → V → V → Hp → VK → XK → Prop) : Sp := fun vs H Q E => ∃ a b c d, vs = [a, b, c, d] ∧ f a b c d H Q E
theorem len1 (f : V → Hp → VK → XK → Prop) {x : Str} (vs : List V) (H : Hp) (Q : VK) (E : XK) (h : sp1 f vs H Q E) : vs.length = [x].length := by obtain ⟨a, rfl, _⟩ := h; rfl
theorem len2 (f : V → V → Hp → VK → XK → Prop) {x y : Str} (vs : List V) (H : Hp) (Q : VK) (E : XK) (h : sp2 f vs H Q E) : vs.length = [x, y].length := by obtain ⟨a, b, rfl, _⟩ := h; rfl
theorem len3 (f : V → V → V → Hp → VK → XK → Prop) {x y z : Str} (vs : List V) (H : Hp) (Q : VK) (E : XK) (h : sp3 f vs H Q E) : vs.length = [x, y, z].length := by obtain ⟨a, b, c, rfl, _⟩ := h; rfl
theorem len4 (f : V → V → V → V → Hp → VK → XK → Prop) {x y z u : Str} (vs : List V) (H : Hp) (Q : VK) (E : XK) (h : sp4 f vs H Q E) : vs.length = [x, y, z, u].length := by obtain ⟨a, b, c, d, rfl, _⟩ := h; rfl
theorem rsp : (∀ f a H Q E, sp1 f [a] H Q E = f a H Q E) ∧ (∀ f a b H Q E, sp2 f [a, b] H Q E = f a b H Q E) ∧ (∀ f a b c H Q E, sp3 f [a, b, c] H Q E = f a b c H Q E) ∧ (∀ f a b c d H Q E, sp4 f [a, b, c, d] H Q E = f a b c d H Q E) := by
  refine ⟨fun f a H Q E => propext ⟨fun ⟨_, e, h⟩ => ?_, fun h => ⟨_, rfl, h⟩⟩, fun f a b H Q E => propext ⟨fun ⟨_, _, e, h⟩ => ?_, fun h => ⟨_, _, rfl, h⟩⟩, fun f a b c H Q E => propext ⟨fun ⟨_, _, _, e, h⟩ => ?_, fun h => ⟨_, _, _, rfl, h⟩⟩,
    fun f a b c d H Q E => propext ⟨fun ⟨_, _, _, _, e, h⟩ => ?_, fun h => ⟨_, _, _, _, rfl, h⟩⟩⟩ <;> (cases e; exact h)
/-! ### facts by Bools -/
def allB : List Bool → Bool
  | [] => true
  | b :: r => b && allB r
theorem allB_ok : ∀ {l : List Bool}, allB l = true → ∀ (i : Nat) {b : Bool}, l[i]? = some b → b = true
  | [], _, i, b, h => by simp at h
  | c :: r, e, 0, b, h => by
    have h2 : c = b := by simpa using h
    rw [← h2]
    exact (Bool.and_eq_true_iff.mp e).1
  | c :: r, e, i + 1, b, h => allB_ok (Bool.and_eq_true_iff.mp e).2 i (by simpa using h)
/-- an error class by what the head says of it -/
theorem exn_mk {P : Program} {w : World} {K : Fg} {mg : Str → Option Value} {base : Heap} {x f m qual : Str} {params : Arguments} {body : List Stmt} {scope : Scope} {fd : FuncData} {Cs : Addr}
    {p1 p2 p3 p4 p5 p6 p7 p8 p9 p10 : Pos} {j : Nat} (at_ : mg x = some (.ref (He.ga K x))) (c : ExC K (He.ga K x)) (no : PySem.W.findIn K (.ref (He.ga K x)) f = some none) (M : Meth K (He.ga K x) "__init__" (He.ma K (He.ga K x) "__init__"))
    (F : FunD K "__init__" qual params body scope [] [] (He.ma K (He.ga K x) "__init__") fd) (S : FnScope ["self", f] ["self", f] scope) (hb : body = ini1 m f p1 p2 p3 p4 p5 p6 p7 p8 p9 p10 j)
    (l1 : scope.names.lookup ("self" : Str) = some .local) (l2 : scope.names.lookup f = some .local) (l3 : scope.names.lookup ("SeedError" : Str) = some .globalImplicit) (hdb : (f == ("__debug__" : Str)) = false) (hcd : (f == ("__classdict__" : Str)) = false)
    (hl : (p2.endLine == p5.line) = true) (I0 : IniC K Cs) (gS : mg "SeedError" = some (.ref Cs))
    (hbd : ∀ (kV doc pm : Value) (an : Option Addr) (cdv ct : Value) (us : List Value), us.length = (["self", f] : List Str).length → bindArgs (PySem.W.fnOf "__init__" qual params body scope .none kV doc pm an cdv ct) ⟨us, []⟩ = pure ((["self", f] : List Str).zip us)) :
    Exn P w K mg base x f := ⟨at_, c, no, _, fd, M.at_, beq_iff_eq.mp M.fn, ok_ini1 F S hb l1 l2 l3 hdb hcd hl c I0 gS no, F.bindsN hbd⟩
/-! ### kinds -/
def tyO : HO → Option String
  | .lst _ => some "list"
  | .frz _ (.lst _) => some "list"
  | .tup _ => some "tuple"
  | .frz _ (.tup _) => some "tuple"
  | .dK _ => some "dict"
  | .dT _ => some "dict"
  | _ => none
def tyN (H : Hp) : V → Option String
  | .non => some "NoneType"
  | .bl _ => some "bool"
  | .int _ => some "int"
  | .str _ => some "str"
  | .ref p => (H p).bind tyO
  | _ => none
theorem tyN_ok {K : Fg} {H : Hp} {x : V} {n : String} (h : tyN H x = some n) : TyX K H x (.type n) := by
  cases x with
  | non => cases h; exact .base .non
  | bl b => cases h; exact .base (.bl b)
  | int i => cases h; exact .base (.int i)
  | str z => cases h; exact .base (.str z)
  | ref p =>
    obtain ⟨o, e, h⟩ := Option.bind_eq_some_iff.mp h
    unfold tyO at h
    split at h <;> first
      | (cases h; exact .base (.lst e))
      | (cases h; exact .base (.frz e))
      | (cases h; exact .base (.tup e))
      | (cases h; exact .fTuple e)
      | (cases h; exact .base (.dK e))
      | (cases h; exact .base (.dT e))
      | cases h
  | byt b => cases h
  | flt b => cases h
  | ty n => cases h
theorem tyN_cases {H : Hp} {x : V} {n : String} (h : tyN H x = some n) : n = "NoneType" ∨ n = "bool" ∨ n = "int" ∨ n = "str" ∨ n = "list" ∨ n = "tuple" ∨ n = "dict" := by
  cases x with
  | ref p =>
    obtain ⟨o, e, h⟩ := Option.bind_eq_some_iff.mp h
    unfold tyO at h
    split at h <;> cases h <;> simp
  | _ => cases h <;> simp
theorem tyN_same {H H' : Hp} (s : Same H H') {x : V} {n : String} (h : tyN H x = some n) : tyN H' x = some n := by
  cases x with
  | ref p =>
    obtain ⟨o, e, h⟩ := Option.bind_eq_some_iff.mp h
    exact Option.bind_eq_some_iff.mpr ⟨o, s p o e, h⟩
  | _ => exact h
def isB (H : Hp) (x : V) (T : String) : Option Bool := (tyN H x).bind fun n => kitB n T
/-- isinstance(x, T), T built in -/
def rIsQ : List V → Hp → VK → Prop := fun vs H Q => ∃ x T b, vs = [x, .ty T] ∧ isB H x T = some b ∧ Q (.bl b) H
theorem is_q {X : Cx} : CallR X (.builtin "isinstance") rIsQ := fun pins s σ H xs us Q I r h => by
  obtain ⟨x, T, b, rfl, e, q⟩ := h
  obtain ⟨n, e1, e2⟩ := Option.bind_eq_some_iff.mp e
  exact call_isi pins s σ H _ us Q I r ⟨x, .ty T, .type n, .type T, b, rfl, .ty T, tyN_ok e1, kit_ty e2, q⟩
theorem kitB_all : kitB "NoneType" "int" = some false ∧ kitB "bool" "int" = some true ∧ kitB "int" "int" = some true ∧ kitB "str" "int" = some false ∧ kitB "list" "int" = some false ∧ kitB "tuple" "int" = some false ∧ kitB "dict" "int" = some false ∧
    kitB "NoneType" "bool" = some false ∧ kitB "bool" "bool" = some true ∧ kitB "int" "bool" = some false ∧ kitB "str" "bool" = some false ∧ kitB "list" "bool" = some false ∧ kitB "tuple" "bool" = some false ∧ kitB "dict" "bool" = some false ∧
    kitB "NoneType" "list" = some false ∧ kitB "bool" "list" = some false ∧ kitB "int" "list" = some false ∧ kitB "str" "list" = some false ∧ kitB "list" "list" = some true ∧ kitB "tuple" "list" = some false ∧ kitB "dict" "list" = some false ∧
    kitB "NoneType" "tuple" = some false ∧ kitB "bool" "tuple" = some false ∧ kitB "int" "tuple" = some false ∧ kitB "str" "tuple" = some false ∧ kitB "list" "tuple" = some false ∧ kitB "tuple" "tuple" = some true ∧ kitB "dict" "tuple" = some false ∧
    kitB "NoneType" "str" = some false ∧ kitB "bool" "str" = some false ∧ kitB "int" "str" = some false ∧ kitB "str" "str" = some true ∧ kitB "list" "str" = some false ∧ kitB "tuple" "str" = some false ∧ kitB "dict" "str" = some false ∧
    kitB "NoneType" "dict" = some false ∧ kitB "bool" "dict" = some false ∧ kitB "int" "dict" = some false ∧ kitB "str" "dict" = some false ∧ kitB "list" "dict" = some false ∧ kitB "tuple" "dict" = some false ∧ kitB "dict" "dict" = some true := by
  decide +kernel
def whole : V → Bool
  | .int _ => true
  | _ => false
def within (x : V) (lo hi : Int) : Bool := match x with
  | .int i => decide (lo ≤ i ∧ i ≤ hi)
  | _ => false
def bool? : V → Bool
  | .bl _ => true
  | _ => false
theorem isB_bool {H : Hp} {x : V} {n : String} (h : tyN H x = some n) : isB H x "bool" = some (bool? x) := by
  have e : isB H x "bool" = kitB n "bool" := by rw [isB, h, Option.bind_some]
  rw [e]
  cases x with
  | ref p =>
    obtain ⟨o, eo, h⟩ := Option.bind_eq_some_iff.mp h
    unfold tyO at h
    split at h <;> cases h <;> simp only [kitB_all, bool?]
  | _ => cases h <;> simp only [kitB_all, bool?]
theorem isB_int {H : Hp} {x : V} {n : String} (h : tyN H x = some n) : isB H x "int" = some (whole x || bool? x) := by
  have e : isB H x "int" = kitB n "int" := by rw [isB, h, Option.bind_some]
  rw [e]
  cases x with
  | ref p =>
    obtain ⟨o, eo, h⟩ := Option.bind_eq_some_iff.mp h
    unfold tyO at h
    split at h <;> cases h <;> simp only [kitB_all, bool?, whole, Bool.or_self, Bool.or_true, Bool.true_or, Bool.or_false]
  | _ => cases h <;> simp only [kitB_all, bool?, whole, Bool.or_self, Bool.or_true, Bool.true_or, Bool.or_false]
theorem isB_list {H : Hp} {p : Addr} {xs : List V} (h : H p = some (.lst xs)) : isB H (.ref p) "list" = some true := by
  have e : tyN H (.ref p) = some "list" := by rw [tyN, h] <;> rfl
  rw [isB, e, Option.bind_some]
  decide +kernel
theorem isB_tup {H : Hp} {p : Addr} {xs : List V} (h : H p = some (.tup xs)) : isB H (.ref p) "tuple" = some true := by
  have e : tyN H (.ref p) = some "tuple" := by rw [tyN, h] <;> rfl
  rw [isB, e, Option.bind_some]
  decide +kernel
theorem whole_is (x : V) : ((whole x || bool? x) && !bool? x) = whole x := by cases x <;> rfl
/-! ### methods of lists -/
def tML (r : V → List V → Hp → VK → Prop) (to : TE) (t : TA) : TE := fun σ H Q => to σ H fun x H1 => ∃ p xs, x = .ref p ∧ H1 p = some (.lst xs) ∧ t σ H1 fun vs H2 => r x vs H2 Q
section
variable {X : Cx} {name : Str} {id : String} {r : V → List V → Hp → VK → Prop} {o e : Expr} {es : List Expr} {to : TE} {t : TA} {apos cpos : Pos}
theorem pe_ml (slot : Slot "list" name id) (hty : typeOf (.builtin id) = pure (.type "method_descriptor")) (hm : MtR X id r) (ho : PE X o to) (ha : PA X (e :: es) t)
    (hb : attributeBase o name X.env (eval o X.env) = eval o X.env := by rfl)
    (hw : ((backTo cpos (starEach (e :: es) X.env)).all (fun x => !x.1) && (backToKw cpos (keywordEach [] X.env)).all (fun x => x.1.isSome) && decide ((e :: es).length + ([] : List Keyword).length + (if ([] : List Keyword).isEmpty then 0 else 1) < 30)) = true := by rfl)
    (hl : (apos.endLine == cpos.line) = true := by rfl) (he : starEach (e :: es) X.env = (false, eval e X.env) :: starEach es X.env := by rfl) (hpl : (backTo cpos (starEach es X.env)).any (·.1) = false := by rfl) :
    PE X (.Call (.Attribute o name apos) (e :: es) [] cpos) (tML r to t) := ⟨fun pins s σ H Q I h =>
  (pe_bm PySem.F.plainAttrs_list slot hty hm (pe_mono ho) ha hb hw hl he hpl).run pins s σ H Q I ⟨_, h, fun x H1 ⟨p, xs, e, hp, q⟩ => ⟨by rw [e]; exact .inl ⟨rfl, xs, SqL.of hp⟩, q⟩⟩⟩
theorem pe_ml0 (slot : Slot "list" name id) (hty : typeOf (.builtin id) = pure (.type "method_descriptor")) (hm : MtR X id r) (ho : PE X o to)
    (hb : attributeBase o name X.env (eval o X.env) = eval o X.env := by rfl) (hl : (apos.endLine == cpos.line) = true := by rfl) :
    PE X (.Call (.Attribute o name apos) [] [] cpos) (tML r to tNil) := ⟨fun pins s σ H Q I h =>
  (pe_bm0 PySem.F.plainAttrs_list slot hty hm (pe_mono ho) hb hl).run pins s σ H Q I ⟨_, h, fun x H1 ⟨p, xs, e, hp, q⟩ => ⟨by rw [e]; exact .inl ⟨rfl, xs, SqL.of hp⟩, q⟩⟩⟩
end
theorem rz : (∀ vs H Q, rIsQ vs H Q = ∃ x T b, vs = [x, .ty T] ∧ isB H x T = some b ∧ Q (.bl b) H) ∧ (∀ r to t σ H Q, tML r to t σ H Q = to σ H fun x H1 => ∃ p xs, x = .ref p ∧ H1 p = some (.lst xs) ∧ t σ H1 fun vs H2 => r x vs H2 Q) ∧
    (∀ a b : String, V.ty a = V.ty b ↔ a = b) := by
  refine ⟨?_, ?_, ?_⟩ <;> intros <;> first | rfl | simp
theorem rix : (∀ (a : V) l, ixN (a :: l).length 0 = some 0) ∧ (∀ (a b : V) l, ixN (a :: b :: l).length 1 = some 1) ∧ (∀ (a b c : V) l, ixN (a :: b :: c :: l).length 2 = some 2) ∧ (∀ (a b c d : V) l, ixN (a :: b :: c :: d :: l).length 3 = some 3) := by
  refine ⟨?_, ?_, ?_, ?_⟩ <;> intros <;> simp only [ixN, List.length_cons] <;> rw [if_pos (by decide), if_pos (by omega)] <;> rfl
theorem rln : (([] : List V).length ≤ sizeLine ↔ True) ∧ (∀ a : V, [a].length ≤ sizeLine ↔ True) ∧ (∀ a b : V, [a, b].length ≤ sizeLine ↔ True) ∧ (∀ a b c : V, [a, b, c].length ≤ sizeLine ↔ True) ∧ (∀ a b c d : V, [a, b, c, d].length ≤ sizeLine ↔ True) ∧
    (∀ a b c d e : V, [a, b, c, d, e].length ≤ sizeLine ↔ True) ∧ (∀ a b c d e f : V, [a, b, c, d, e, f].length ≤ sizeLine ↔ True) ∧ (∀ a b c d e f g : V, [a, b, c, d, e, f, g].length ≤ sizeLine ↔ True) := by
  refine ⟨?_, ?_, ?_, ?_, ?_, ?_, ?_, ?_⟩ <;> intros <;> simp only [List.length_cons, List.length_nil, sizeLine_eq] <;> decide
theorem Same.new {H : Hp} {p : Addr} {o : HO} (h : H p = none) : Same H (upd H p o) := fun a u e => by
  rw [upd_ne (ne_of_none e h)]
  exact e
/-- an object that H does not know may change -/
theorem Same.mut {H H' : Hp} {p : Addr} {o : HO} (s : Same H H') (h : H p = none) : Same H (upd H' p o) := fun a u e => by
  rw [upd_ne (ne_of_none e h)]
  exact s a u e
/-! ### equal to themselves -/
/-- scalars; lists, tuples of ints; the empty dict -/
def Plain (H : Hp) : V → Prop
  | .non => True
  | .bl _ => True
  | .int _ => True
  | .str _ => True
  | .ref p => (∃ ns : List Int, H p = some (.lst (ns.map V.int)) ∧ ns.length ≤ 1000) ∨ (∃ ns : List Int, H p = some (.tup (ns.map V.int)) ∧ ns.length ≤ 1000) ∨ H p = some (.dK [])
  | _ => False
theorem Plain.same {H H' : Hp} (s : Same H H') {x : V} (h : Plain H x) : Plain H' x := by
  cases x with
  | ref p =>
    rcases h with ⟨ns, h, l⟩ | ⟨ns, h, l⟩ | h
    · exact .inl ⟨ns, s _ _ h, l⟩
    · exact .inr (.inl ⟨ns, s _ _ h, l⟩)
    · exact .inr (.inr (s _ _ h))
  | _ => exact h
theorem Plain.ty {H : Hp} {x : V} (h : Plain H x) : ∃ n, tyN H x = some n := by
  cases x with
  | ref p =>
    rcases h with ⟨ns, h, _⟩ | ⟨ns, h, _⟩ | h
    · exact ⟨"list", by rw [tyN, h] <;> rfl⟩
    · exact ⟨"tuple", by rw [tyN, h] <;> rfl⟩
    · exact ⟨"dict", by rw [tyN, h] <;> rfl⟩
  | byt _ => exact h.elim
  | flt _ => exact h.elim
  | ty _ => exact h.elim
  | _ => exact ⟨_, rfl⟩
theorem dpI {K : Fg} {H : Hp} : ∀ ns : List Int, DpAll K H (ns.map V.int) (ns.map PyData.int)
  | [] => .nil
  | n :: r => .cons (.int n) (dpI r)
theorem layI : ∀ ns : List Int, PyData.canLayAll0 (ns.map PyData.int) = true
  | [] => rfl
  | n :: r => by
    show (PyData.canLay0 (.int n) && PyData.canLayAll0 (r.map PyData.int)) = true
    rw [layI r, Bool.and_true]
    rfl
theorem depI : ∀ ns : List Int, PyData.depthAll (ns.map PyData.int) ≤ 1
  | [] => by show 0 ≤ 1; decide
  | n :: r => by
    have h := depI r
    simp only [List.map_cons, PyData.depthAll, PyData.depth]
    omega
theorem shapeL {ns : List Int} : SeqAt.shaped (.list (ns.map PyData.int)) = true := by
  have h := depI ns
  have h2 := layI ns
  simp only [SeqAt.shaped, PyData.canLay0, PyData.depth, Bool.and_eq_true, decide_eq_true_eq]
  exact ⟨h2, decide_eq_true (by omega)⟩
theorem shapeT {ns : List Int} : SeqAt.shaped (.tuple (ns.map PyData.int)) = true := by
  have h := depI ns
  have h2 := layI ns
  simp only [SeqAt.shaped, PyData.canLay0, PyData.depth, Bool.and_eq_true, decide_eq_true_eq]
  exact ⟨h2, decide_eq_true (by omega)⟩
theorem eqvI (ns ms : List Int) : PyData.eqv (.list (ns.map PyData.int)) (.list (ms.map PyData.int)) = decide (ns = ms) := by
  show PyData.eqvAll _ _ = _
  induction ns generalizing ms with
  | nil => cases ms with
    | nil => rfl
    | cons m r => rfl
  | cons n r ih => cases ms with
    | nil => rfl
    | cons m s =>
      show ((n == m) && PyData.eqvAll (r.map PyData.int) (s.map PyData.int)) = _
      rw [ih s, Bool.eq_iff_iff]
      simp
def rEqU (K : Fg) : R2 := fun x y H Q => L2.rEqD K x y H Q ∨ L2.rEqV K x y H Q ∨ L2.rEq x y H Q
theorem op_eqU {X : Cx} (hu : X.A.units + 64 < cLine) : OpR X (compareOp .Eq) (rEqU X.K) := OpR.or (op_eqD hu) (OpR.or (op_eqV hu) op_eq)
theorem Plain.eq {K : Fg} {H : Hp} {x : V} (h : Plain H x) {Q : VK} (q : Q (.bl true) H) : rEqU K x x H Q := by
  cases x with
  | ref p =>
    rcases h with ⟨ns, h, l⟩ | ⟨ns, h, l⟩ | h
    · refine .inr (.inl ⟨1, by decide, .inl ⟨p, p, _, _, rfl, rfl, SqL.of h, SqL.of h, ?_⟩, q⟩)
      clear h l
      induction ns with
      | nil => exact .nil
      | cons n r ih => exact .cons (.inl ⟨rfl, rfl⟩) ih
    · refine .inl ⟨_, _, .tup (SqT.of h) (dpI ns), .tup (SqT.of h) (dpI ns), shapeT, shapeT, ?_⟩
      rw [SeqAt.eqv_refl _ (SeqAt.canLay_of_shaped shapeT)]
      exact q
    · exact .inr (.inl ⟨1, by decide, .inr ⟨p, p, [], [], rfl, rfl, h, h, rfl, fun p hp => by cases hp⟩, q⟩)
  | non => exact .inl ⟨_, _, .non, .non, by decide, by decide, q⟩
  | bl b => exact .inl ⟨_, _, .bl b, .bl b, by cases b <;> decide, by cases b <;> decide, by rw [SeqAt.eqv_refl _ (by cases b <;> decide)]; exact q⟩
  | int i => exact .inl ⟨_, _, .int i, .int i, rfl, rfl, by rw [SeqAt.eqv_refl _ rfl]; exact q⟩
  | str s => exact .inr (.inr ⟨rfl, by rw [decide_eq_true rfl]; exact q⟩)
  | byt _ => exact h.elim
  | flt _ => exact h.elim
  | ty _ => exact h.elim
end Sw

/-! A call of a local name that holds one of several defs; small facts. -/
namespace Sw
open PySem PySem.Spec PyProof.Rows L2
structure HeldE (P : Program) (w : World) (K : Fg) (mg : Str → Option Value) (base : Heap) (k : Nat) (f : Addr) (sp : Sp) : Prop where
  ex : ∃ (fd : FuncData) (ps : List Str), FnOk P w K mg base (L2.CX P w) k f fd ps sp ∧ PySem.W.keepIn K (.ref f) = true ∧ Binds K fd ps []
theorem Cal.held {P : Program} {w : World} {K : Fg} {mg : Str → Option Value} {base : Heap} {k : Nat} {x : Str} {ps : List Str} {sp : Sp} (c : Cal P w K mg base k x ps sp) : HeldE P w K mg base k (He.ga K x) sp := by
  obtain ⟨fd, F, b⟩ := c.ex
  exact ⟨fd, ps, F, c.kp, b⟩
inductive Deeds (P : Program) (w : World) (K : Fg) (mg : Str → Option Value) (base : Heap) (j : Nat) : List (Addr × Sp) → Prop
  | nil : Deeds P w K mg base j []
  | cons {k : Nat} {x : Str} {ps : List Str} {sp : Sp} {l : List (Addr × Sp)} : Cal P w K mg base k x ps sp → k ≤ j → Deeds P w K mg base j l → Deeds P w K mg base j ((He.ga K x, sp) :: l)
theorem Deeds.get {P : Program} {w : World} {K : Fg} {mg : Str → Option Value} {base : Heap} {j : Nat} {l : List (Addr × Sp)} {f : Addr} {sp : Sp} (D : Deeds P w K mg base j l) (h : (f, sp) ∈ l) : ∃ k, k ≤ j ∧ HeldE P w K mg base k f sp := by
  induction D with
  | nil => cases h
  | cons c hk _ ih =>
    cases h with
    | head => exact ⟨_, hk, c.held⟩
    | tail _ h => exact ih h
def tDeedS (i : Nat) (l : List (Addr × Sp)) (E : L2.St → XK) (t : TA) : TE := fun σ H Q => ∃ f sp, σ[i]? = some (some (.ref f)) ∧ (f, sp) ∈ l ∧ t σ H fun vs H1 => sp vs H1 Q (E σ)
section
variable {X : Cx} {k i j : Nat} {x : Str} {p pos : Pos} {e : Expr} {es : List Expr} {t : TA} {l : List (Addr × Sp)}
theorem pe_deedS {W : WX} (D : Deeds X.prog X.w X.K X.mg X.base j l) (hr : Room j X.A) (tk : Takes X W) (hN : X.N[i]? = some x) (hv : Vis X.env.scope x) (ha : PA X (e :: es) t)
    (hdb : (x == ("__debug__" : Str)) = false := by decide) (hcd : (x == ("__classdict__" : Str)) = false := by decide)
    (he : starEach (e :: es) X.env = (false, eval e X.env) :: starEach es X.env := by rfl) (hpl : (backTo pos (starEach es X.env)).any (·.1) = false := by rfl) : PE X (.Call (.Name x p) (e :: es) [] pos) (tDeedS i l (WE W) t) := by
  refine ⟨fun pins s σ H Q I h => ?_⟩
  obtain ⟨f, sp, hs, hS, ht⟩ := h
  obtain ⟨k, hk, ⟨fd, ps, F, kp, hb⟩⟩ := D.get hS
  refine wpAny_Call_Name_kw (thn ((pe_var (pos := p) hN hv hdb hcd).run pins s σ H (fun v H1 => v = .ref f ∧ H1 = H) I ⟨.ref f, hs, rfl, rfl⟩) fun u s1 ⟨v, H1, I1, r1, q1⟩ => ?_)
  obtain ⟨rfl, rfl⟩ := q1
  cases r1
  refine PySem.W.callWith_K (h₀ := X.base) I.ok.mod.kin kp (thn (ha.run pos pins s1 σ _ _ I1 ht) fun us s2 ⟨vs, H2, I2, r, q⟩ => ⟨I2.kIn, ?_⟩) he hpl
  exact run_fnS F (hr.mono hk) hb (passAt tk σ) I2 r q
end
theorem rd : (∀ i l E t σ H Q, tDeedS i l E t σ H Q = ∃ f sp, σ[i]? = some (some (.ref f)) ∧ (f, sp) ∈ l ∧ t σ H fun vs H1 => sp vs H1 Q (E σ)) ∧ (∀ σ H Q, tDNewK σ H Q = ∀ p, H p = none → Q (.ref p) (upd H p (.dK []))) := ⟨fun _ _ _ _ _ _ _ => rfl, fun _ _ _ => rfl⟩
theorem rwi : (∀ σ : L2.St, wipe σ [] = σ) ∧ (∀ (σ : L2.St) (i : Nat) (vs : List Nat), wipe σ (i :: vs) = (wipe σ vs).set i none) ∧ (List.map (fun x : Str × Nat => x.snd) [] = []) ∧ (∀ (a : Str × Nat) (l : List (Str × Nat)), List.map (fun x : Str × Nat => x.snd) (a :: l) = a.snd :: List.map (fun x : Str × Nat => x.snd) l) := ⟨fun _ => rfl, fun _ _ _ => rfl, rfl, fun _ _ => rfl⟩
/-! ### a list and its copy -/
theorem Plain.eqV {K : Fg} {H : Hp} {x : V} (h : Plain H x) : EqV K H 1 x x := by
  cases x with
  | ref p => exact .inr (.inl ⟨p, rfl, rfl⟩)
  | non => exact .inl ⟨rfl, rfl⟩
  | bl b => exact .inl ⟨rfl, rfl⟩
  | int i => exact .inl ⟨rfl, rfl⟩
  | str s => exact .inl ⟨rfl, rfl⟩
  | byt _ => exact h.elim
  | flt _ => exact h.elim
  | ty _ => exact h.elim
theorem paired_self {E : V → V → Prop} : ∀ {xs : List V}, (∀ x ∈ xs, E x x) → Paired E xs xs
  | [], _ => .nil
  | x :: r, h => .cons (h x (by simp)) (paired_self fun y hy => h y (List.mem_cons_of_mem _ hy))
theorem copy_eq {K : Fg} {H : Hp} {p q : Addr} {xs : List V} (hp : H p = some (.lst xs)) (hq : H q = some (.lst xs)) (h : ∀ x ∈ xs, Plain H x) {Q : VK} (k : Q (.bl true) H) : rEqU K (.ref p) (.ref q) H Q :=
  .inr (.inl ⟨1, by decide, .inl ⟨p, q, xs, xs, rfl, rfl, SqL.of hp, SqL.of hq, paired_self fun x hx => (h x hx).eqV⟩, k⟩)
theorem isD_ref {K : Fg} {D a C d : Addr} {H : Hp} {fs : List (Str × V)} {b : Bool} {Q : VK} (hd : H d = some (.xd fs)) (e : PySem.W.kitOne K (.ref D) (.ref C) = some b) (q : Q (.bl b) H) : rIsD K D a (.ref D) (some d) [.ref a, .ref C] H Q := ⟨_, _, _, _, _, rfl, .own C, rfl, rfl, hd, e, q⟩
theorem isD_ty {K : Fg} {D a d : Addr} {T : String} {H : Hp} {fs : List (Str × V)} {b : Bool} {Q : VK} (hd : H d = some (.xd fs)) (e : PySem.W.kitOne K (.ref D) (.type T) = some b) (q : Q (.bl b) H) : rIsD K D a (.ref D) (some d) [.ref a, .ty T] H Q := ⟨_, _, _, _, _, rfl, .ty T, rfl, rfl, hd, e, q⟩
theorem eq_ints {K : Fg} {H : Hp} {p q : Addr} {ns ms : List Int} (hp : SqL K H p (ns.map V.int)) (hq : SqL K H q (ms.map V.int)) {Q : VK} (k : Q (.bl (decide (ns = ms))) H) : rEqD K (.ref p) (.ref q) H Q := by
  refine ⟨_, _, .lst hp (dpI ns), .lst hq (dpI ms), shapeL, shapeL, ?_⟩
  rw [eqvI]
  exact k
theorem ne_ints {K : Fg} {H : Hp} {p q : Addr} {ns ms : List Int} (hp : SqL K H p (ns.map V.int)) (hq : SqL K H q (ms.map V.int)) {Q : VK} (k : Q (.bl (!decide (ns = ms))) H) : rNeD K (.ref p) (.ref q) H Q := by
  refine ⟨_, _, .lst hp (dpI ns), .lst hq (dpI ms), shapeL, shapeL, ?_⟩
  rw [eqvI]
  exact k
theorem ite_none {α : Type} {c : Prop} [Decidable c] {o : α} {x : Option α} (h : (if c then some o else x) = none) : ¬ c ∧ x = none := by
  by_cases k : c
  · rw [if_pos k] at h
    cases h
  · rw [if_neg k] at h
    exact ⟨k, h⟩
theorem Plain.move {H H' : Hp} {x : V} (h : Plain H x) (k : ∀ q o, x = .ref q → H q = some o → H' q = some o) : Plain H' x := by
  cases x with
  | ref p =>
    rcases h with ⟨ns, h, l⟩ | ⟨ns, h, l⟩ | h
    · exact .inl ⟨ns, k _ _ rfl h, l⟩
    · exact .inr (.inl ⟨ns, k _ _ rfl h, l⟩)
    · exact .inr (.inr (k _ _ rfl h))
  | _ => exact h
/-- two ways to one place: the place is shown once -/
theorem Be.join {b : Bool} {f g : Hp → Prop} {H : Hp} (S : Hp → Prop) (h0 : S H) (n : ∀ H', S H' → g H') (hf : (∀ H', S H' → g H') → b = true → f H) : Be b f g H := Be.of (hf n) fun _ => n _ h0
theorem Be.joinL {b : Bool} {f g : Hp → Prop} {H : Hp} (S : Hp → Prop) (h0 : S H) (n : ∀ H', S H' → f H') (hg : (∀ H', S H' → f H') → b = false → g H) : Be b f g H := Be.of (fun _ => n _ h0) (hg n)
/-! ### the law's own def, and the end -/
theorem fn_mk {P : Program} {w : World} {K : Fg} {mg : Str → Option Value} {base : Heap} {k : Nat} {x : Str} {N ps : List Str} {sp : Sp} {st : Stmt} {fd : FuncData}
    (F : FunD K x x (defArgs st) (defBody st) (defScope st) [] [] (He.ga K x) fd) (S : FnScope N ps (defScope st)) (len : ∀ vs H Q E, sp vs H Q E → vs.length = ps.length)
    (hbody : ∀ (cdv : Value) (A : Around) (outer : List Env) (s : Shared) (H : Hp) (vs : List V) (Q : VK) (E : XK), Room k (A.deeper (envOfC x (defScope st) s.heap.objs.size (He.ga K x) cdv)) → sp vs H Q E →
      ∃ t, PSs (cxOf (L2.CX P w) P w K mg base N x (defScope st) (He.ga K x) cdv A outer s H E) (defBody st) t ∧ t { nx := fun _ H' => Q .non H', rt := Q } (start N vs) H) : FnOk P w K mg base (L2.CX P w) (k + 1) (He.ga K x) fd ps sp := F.ok S len hbody
theorem fn_closed {P : Program} {w : World} {K : Fg} {mg : Str → Option Value} {base : Heap} {k : Nat} {f : Addr} {fd : FuncData} {ps : List Str} {sp : Sp} (F : FnOk P w K mg base (L2.CX P w) k f fd ps sp) :
    FnOk P w K mg base (fun _ _ _ _ _ _ => False) k f fd ps (fun vs H Q _ => sp vs H Q fun _ _ _ => False) :=
  ⟨fun vs H Q E q => F.len _ _ _ _ q, fun A outer s H args us vs Q E hr he hb hv hs => codeAny_mono (F.run A outer s H args us vs Q (fun _ _ _ => False) hr he hb hv hs) fun r s' h => by
    cases r with
    | error e =>
      obtain ⟨_, _, _, _, _, _, _, _, _, _, _, _, z⟩ := h
      exact z.elim
    | ok fl => cases fl <;> exact h⟩
theorem fin_mk {P : Program} {w : World} {K : Fg} {mg : Str → Option Value} {h : Heap} {n k : Nat} {fa : Addr} {st : Stmt} {sp : Sp} (KX : K.In h) (hf : fa = He.ga K "law")
    (F : ∃ fd, FunD K "law" "law" (defArgs st) (defBody st) (defScope st) [] [] (He.ga K "law") fd)
    (hb : ∀ (kV doc pm : Value) (an : Option Addr) (cdv ct : Value) (us : List Value), us.length = (["script"] : List Str).length → bindArgs (PySem.W.fnOf "law" "law" (defArgs st) (defBody st) (defScope st) .none kV doc pm an cdv ct) ⟨us, []⟩ = pure ((["script"] : List Str).zip us))
    (hsp : ∀ (H : Hp) (a : Addr) (ns : List Int), ns.length ≤ n → SqL K H a (ns.map V.int) → sp [.ref a] H (fun v _ => v = .bl true) fun _ _ _ => False)
    (hF : ∀ (fd : FuncData) (base : Heap), FunD K "law" "law" (defArgs st) (defBody st) (defScope st) [] [] (He.ga K "law") fd → FnOk P w K mg base (L2.CX P w) k (He.ga K "law") fd ["script"] sp) :
    ∃ (K : PySem.W.Frag) (fd : FuncData) (sp : Sp), K.In h ∧ (∀ (s : Shared) (u : Value), BindsTo s fd ⟨[u], []⟩ [("script", u)]) ∧
        (∀ (H : Hp) (a : Addr) (ns : List Int), ns.length ≤ n → Only H → SqL K H a (ns.map V.int) → sp [.ref a] H (fun v _ => v = .bl true) fun _ _ _ => False) ∧
        ∀ base : Heap, K.In base → base.Ns mainGlobals mg → FnOk P w K mg base (fun _ _ _ _ _ _ => False) k fa fd ["script"] sp := by
  obtain ⟨fd, F⟩ := F
  refine ⟨K, fd, fun vs H Q _ => sp vs H Q fun _ _ _ => False, KX, fun s u => F.bindsA (ps := ["script"]) hb s [u] rfl, fun H a ns h1 _ h2 => hsp H a ns h1 h2, fun base _ _ => ?_⟩
  rw [hf]
  exact fn_closed (hF fd base F)
theorem eqv_int (i j : Int) : PyData.eqv (.int i) (.int j) = decide (i = j) := by
  show (i == j) = _
  rw [Bool.eq_iff_iff]
  simp
end Sw

/-! Objects of the program's own classes: methods, making, fields; constants of a module. -/
namespace Sw
open PySem PySem.Spec PyProof.Rows L2
structure CalM (P : Program) (w : World) (K : Fg) (mg : Str → Option Value) (base : Heap) (k : Nat) (C m : Str) (ps : List Str) (sp : Sp) : Prop where
  ex : ∃ fd : FuncData, FnOk P w K mg base (L2.CX P w) k (He.ma K (He.ga K C) m) fd ps sp ∧ Binds K fd ps []
  cls : Cls K (He.ga K C)
  meth : Meth K (He.ga K C) m (He.ma K (He.ga K C) m)
theorem calM_mk {P : Program} {w : World} {K : Fg} {mg : Str → Option Value} {base : Heap} {k : Nat} {C m q : Str} {N ps : List Str} {sp : Sp} {st : Stmt}
    (F : ∃ fd, FunD K m q (defArgs st) (defBody st) (defScope st) [] [] (He.ma K (He.ga K C) m) fd) (cls : Cls K (He.ga K C)) (meth : Meth K (He.ga K C) m (He.ma K (He.ga K C) m)) (S : FnScope N ps (defScope st)) (len : ∀ vs H Q E, sp vs H Q E → vs.length = ps.length)
    (hb : ∀ (kV doc pm : Value) (an : Option Addr) (cdv ct : Value) (us : List Value), us.length = ps.length → bindArgs (PySem.W.fnOf m q (defArgs st) (defBody st) (defScope st) .none kV doc pm an cdv ct) ⟨us, []⟩ = pure (ps.zip us))
    (hbody : ∀ (cdv : Value) (A : Around) (outer : List Env) (s : Shared) (H : Hp) (vs : List V) (Q : VK) (E : XK), Room k (A.deeper (envOfC q (defScope st) s.heap.objs.size (He.ma K (He.ga K C) m) cdv)) → sp vs H Q E →
      ∃ t, PSs (cxOf (L2.CX P w) P w K mg base N q (defScope st) (He.ma K (He.ga K C) m) cdv A outer s H E) (defBody st) t ∧ t { nx := fun _ H' => Q .non H', rt := Q } (start N vs) H) : CalM P w K mg base (k + 1) C m ps sp := by
  obtain ⟨fd, F⟩ := F
  exact ⟨⟨fd, F.ok S len hbody, F.bindsN hb⟩, cls, meth⟩
def tMth (C : Addr) (m : Str) (sp : Sp) (E : XK) (ta : TE) (t : TA) : TE := fun σ H Q => ta σ H fun x H1 => ∃ a dx fs, x = .ref a ∧ H1 a = some (.ins C dx fs) ∧ fs.lookup m = none ∧ t σ H1 fun vs H2 => sp (x :: vs) H2 Q E
def tMthS (C : Addr) (m : Str) (sp : Sp) (E : L2.St → XK) (ta : TE) (t : TA) : TE := fun σ H Q => ta σ H fun x H1 => ∃ a dx fs, x = .ref a ∧ H1 a = some (.ins C dx fs) ∧ fs.lookup m = none ∧ t σ H1 fun vs H2 => sp (x :: vs) H2 Q (E σ)
def tMak (C : Addr) (sp : Sp) (E : XK) (t : TA) : TE := fun σ H Q => t σ H fun vs H1 => ∀ x dx, H1 x = none → H1 dx = none → dx ≠ x → sp (.ref x :: vs) (upd (upd H1 dx (.own x)) x (.ins C dx [])) (fun v H2 => v = .non ∧ Q (.ref x) H2) E
def tMakS (C : Addr) (sp : Sp) (E : L2.St → XK) (t : TA) : TE := fun σ H Q => t σ H fun vs H1 => ∀ x dx, H1 x = none → H1 dx = none → dx ≠ x → sp (.ref x :: vs) (upd (upd H1 dx (.own x)) x (.ins C dx [])) (fun v H2 => v = .non ∧ Q (.ref x) H2) (E σ)
section
variable {X : Cx} {k j : Nat} {C m x : Str} {ps : List Str} {sp : Sp} {E : XK} {o e : Expr} {es : List Expr} {ta : TE} {t : TA} {p apos pos : Pos} {pl : Sem Bool} {W : WX}
theorem pe_mth (c : CalM X.prog X.w X.K X.mg X.base k C m ps sp) (hr : Room j X.A) (hk : k ≤ j) (hx : Passes (L2.CX X.prog X.w) X E) (he : PE X o ta) (ha : PA X (e :: es) t)
    (hst : starEach (e :: es) X.env = (false, eval e X.env) :: starEach es X.env := by rfl) (hpl : (backTo pos (starEach es X.env)).any (·.1) = false := by rfl)
    (ht : eval (.Call (.Attribute o m apos) (e :: es) [] pos) X.env = (do
      let ov ← eval o X.env
      standAt apos.atName
      let (f, first) ← holding [ov] (getMethod ov m pl)
      callWith pos f first (backTo pos (starEach (e :: es) X.env)) (backToKw pos (keywordEach [] X.env))) := by rfl) :
    PE X (.Call (.Attribute o m apos) (e :: es) [] pos) (tMth (He.ga X.K C) m sp E ta t) := by
  obtain ⟨fd, F, b⟩ := c.ex
  refine ⟨fun pins s σ H Q I h => (pe_meth (pl := pl) he c.cls c.meth F (hr.mono hk) b .nil hx ha hst hpl ht).run pins s σ H Q I ?_⟩
  have e2 : (fun (x : V) (vs : List V) (H2 : Hp) => sp (x :: (vs ++ [])) H2 Q E) = fun x vs H2 => sp (x :: vs) H2 Q E := by
    funext x vs H2
    rw [List.append_nil]
  show ta σ H fun x H1 => ∃ a dx fs, x = .ref a ∧ H1 a = some (.ins (He.ga X.K C) dx fs) ∧ fs.lookup m = none ∧ t σ H1 ((fun (x : V) (vs : List V) (H2 : Hp) => sp (x :: (vs ++ [])) H2 Q E) x)
  rw [e2]
  exact h
theorem pe_mth0 (c : CalM X.prog X.w X.K X.mg X.base k C m ps sp) (hr : Room j X.A) (hk : k ≤ j) (hx : Passes (L2.CX X.prog X.w) X E) (he : PE X o ta)
    (ht : eval (.Call (.Attribute o m apos) [] [] pos) X.env = (do
      let ov ← eval o X.env
      standAt apos.atName
      let (f, first) ← holding [ov] (getMethod ov m pl)
      callWith pos f first (backTo pos (starEach [] X.env)) (backToKw pos (keywordEach [] X.env))) := by rfl) :
    PE X (.Call (.Attribute o m apos) [] [] pos) (tMth (He.ga X.K C) m sp E ta tNil) := by
  obtain ⟨fd, F, b⟩ := c.ex
  exact ⟨fun pins s σ H Q I h => (pe_meth0 (pl := pl) he c.cls c.meth F (hr.mono hk) b .nil hx ht).run pins s σ H Q I h⟩
theorem pe_mthS (c : CalM X.prog X.w X.K X.mg X.base k C m ps sp) (hr : Room j X.A) (hk : k ≤ j) (tk : Takes X W) (he : PE X o ta) (ha : PA X (e :: es) t)
    (hst : starEach (e :: es) X.env = (false, eval e X.env) :: starEach es X.env := by rfl) (hpl : (backTo pos (starEach es X.env)).any (·.1) = false := by rfl)
    (ht : eval (.Call (.Attribute o m apos) (e :: es) [] pos) X.env = (do
      let ov ← eval o X.env
      standAt apos.atName
      let (f, first) ← holding [ov] (getMethod ov m pl)
      callWith pos f first (backTo pos (starEach (e :: es) X.env)) (backToKw pos (keywordEach [] X.env))) := by rfl) :
    PE X (.Call (.Attribute o m apos) (e :: es) [] pos) (tMthS (He.ga X.K C) m sp (WE W) ta t) := by
  obtain ⟨fd, F, b⟩ := c.ex
  refine ⟨fun pins s σ H Q I h => ?_⟩
  refine PySem.W.methodCall_KW (pl := pl) (thn (he.run pins s σ H _ I h) fun u s1 ⟨x, H1, I1, rx, a, dx, fs, ex, ea, l, q⟩ => ?_) ht
  subst ex
  obtain rfl : u = Value.ref a := rx
  refine getmeth_ok I1 ea c.cls c.meth l ?_
  refine PySem.W.callWith_K (first := [.ref a]) (h₀ := X.base) I.ok.mod.kin c.meth.kp (thn (ha.run pos pins s1 σ H1 _ I1 q) fun us s2 ⟨vs, H2, I2, r, q2⟩ => ⟨I2.kIn, ?_⟩) hst hpl
  exact run_fnS (us := .ref a :: us) (vs := .ref a :: vs) F (hr.mono hk) b (passAt tk σ) I2 (.cons rfl r) q2
theorem pe_mth0S (c : CalM X.prog X.w X.K X.mg X.base k C m ps sp) (hr : Room j X.A) (hk : k ≤ j) (tk : Takes X W) (he : PE X o ta)
    (ht : eval (.Call (.Attribute o m apos) [] [] pos) X.env = (do
      let ov ← eval o X.env
      standAt apos.atName
      let (f, first) ← holding [ov] (getMethod ov m pl)
      callWith pos f first (backTo pos (starEach [] X.env)) (backToKw pos (keywordEach [] X.env))) := by rfl) :
    PE X (.Call (.Attribute o m apos) [] [] pos) (tMthS (He.ga X.K C) m sp (WE W) ta tNil) := by
  obtain ⟨fd, F, b⟩ := c.ex
  refine ⟨fun pins s σ H Q I h => ?_⟩
  refine PySem.W.methodCall_KW (pl := pl) (thn (he.run pins s σ H _ I h) fun u s1 ⟨x, H1, I1, rx, a, dx, fs, ex, ea, l, q⟩ => ?_) ht
  subst ex
  obtain rfl : u = Value.ref a := rx
  refine getmeth_ok I1 ea c.cls c.meth l ?_
  exact PySem.W.callWith_K0 (first := [.ref a]) I1.kIn c.meth.kp (run_fnS (us := [.ref a]) (vs := [.ref a]) F (hr.mono hk) b (passAt tk σ) I1 (.cons rfl .nil) q)
theorem run_makS {C f : Addr} {fd : FuncData} {E : L2.St → XK} {pins : List (Addr × Obj)} {σ : L2.St} {H : Hp} {s : Shared} {Q : VK} {us : List Value} {vs : List V} (M : Mk X.K C f) (F : FnOk X.prog X.w X.K X.mg X.base (L2.CX X.prog X.w) k f fd ps sp) (hr : Room (k + 1) X.A) (hb : Binds X.K fd ps [])
    (hx : PassesAt (L2.CX X.prog X.w) X σ (E σ)) (I : Inv X pins σ H s) (r : Vals vs us)
    (h : ∀ x dx, H x = none → H dx = none → dx ≠ x → sp (.ref x :: vs) (upd (upd H dx (.own x)) x (.ins C dx [])) (fun v H2 => v = .non ∧ Q (.ref x) H2) (E σ)) :
    wpAny (model X.prog X.w) X.A (call (.ref C) us) (EP X pins σ Q) X.xe s := by
  have hq := h (s.heap.objs.size + 1) s.heap.objs.size (I.hok.fresh (Nat.le_succ _)) (I.hok.fresh (Nat.le_refl _)) (Nat.ne_of_lt (Nat.lt_succ_self _))
  have I2 := Inv.made (C := C) I
  have r2 : Vals (V.ref (s.heap.objs.size + 1) :: vs) (Value.ref (s.heap.objs.size + 1) :: us) := .cons rfl r
  have hl : (Value.ref (s.heap.objs.size + 1) :: us).length = ps.length := by
    have e := r2.length
    rw [F.len _ _ _ _ hq] at e
    exact e.symm
  refine wpAny_call (make_map (f := f) I.kIn M.makes M.init (beq_iff_eq.mp M.fn) (codeAny_mono (F.run _ X.stack _ _ ⟨Value.ref (s.heap.objs.size + 1) :: us, []⟩ (Value.ref (s.heap.objs.size + 1) :: us) _ _ (E σ) (hr.make C us [])
    (I2.env0.make C us []) (by have := hb _ (Value.ref (s.heap.objs.size + 1) :: us) I2.kIn (by rw [List.append_nil]; exact hl); rw [List.append_nil] at this; exact this) r2 hq) fun r s' hq' => ?_))
  cases r with
  | error e => exact hx pins _ _ e s' I2 hq'
  | ok fl =>
    cases fl with
    | ret u =>
      obtain ⟨v, H', I3, rv, ev, q3⟩ := I2.after hq'
      subst ev
      exact ⟨rv, ⟨V.ref (s.heap.objs.size + 1), H', I3, rfl, q3⟩⟩
    | next => exact False.elim hq'
    | brk => exact False.elim hq'
    | cont => exact False.elim hq'
theorem pe_mk (c : CalM X.prog X.w X.K X.mg X.base k C "__init__" ps sp) (M : Mk X.K (He.ga X.K C) (He.ma X.K (He.ga X.K C) "__init__")) (hm : X.mg C = some (.ref (He.ga X.K C))) (hr : Room j X.A) (hk : k + 1 ≤ j) (hx : Passes (L2.CX X.prog X.w) X E) (hg : Gl X C) (ha : PA X (e :: es) t)
    (hdb : (C == ("__debug__" : Str)) = false := by decide) (he : starEach (e :: es) X.env = (false, eval e X.env) :: starEach es X.env := by rfl) (hpl : (backTo pos (starEach es X.env)).any (·.1) = false := by rfl) :
    PE X (.Call (.Name C p) (e :: es) [] pos) (tMak (He.ga X.K C) sp E t) := by
  obtain ⟨fd, F, b⟩ := c.ex
  refine ⟨fun pins s σ H Q I h => (pe_make M F (hr.mono hk) hg hm b .nil hx ha hdb he hpl).run pins s σ H Q I ?_⟩
  have e2 : (fun (vs : List V) (H1 : Hp) => ∀ x dx, H1 x = none → H1 dx = none → dx ≠ x → sp (.ref x :: (vs ++ [])) (upd (upd H1 dx (.own x)) x (.ins (He.ga X.K C) dx [])) (fun v H2 => v = .non ∧ Q (.ref x) H2) E) = fun vs H1 => ∀ x dx, H1 x = none → H1 dx = none → dx ≠ x → sp (.ref x :: vs) (upd (upd H1 dx (.own x)) x (.ins (He.ga X.K C) dx [])) (fun v H2 => v = .non ∧ Q (.ref x) H2) E := by
    funext vs H1
    rw [List.append_nil]
  show t σ H fun vs H1 => ∀ x dx, H1 x = none → H1 dx = none → dx ≠ x → sp (.ref x :: (vs ++ [])) (upd (upd H1 dx (.own x)) x (.ins (He.ga X.K C) dx [])) (fun v H2 => v = .non ∧ Q (.ref x) H2) E
  rw [e2]
  exact h
theorem pe_mkS (c : CalM X.prog X.w X.K X.mg X.base k C "__init__" ps sp) (M : Mk X.K (He.ga X.K C) (He.ma X.K (He.ga X.K C) "__init__")) (hm : X.mg C = some (.ref (He.ga X.K C))) (hr : Room j X.A) (hk : k + 1 ≤ j) (tk : Takes X W) (hg : Gl X C) (ha : PA X (e :: es) t)
    (hdb : (C == ("__debug__" : Str)) = false := by decide) (he : starEach (e :: es) X.env = (false, eval e X.env) :: starEach es X.env := by rfl) (hpl : (backTo pos (starEach es X.env)).any (·.1) = false := by rfl) :
    PE X (.Call (.Name C p) (e :: es) [] pos) (tMakS (He.ga X.K C) sp (WE W) t) := by
  obtain ⟨fd, F, b⟩ := c.ex
  refine ⟨fun pins s σ H Q I h => ?_⟩
  refine wpAny_Call_Name_kw (ld_glob I hg hm ?_ hdb)
  refine PySem.W.callWith_K (h₀ := X.base) I.ok.mod.kin M.kp (thn (ha.run pos pins s σ H _ I h) fun us s1 ⟨vs, H1, I1, r, q⟩ => ⟨I1.kIn, ?_⟩) he hpl
  exact run_makS M F (hr.mono hk) b (passAt tk σ) I1 r q
/-! ### fields -/
def tFldC (C : Addr) (ta : TE) (f : Str) : TE := fun σ H Q => ta σ H fun x H1 => ∃ a dx fs v, x = .ref a ∧ H1 a = some (.ins C dx fs) ∧ fs.lookup f = some v ∧ Q v H1
def sFldC (C : Addr) (ta tv : TE) (f : Str) : TS := fun D σ H => tv σ H fun y H1 => ta σ H1 fun x H2 => ∃ a dx fs, x = .ref a ∧ H2 a = some (.ins C dx fs) ∧ fs.length < 1000 ∧ D.nx σ (upd H2 a (.ins C dx (putF f y fs)))
theorem pe_fldC {f : Str} {D : Addr} (c : Cls X.K D) (n : NoAttr X.K D f) (he : PE X e ta) (hb : attributeBase e f X.env (eval e X.env) = eval e X.env := by rfl) : PE X (.Attribute e f pos) (tFldC D ta f) :=
  ⟨fun pins s σ H Q I h => (pe_fld (pe_mono he) hb).run pins s σ H Q I ⟨_, h, fun x H1 ⟨a, dx, fs, v, e1, e2, e3, q⟩ => ⟨a, D, dx, fs, v, e1, e2, c, n, e3, q⟩⟩⟩
theorem ps_fldC {f : Str} {tv : TE} {D : Addr} {value : Expr} {pos' : Pos} (c : Cls X.K D) (n : NoAttr X.K D f) (ha : PE X o ta) (hv : PE X value tv) (hs : swapsWith value (some (.Attribute o f pos')) pos.line X.env = pure false := by rfl) :
    PS X (.Assign [.Attribute o f pos'] value pos) (sFldC D ta tv f) :=
  ⟨fun pins s σ H D' I h => (ps_fld (pe_mono ha) (pe_mono hv) hs).run pins s σ H D' I ⟨_, h, fun y H1 q => ⟨_, q, fun x H2 ⟨a, dx, fs, e1, e2, e3, q⟩ => ⟨a, D, dx, fs, e1, e2, c, n, e3, q⟩⟩⟩⟩
/-! ### the head with tables -/
abbrev AlX : Type := He.AlD × List (Option (List (Option (Str × Int))))
def obT (p : Fg → Bool) (fn : List He.DefD) (ts : List He.Tab) (K : Fg) : AlX := (obX p fn K, ts.map fun t => He.dicW K (t.1 K))
def vaT (fn : List He.DefD) (ts : List He.Tab) (w : World) : AlX := (He.valD fn, ts.map fun t => some (He.keysIn w.params t.2))
def sayT (p : Fg → Bool) (fn : List He.DefD) (ts : List He.Tab) (w : World) (K : Fg) : Prop := obT p fn ts K = vaT fn ts w
def hkT (n : Nat) (p : Fg → Bool) (fn : List He.DefD) (ts : List He.Tab) : PySem.W.Hook where
  α := AlX
  obs := fun s => obT p fn ts (He.frG s.heap.get? (asX s.heap.get? n))
  val := fun w => vaT fn ts w
  says := fun w h => ∃ K : Fg, K.In h ∧ sayT p fn ts w K
  of := fun _ _ e => ⟨_, He.frG_in, e⟩
  keeps := fun _ _ _ ⟨K, hK, c⟩ k => ⟨K, PySem.W.Frag.In.keeps hK k, c⟩
theorem obT_eq {n : Nat} {p : Fg → Bool} {fn : List He.DefD} {ts : List He.Tab} {g : Addr → Option Obj} {s : Shared} (h : ∀ a, g a = s.heap.get? a) : obT p fn ts (He.frG g (asX g n)) = (hkT n p fn ts).obs s := by
  rw [show g = s.heap.get? from funext h] <;> rfl
theorem sayT.bas {p : Fg → Bool} {fn : List He.DefD} {ts : List He.Tab} {w : World} {K : Fg} (c : sayT p fn ts w K) : sayX p fn K := congrArg (fun z : AlX => z.1) c
theorem sayT.tab {p : Fg → Bool} {fn : List He.DefD} {ts : List He.Tab} {w : World} {K : Fg} (c : sayT p fn ts w K) (i : Nat) {t : He.Tab} (h : ts[i]? = some t := by rfl) : ∃ es n, KDict K w (t.1 K) es n := by
  have e : ts.map (fun t => He.dicW K (t.1 K)) = ts.map fun t => some (He.keysIn w.params t.2) := congrArg (fun z : AlX => z.2) c
  have e2 : (ts.map fun t => He.dicW K (t.1 K))[i]? = (ts.map fun t => some (He.keysIn w.params t.2))[i]? := by rw [e]
  rw [List.getElem?_map, List.getElem?_map, h] at e2
  exact He.dicW_ok (Option.some.inj e2)
/-- a value of such a table -/
theorem kdct_of {K : Fg} {w : World} {a : Addr} {kvs : List (Str × He.Dv)} (h : ∃ es n, KDict K w a es n) (v : He.valsB K a kvs = true) : ∀ q ∈ kvs, KDct K w a q.1 (q.2.v K) := fun q hq => by
  obtain ⟨es, n, D⟩ := h
  obtain ⟨u, e, r⟩ := He.valsB_ok v hq
  exact ⟨es, n, u, D.at_, D.lit, e, r⟩
/-! ### constants of a module -/
theorem pe_gint {i : Int} (hg : Gl X x) (hm : ∃ t, X.mg x = some (.int i t)) (hd : (x == ("__debug__" : Str)) = false := by decide) : PE X (.Name x pos) (tC (.int i)) := by
  obtain ⟨t, hm⟩ := hm
  exact pe_glob hg hm ⟨t, rfl⟩ hd
theorem pe_gstr {z : Str} (hg : Gl X x) (hm : ∃ t, X.mg x = some (.str z t)) (hd : (x == ("__debug__" : Str)) = false := by decide) : PE X (.Name x pos) (tC (.str z)) := by
  obtain ⟨t, hm⟩ := hm
  exact pe_glob hg hm ⟨t, rfl⟩ hd
end
/-! ### xs[i] op= e, the read by value -/
def rGetL : V → V → Hp → VK → Prop := fun o i H Q => ∃ p xs k v, o = .ref p ∧ i = .int k ∧ H p = some (.lst xs) ∧ (0 ≤ k ∧ k < 2 ^ 62) ∧ xs[k.toNat]? = some v ∧ Q v H
theorem get_list {X : Cx} : PGet X rGetL := by
  intro pins s σ H o i ov iv Q I r1 r2 ⟨p, xs, k, v, e1, e2, e3, ⟨k0, k1⟩, e4, q⟩
  subst e1 e2
  cases r1
  obtain ⟨t, rfl⟩ := r2
  obtain ⟨its, r, pl, hz⟩ := I.list (SqL.of e3)
  obtain ⟨u, ew, rw'⟩ := r.get e4
  exact wpAny_getItem_list pl.isList k0 (by omega) (by simpa using ew) ⟨v, H, I, rw', q⟩
theorem ri : (∀ C m sp E ta t σ H Q, tMth C m sp E ta t σ H Q = ta σ H fun x H1 => ∃ a dx fs, x = .ref a ∧ H1 a = some (.ins C dx fs) ∧ fs.lookup m = none ∧ t σ H1 fun vs H2 => sp (x :: vs) H2 Q E) ∧
    (∀ C m sp E ta t σ H Q, tMthS C m sp E ta t σ H Q = ta σ H fun x H1 => ∃ a dx fs, x = .ref a ∧ H1 a = some (.ins C dx fs) ∧ fs.lookup m = none ∧ t σ H1 fun vs H2 => sp (x :: vs) H2 Q (E σ)) ∧
    (∀ C sp E t σ H Q, tMak C sp E t σ H Q = t σ H fun vs H1 => ∀ x dx, H1 x = none → H1 dx = none → dx ≠ x → sp (.ref x :: vs) (upd (upd H1 dx (.own x)) x (.ins C dx [])) (fun v H2 => v = .non ∧ Q (.ref x) H2) E) ∧
    (∀ C sp E t σ H Q, tMakS C sp E t σ H Q = t σ H fun vs H1 => ∀ x dx, H1 x = none → H1 dx = none → dx ≠ x → sp (.ref x :: vs) (upd (upd H1 dx (.own x)) x (.ins C dx [])) (fun v H2 => v = .non ∧ Q (.ref x) H2) (E σ)) ∧
    (∀ C ta f σ H Q, tFldC C ta f σ H Q = ta σ H fun x H1 => ∃ a dx fs v, x = .ref a ∧ H1 a = some (.ins C dx fs) ∧ fs.lookup f = some v ∧ Q v H1) ∧
    (∀ C ta tv f D σ H, sFldC C ta tv f D σ H = tv σ H fun y H1 => ta σ H1 fun x H2 => ∃ a dx fs, x = .ref a ∧ H2 a = some (.ins C dx fs) ∧ fs.length < 1000 ∧ D.nx σ (upd H2 a (.ins C dx (putF f y fs)))) ∧
    (∀ to ti te tg tp ts D σ H, tAugS to ti te tg tp ts D σ H = to σ H fun o H1 => ti σ H1 fun i H2 => tg o i H2 fun x H3 => te σ H3 fun y H4 => tp x y H4 fun z H5 => ts o i z H5 fun H6 => D.nx σ H6) ∧
    (∀ f i y H Q, ipI f (.int i) y H Q = ∃ j, y = .int j ∧ Q (.int (f i j)) H) ∧
    (∀ p i H Q, rGetL (.ref p) (.int i) H Q = ∃ xs v, H p = some (.lst xs) ∧ (0 ≤ i ∧ i < 2 ^ 62) ∧ xs[i.toNat]? = some v ∧ Q v H) := by
  refine ⟨?_, ?_, ?_, ?_, ?_, ?_, ?_, ?_, ?_⟩
  iterate 7 (intros; rfl)
  · intro f i y H Q
    exact propext ⟨fun ⟨_, j, e1, e2, q⟩ => ⟨j, e2, by cases e1; exact q⟩, fun ⟨j, e, q⟩ => ⟨i, j, rfl, e, q⟩⟩
  · intro p i H Q
    exact propext ⟨fun ⟨_, xs, _, v, e1, e2, e3, e4, e5, q⟩ => (by cases e1; cases e2; exact ⟨xs, v, e3, e4, e5, q⟩), fun ⟨xs, v, e3, e4, e5, q⟩ => ⟨p, xs, i, v, rfl, rfl, e3, e4, e5, q⟩⟩
end Sw

/-! Errors of the program's own as values: made, asked for their class, for a field. -/
namespace Sw
open PySem PySem.Spec PyProof.Rows L2
/-- C(e, ..): the error stays a value -/
def tMkV (C : Addr) (sp : Sp) (ta : TA) : TE := fun σ H Q => ta σ H fun vs H1 => vs.length ≤ 1000 ∧ ∀ a, H1 a = none → sp (.ref a :: vs) (upd H1 a (exo a C none)) (fun v H2 => v = .non ∧ Q (.ref a) H2) (fun _ _ _ => False)
section
variable {X : Cx} {k : Nat} {x f : Str} {e : Expr} {es : List Expr} {ta : TA} {te : TE} {p pos : Pos}
theorem run_mkV {C fI : Addr} {fd : FuncData} {ps : List Str} {sp : Sp} {pins : List (Addr × Obj)} {σ : L2.St} {H1 : Hp} {s1 : Shared} {Q : VK} {us : List Value} {vs : List V} (T : OexC X.K C) (iC : PySem.W.findIn X.K (.ref C) "__init__" = some (some (.ref fI))) (tI : PySem.W.typeIn X.K (.ref fI) = some (.type "function"))
    (F1 : FnOk X.prog X.w X.K X.mg X.base (L2.CX X.prog X.w) k fI fd ps sp) (hr : Room (k + 1) X.A) (hb : Binds X.K fd ps []) (I1 : Inv X pins σ H1 s1) (r1 : Vals vs us) (hz : vs.length ≤ 1000)
    (q1 : ∀ a, H1 a = none → sp (.ref a :: vs) (upd H1 a (exo a C none)) (fun v H2 => v = .non ∧ Q (.ref a) H2) (fun _ _ _ => False)) :
    wpAny (model X.prog X.w) X.A (call (.ref C) us) (EP X pins σ Q) X.xe s1 := by
  obtain ⟨nm, q, N, bs, bm, sn, sub, ab, col, dd, k0, k1, k2, k3, k5, hC, hbm⟩ := T.cls
  obtain ⟨hp, g, dr, tk, os⟩ := s1
  have hsz : hp.objs.size ≤ hp.objs.size + 1 := Nat.le_succ _
  have hn : H1 (hp.objs.size + 1) = none := I1.hok.fresh hsz
  have hq := q1 (hp.objs.size + 1) hn
  have kk : ∀ b o, hp.get? b = some o → ((hp.push (PySem.W.kdv_tup us)).push (PySem.HandSPX.excO C hp.objs.size)).get? b = some o := fun b o e => Heap.get?_push_of_some _ (Heap.get?_push_of_some _ e)
  have hget : ((hp.push (PySem.W.kdv_tup us)).push (PySem.HandSPX.excO C hp.objs.size)).get? (hp.objs.size + 1) = some (PySem.HandSPX.excO C hp.objs.size) := by heap_get
  have I2 : Inv X pins σ (upd H1 (hp.objs.size + 1) (exo (hp.objs.size + 1) C none)) ⟨(hp.push (PySem.W.kdv_tup us)).push (PySem.HandSPX.excO C hp.objs.size), g, dr, tk, os⟩ :=
    I1.laid (t' := tk) (a := hp.objs.size + 1) (o := exo (hp.objs.size + 1) C none) (h' := (hp.push (PySem.W.kdv_tup us)).push (PySem.HandSPX.excO C hp.objs.size)) kk hsz (exo_ok hget)
  have r2 : Vals (V.ref (hp.objs.size + 1) :: vs) (Value.ref (hp.objs.size + 1) :: us) := .cons rfl r1
  have hl : (Value.ref (hp.objs.size + 1) :: us).length = ps.length := by
    have e := r2.length
    rw [F1.len _ _ _ _ hq] at e
    exact e.symm
  have hus : us.length ≤ sizeLine := by
    rw [← Paired.length r1, sizeLine_eq]
    omega
  refine wpAny_call (PySem.HandSPX.call_own F.excBase_ValueError (fun Y => PySem.HandSPX.refsVE_contains Y bm hbm) (I1.kIn _ _ hC) (PySem.W.looks_findIn I1.kIn iC) (fun self => PySem.W.bind_fn I1.kIn self tI) hus
    (codeAny_mono (F1.run _ X.stack _ _ ⟨Value.ref (hp.objs.size + 1) :: us, []⟩ (Value.ref (hp.objs.size + 1) :: us) _ _ (fun _ _ _ => False) (hr.make C us []) (I2.env0.make C us [])
      (by have := hb _ (Value.ref (hp.objs.size + 1) :: us) I2.kIn (by rw [List.append_nil]; exact hl); rw [List.append_nil] at this; exact this) r2 hq) fun r s' hq' => ?_))
  cases r with
  | error er => exact passL pins σ _ _ er s' I2 hq'
  | ok fl =>
    cases fl with
    | ret u =>
      obtain ⟨v, H', I3, rv, ev, q3⟩ := I2.after hq'
      subst ev
      exact ⟨rv, ⟨V.ref (hp.objs.size + 1), H', I3, rfl, q3⟩⟩
    | next => exact False.elim hq'
    | brk => exact False.elim hq'
    | cont => exact False.elim hq'
/-- C(e), one field -/
def tMk1V (C : Addr) (f : Str) (ta : TA) : TE := fun σ H Q => ta σ H fun vs H1 => ∃ v, vs = [v] ∧ ∀ a d, H1 a = none → H1 d = none → d ≠ a → Q (.ref a) (upd (upd H1 d (exd d [(f, v)])) a (exo a C (some d)))
theorem pe_mk1V (T : Exn X.prog X.w X.K X.mg X.base x f) (hr : Room k X.A) (hk : 3 ≤ k) (hg : Gl X x) (ha : PA X (e :: es) ta)
    (hdb : (x == ("__debug__" : Str)) = false := by decide) (he : starEach (e :: es) X.env = (false, eval e X.env) :: starEach es X.env := by rfl) (hpl : (backTo pos (starEach es X.env)).any (·.1) = false := by rfl) :
    PE X (.Call (.Name x p) (e :: es) [] pos) (tMk1V (He.ga X.K x) f ta) := by
  obtain ⟨fI, fd, iC, tI, F, b⟩ := T.ini
  refine ⟨fun pins s σ H Q I h => ?_⟩
  refine wpAny_Call_Name_kw (ld_glob I hg T.at_ ?_ hdb)
  refine PySem.W.callWith_K (h₀ := X.base) I.ok.mod.kin T.c.ox.kC (thn (ha.run pos pins s σ H _ I h) fun us s1 ⟨vs, H1, I1, r1, v, ev, q⟩ => ⟨I1.kIn, ?_⟩) he hpl
  subst ev
  refine run_mkV T.c.ox iC tI F (hr.mono hk) b I1 r1 (by show 1 ≤ 1000; decide) fun a na => ⟨a, v, rfl, upd_same, fun d nd ne => ⟨rfl, ?_⟩⟩
  rw [upd_ne ne] at nd
  have e2 : upd (upd (upd H1 a (exo a (He.ga X.K x) none)) d (exd d [(f, v)])) a (exo a (He.ga X.K x) (some d)) = upd (upd H1 d (exd d [(f, v)])) a (exo a (He.ga X.K x) (some d)) := by
    funext c
    by_cases h1 : c = a
    · rw [h1, upd_same, upd_same]
    · rw [upd_ne h1, upd_ne h1]
      by_cases h2 : c = d
      · rw [h2, upd_same, upd_same]
      · rw [upd_ne h2, upd_ne h2, upd_ne h1]
  rw [e2]
  exact q a d na nd ne
/-! ### isinstance, of such a value -/
def Xo (H : Hp) (a C : Addr) : Prop := H a = some (exo a C none) ∨ H a = some (ExO (.ref C) a) ∨ ∃ dx fs, H a = some (exo a C (some dx)) ∧ H dx = some (exd dx fs)
def rIsV (K : Fg) : List V → Hp → VK → Prop := fun xs H Q => ∃ (a D : Addr) (c : V) (cv : Value) (b : Bool), xs = [.ref a, c] ∧ ClsV c cv ∧ ExC K D ∧ Xo H a D ∧ PySem.W.kitOne K (.ref D) cv = some b ∧ Q (.bl b) H
theorem call_isV : CallR X (.builtin "isinstance") (rIsV X.K) := by
  intro pins s σ H xs us Q I r h
  obtain ⟨a, D, c, cv, b, rfl, hcv, C, hx, e, q⟩ := h
  cases r with
  | cons r1 r2 =>
    cases r2 with
    | cons r3 r4 =>
      cases r4
      cases r1
      have ec := hcv.eq r3
      subst ec
      rcases hx with ha | ha | ⟨dx, fs, ha, hd⟩
      · obtain ⟨t1, hget⟩ := exo_at I.hok ha
        have J : PySem.W.InstAt s.heap a _ D none := ⟨hget, rfl, rfl, trivial⟩
        exact PySem.W.kia_one (PySem.W.sw_kitE C.xf.ga C.xf.gg C.xf.exC C.xf.hdC C.cc C.gs C.tk C.mo) I.kIn J e (fun z => nomatch z) fun tk => ⟨.bl b, H, I.kept (t' := tk) fun _ _ z => z, rfl, q⟩
      · obtain ⟨⟨oe, vs, hget, hz, hv, _⟩, _, _⟩ := I.hok a _ ha
        have J : PySem.W.InstAt s.heap a oe D none := by
          obtain ⟨oc, od, oda, osl⟩ := oe
          obtain ⟨h1, h2⟩ := hz
          dsimp only at h1 h2 hv
          subst h1 h2 hv
          exact ⟨hget, rfl, rfl, trivial⟩
        exact PySem.W.kia_one (PySem.W.sw_kitE C.xf.ga C.xf.gg C.xf.exC C.xf.hdC C.cc C.gs C.tk C.mo) I.kIn J e (fun z => nomatch z) fun tk => ⟨.bl b, H, I.kept (t' := tk) fun _ _ z => z, rfl, q⟩
      · obtain ⟨t1, hget⟩ := exo_at I.hok ha
        obtain ⟨mA, hns, _⟩ := exd_at I.hok hd
        obtain ⟨od, ho, _⟩ := lookIn_ns hns
        have J : PySem.W.InstAt s.heap a _ D (some od) := ⟨hget, rfl, rfl, ho⟩
        exact PySem.W.kia_one (PySem.W.sw_kitE C.xf.ga C.xf.gg C.xf.exC C.xf.hdC C.cc C.gs C.tk C.mo) I.kIn J e (fun z => nomatch z) fun tk => ⟨.bl b, H, I.kept (t' := tk) fun _ _ z => z, rfl, q⟩
/-- isinstance of such a value, or of any other kind -/
theorem is_qv : CallR X (.builtin "isinstance") (fun xs H Q => rIsQ xs H Q ∨ rIsV X.K xs H Q) := fun pins s σ H xs us Q I r h => h.elim (is_q pins s σ H xs us Q I r) (call_isV pins s σ H xs us Q I r)
/-! ### its fields -/
def tXfV (K : Fg) (te : TE) (f : Str) : TE := fun σ H Q => te σ H fun x H1 => ∃ (a D dx : Addr) (fs : List (Str × V)) (v : V), x = .ref a ∧ ExC K D ∧ PySem.W.findIn K (.ref D) f = some none ∧ H1 a = some (exo a D (some dx)) ∧ H1 dx = some (exd dx fs) ∧ fs.lookup f = some v ∧ Q v H1
theorem pe_xfV (he : PE X e te) (hb : attributeBase e f X.env (eval e X.env) = eval e X.env := by rfl) : PE X (.Attribute e f pos) (tXfV X.K te f) := by
  refine ⟨fun pins s σ H Q I h => ?_⟩
  refine attr_of hb (thn (he.run pins s σ H _ I h) fun u s1 ⟨x, H1, I1, rx, a, D, dx, fs, v, ex, T, hno, ha, hd, l, q⟩ => ?_)
  subst ex
  obtain rfl : u = Value.ref a := rx
  obtain ⟨t1, hget⟩ := exo_at I1.hok ha
  obtain ⟨mA, hns, hr⟩ := exd_at I1.hok hd
  obtain ⟨od, ho, hl⟩ := lookIn_ns hns
  obtain ⟨u, hu, ru⟩ := RelO.some_of (v := v) (o := mA f) (by rw [← l]; exact hr f)
  have J : PySem.W.InstAt s1.heap a _ D (some od) := ⟨hget, rfl, rfl, ho⟩
  exact HandSPX.exc_get I1.kIn J T.xf.ga T.xf.gg T.xf.exC (PySem.W.findObj_own T.xf.hdC hno rfl (by rw [hl, hu])) (handed_of ru) ⟨v, H1, I1.tok _, ru, q⟩
/-! ### classes with two fields, with none -/
structure ExnG (P : Program) (w : World) (K : Fg) (mg : Str → Option Value) (base : Heap) (j : Nat) (x : Str) (ps : List Str) (sp : Sp) : Prop where
  at_ : mg x = some (.ref (He.ga K x))
  c : ExC K (He.ga K x)
  ini : ∃ (fI : Addr) (fd : FuncData), PySem.W.findIn K (.ref (He.ga K x)) "__init__" = some (some (.ref fI)) ∧ PySem.W.typeIn K (.ref fI) = some (.type "function") ∧ FnOk P w K mg base (L2.CX P w) j fI fd ps sp ∧ Binds K fd ps []
theorem pe_mkG {j : Nat} {ps : List Str} {sp : Sp} (T : ExnG X.prog X.w X.K X.mg X.base j x ps sp) (hr : Room k X.A) (hk : j + 1 ≤ k) (hg : Gl X x) (ha : PA X (e :: es) ta)
    (hdb : (x == ("__debug__" : Str)) = false := by decide) (he : starEach (e :: es) X.env = (false, eval e X.env) :: starEach es X.env := by rfl) (hpl : (backTo pos (starEach es X.env)).any (·.1) = false := by rfl) :
    PE X (.Call (.Name x p) (e :: es) [] pos) (tMkV (He.ga X.K x) sp ta) := by
  obtain ⟨fI, fd, iC, tI, F, b⟩ := T.ini
  refine ⟨fun pins s σ H Q I h => ?_⟩
  refine wpAny_Call_Name_kw (ld_glob I hg T.at_ ?_ hdb)
  exact PySem.W.callWith_K (h₀ := X.base) I.ok.mod.kin T.c.ox.kC (thn (ha.run pos pins s σ H _ I h) fun us s1 ⟨vs, H1, I1, r1, hz, q⟩ => ⟨I1.kIn, run_mkV T.c.ox iC tI F (hr.mono hk) b I1 r1 hz q⟩) he hpl
theorem pe_mkG0 {j : Nat} {ps : List Str} {sp : Sp} (T : ExnG X.prog X.w X.K X.mg X.base j x ps sp) (hr : Room k X.A) (hk : j + 1 ≤ k) (hg : Gl X x)
    (hdb : (x == ("__debug__" : Str)) = false := by decide) : PE X (.Call (.Name x p) [] [] pos) (tMkV (He.ga X.K x) sp tNil) := by
  obtain ⟨fI, fd, iC, tI, F, b⟩ := T.ini
  refine ⟨fun pins s σ H Q I h => ?_⟩
  refine wpAny_Call_Name_kw (ld_glob I hg T.at_ ?_ hdb)
  exact PySem.W.callWith_K0 I.kIn T.c.ox.kC (run_mkV (us := []) T.c.ox iC tI F (hr.mono hk) b I .nil h.1 h.2)
end
def ini0 (m : Str) (p1 p2 p3 p4 p5 p6 : Pos) (j : Nat) : List Stmt := [.Expr (.Call (.Attribute (.Name "SeedError" p1) "__init__" p2) [.Name "self" p3, .Constant (.str m) j p4] [] p5) p6]
def spIni0 (C : Addr) : Sp := fun vs H Q _ => ∃ a : Addr, vs = [.ref a] ∧ H a = some (exo a C none) ∧ Q .non H
def ini2 (m f g : Str) (p1 p2 p3 p4 p5 p6 p7 p8 p9 p10 q7 q8 q9 q10 : Pos) (j : Nat) : List Stmt :=
  [.Expr (.Call (.Attribute (.Name "SeedError" p1) "__init__" p2) [.Name "self" p3, .Constant (.str m) j p4] [] p5) p6, .Assign [.Attribute (.Name "self" p7) f p8] (.Name f p9) p10, .Assign [.Attribute (.Name "self" q7) g q8] (.Name g q9) q10]
def spIni2 (C : Addr) (f g : Str) : Sp := fun vs H Q _ => ∃ (a : Addr) (v u : V), vs = [.ref a, v, u] ∧ H a = some (exo a C none) ∧ ∀ d, H d = none → d ≠ a → Q .non (upd (upd H d (exd d [(g, u), (f, v)])) a (exo a C (some d)))
section
variable {P : Program} {w : World} {K : Fg} {mg : Str → Option Value} {base : Heap} {C Cs fI : Addr} {f g m qual : Str} {params : Arguments} {body : List Stmt} {scope : Scope} {fd : FuncData} {p1 p2 p3 p4 p5 p6 p7 p8 p9 p10 q7 q8 q9 q10 : Pos} {j : Nat}
theorem ok_ini0 (F : FunD K "__init__" qual params body scope [] [] fI fd) (S : FnScope ["self"] ["self"] scope) (hb : body = ini0 m p1 p2 p3 p4 p5 p6 j)
    (l1 : scope.names.lookup ("self" : Str) = some .local) (l3 : scope.names.lookup ("SeedError" : Str) = some .globalImplicit) (hl : (p2.endLine == p5.line) = true)
    (T : ExC K C) (I0 : IniC K Cs) (gS : mg "SeedError" = some (.ref Cs)) : FnOk P w K mg base (L2.CX P w) 2 fI fd ["self"] (spIni0 C) := by
  subst hb
  refine F.ok S (fun vs H Q E h => ?_) (fun cdv A outer s H vs Q E hr h => ?_)
  · obtain ⟨a, rfl, _⟩ := h
    rfl
  · obtain ⟨a, rfl, ha, k⟩ := h
    refine ⟨_, pss_one (ps_expr (pe_sinit I0 l3 gS (pa_cons (pv 0 (hv := .inl l1)) (pa_cons pe_str pa_nil)) (hl := hl))), ?_⟩
    simp only [rst, rs, re, ra, ro, List.getElem?_cons_zero, List.getElem?_cons_succ, Option.some.injEq, exists_eq_left', exists_eq_left, exists_and_left, exists_eq, exists_eq', List.cons.injEq, V.ref.injEq]
    exact ⟨a, C, [.str m], ⟨rfl, rfl⟩, (by show 1 ≤ 1000; decide), T.ox, ha, k⟩
theorem ok_ini2 (F : FunD K "__init__" qual params body scope [] [] fI fd) (S : FnScope ["self", f, g] ["self", f, g] scope) (hb : body = ini2 m f g p1 p2 p3 p4 p5 p6 p7 p8 p9 p10 q7 q8 q9 q10 j)
    (l1 : scope.names.lookup ("self" : Str) = some .local) (l2 : scope.names.lookup f = some .local) (l4 : scope.names.lookup g = some .local) (l3 : scope.names.lookup ("SeedError" : Str) = some .globalImplicit) (hdb : (f == ("__debug__" : Str)) = false) (hcd : (f == ("__classdict__" : Str)) = false)
    (hdb2 : (g == ("__debug__" : Str)) = false) (hcd2 : (g == ("__classdict__" : Str)) = false) (hl : (p2.endLine == p5.line) = true)
    (T : ExC K C) (I0 : IniC K Cs) (gS : mg "SeedError" = some (.ref Cs)) (hno : PySem.W.findIn K (.ref C) f = some none) (hno2 : PySem.W.findIn K (.ref C) g = some none) : FnOk P w K mg base (L2.CX P w) 2 fI fd ["self", f, g] (spIni2 C f g) := by
  subst hb
  refine F.ok S (fun vs H Q E h => ?_) (fun cdv A outer s H vs Q E hr h => ?_)
  · obtain ⟨a, v, u, rfl, _⟩ := h
    rfl
  · obtain ⟨a, v, u, rfl, ha, k⟩ := h
    refine ⟨_, pss_cons (ps_expr (pe_sinit I0 l3 gS (pa_cons (pv 0 (hv := .inl l1)) (pa_cons pe_str pa_nil)) (hl := hl))) (pss_cons (ps_ost (pv 0 (hv := .inl l1)) (pv 1 (hv := .inl l2) (hd := hdb) (hcd := hcd))) (pss_one (ps_ost (pv 0 (hv := .inl l1)) (pv 2 (hv := .inl l4) (hd := hdb2) (hcd := hcd2))))), ?_⟩
    simp only [rst, rs, re, ra, ro, List.getElem?_cons_zero, List.getElem?_cons_succ, Option.some.injEq, exists_eq_left', exists_eq_left, exists_and_left, exists_eq, exists_eq', List.cons.injEq, V.ref.injEq]
    refine ⟨a, C, [.str m], ⟨rfl, rfl⟩, (by show 1 ≤ 1000; decide), T.ox, ha, C, T.ox, hno, .inl ⟨ha, fun d hd hn => ⟨C, T.ox, hno2, .inr ⟨d, upd_same, [(f, v)], by rw [upd_ne hn, upd_same], (by show 1 ≤ 900; decide), ?_⟩⟩⟩⟩
    have e2 : upd (upd (upd H d (exd d [(f, v)])) a (exo a C (some d))) d (exd d [(g, u), (f, v)]) = upd (upd H d (exd d [(g, u), (f, v)])) a (exo a C (some d)) := by
      funext c
      by_cases h1 : c = d
      · rw [h1, upd_same, upd_ne hn, upd_same]
      · rw [upd_ne h1]
        by_cases h2 : c = a
        · rw [h2, upd_same, upd_same]
        · rw [upd_ne h2, upd_ne h2, upd_ne h1, upd_ne h1]
    rw [e2]
    exact k d hd hn
end
theorem rv : (∀ C f ta σ H Q, tMk1V C f ta σ H Q = ta σ H fun vs H1 => ∃ v, vs = [v] ∧ ∀ a d, H1 a = none → H1 d = none → d ≠ a → Q (.ref a) (upd (upd H1 d (exd d [(f, v)])) a (exo a C (some d)))) ∧
    (∀ C sp ta σ H Q, tMkV C sp ta σ H Q = ta σ H fun vs H1 => vs.length ≤ 1000 ∧ ∀ a, H1 a = none → sp (.ref a :: vs) (upd H1 a (exo a C none)) (fun v H2 => v = .non ∧ Q (.ref a) H2) (fun _ _ _ => False)) ∧
    (∀ K te f σ H Q, tXfV K te f σ H Q = te σ H fun x H1 => ∃ (a D dx : Addr) (fs : List (Str × V)) (v : V), x = .ref a ∧ ExC K D ∧ PySem.W.findIn K (.ref D) f = some none ∧ H1 a = some (exo a D (some dx)) ∧ H1 dx = some (exd dx fs) ∧ fs.lookup f = some v ∧ Q v H1) := ⟨fun _ _ _ _ _ _ => rfl, fun _ _ _ _ _ _ => rfl, fun _ _ _ _ _ _ => rfl⟩
/-! ### kinds of plain values, in every heap -/
theorem kb (b : Bool) (H : Hp) : isB H (.bl b) "bool" = some true ∧ isB H (.bl b) "int" = some true ∧ isB H (.bl b) "str" = some false ∧ isB H (.bl b) "list" = some false ∧ isB H (.bl b) "tuple" = some false ∧ isB H (.bl b) "dict" = some false := by
  have e : tyN H (.bl b) = some "bool" := rfl
  simp only [isB, e, Option.bind_some, kitB_all, and_self]
theorem ki (i : Int) (H : Hp) : isB H (.int i) "bool" = some false ∧ isB H (.int i) "int" = some true ∧ isB H (.int i) "str" = some false ∧ isB H (.int i) "list" = some false ∧ isB H (.int i) "tuple" = some false ∧ isB H (.int i) "dict" = some false := by
  have e : tyN H (.int i) = some "int" := rfl
  simp only [isB, e, Option.bind_some, kitB_all, and_self]
theorem ks (z : Str) (H : Hp) : isB H (.str z) "bool" = some false ∧ isB H (.str z) "int" = some false ∧ isB H (.str z) "str" = some true ∧ isB H (.str z) "list" = some false ∧ isB H (.str z) "tuple" = some false ∧ isB H (.str z) "dict" = some false := by
  have e : tyN H (.str z) = some "str" := rfl
  simp only [isB, e, Option.bind_some, kitB_all, and_self]
theorem kn (H : Hp) : isB H .non "bool" = some false ∧ isB H .non "int" = some false ∧ isB H .non "str" = some false ∧ isB H .non "list" = some false ∧ isB H .non "tuple" = some false ∧ isB H .non "dict" = some false := by
  have e : tyN H .non = some "NoneType" := rfl
  simp only [isB, e, Option.bind_some, kitB_all, and_self]
theorem kindB {H : Hp} {p : Addr} {o : HO} {xs : List V} (h : H p = some o) (e : seqO o = some xs) : isB H (.ref p) "bool" = some false ∧ isB H (.ref p) "int" = some false ∧ isB H (.ref p) "str" = some false ∧ isB H (.ref p) "dict" = some false ∧
    isB H (.ref p) "list" = some (!isT o) ∧ isB H (.ref p) "tuple" = some (isT o) := by
  have t : tyN H (.ref p) = some (if isT o = true then "tuple" else "list") := by
    rw [tyN, h, Option.bind_some]
    unfold seqO at e
    split at e <;> first | rfl | cases e
  cases z : isT o with
  | true =>
    rw [z, if_pos rfl] at t
    simp only [isB, t, Option.bind_some, kitB_all, and_self, Bool.not_true]
  | false =>
    rw [z, if_neg (by decide)] at t
    simp only [isB, t, Option.bind_some, kitB_all, and_self, Bool.not_false]
theorem kindD {H : Hp} {p : Addr} {ks : List (Key × V)} (h : H p = some (.dK ks)) : isB H (.ref p) "bool" = some false ∧ isB H (.ref p) "int" = some false ∧ isB H (.ref p) "str" = some false ∧ isB H (.ref p) "dict" = some true ∧
    isB H (.ref p) "list" = some false ∧ isB H (.ref p) "tuple" = some false := by
  have t : tyN H (.ref p) = some "dict" := by rw [tyN, h] <;> rfl
  simp only [isB, t, Option.bind_some, kitB_all, and_self]
/-- one sign of a text -/
theorem cutS_one {z : Str} {i : Nat} {c : Nat} (h : z.cps.toList[i]? = some c) : cutS z (some (i : Int)) (some ((i : Int) + 1)) = ⟨#[c]⟩ := by
  obtain ⟨h1, h2⟩ := List.getElem?_eq_some_iff.mp h
  have hl : z.length = z.cps.toList.length := by rw [Array.length_toList] <;> rfl
  have e1 : ((i : Int) + 1) = ((i + 1 : Nat) : Int) := by omega
  unfold cutS
  rw [e1, HT.sIx_nat, HT.sIx_nat, hl, Nat.min_eq_left (by omega), Nat.min_eq_left (by omega), List.drop_eq_getElem_cons h1, h2, show i + 1 - i = 1 by omega]
  rfl
/-! ### for k in a dict, locked -/
theorem LC.keys {d : Addr} {o : Obj} {kvs : List (Key × V)} {g : TG} {tt : TT} {te : TE} {vs : List Nat} {σ : L2.St} {H1 : Hp} {Q : VK} (Pv : Addr → Nat → Hp → Prop) (h0 : ∀ D, H1 D = none → Pv D 0 (upd H1 D (.lst [])))
    (hl : ∀ D i H, H1 D = none → Pv D i H → H d = some (.frz o (.dK kvs)))
    (hs : ∀ D i k v H, H1 D = none → kvs[i]? = some (k, v) → Pv D i H → g (kV k) (wipe σ vs) H fun σ2 H2 => wipe σ2 vs = wipe σ vs ∧ tt σ2 H2 fun b H3 => Be b (fun H3 => te σ2 H3 fun y H4 => ∃ acc, H4 D = some (.lst acc) ∧ acc.length < sizeLine ∧ Pv D (i + 1) (upd H4 D (.lst (acc ++ [y])))) (Pv D (i + 1)) H3)
    (hd : ∀ D H, H1 D = none → Pv D kvs.length H → Q (.ref D) H) : LC (Itk d o kvs) g tt te vs σ Q H1 := fun D nD => by
  refine ⟨fun i m H => m + i = kvs.length ∧ Pv D i H, ⟨kvs.length, rfl, h0 D nD⟩, fun i m H ⟨e, p⟩ => ?_⟩
  by_cases c : i < kvs.length
  · refine .inr ⟨⟨hl D i H nD p, c⟩, Pv D (i + 1), fun H' p' => ⟨m - 1, by omega, by omega, p'⟩, fun x H' ⟨e1, k, v, e2, e3⟩ => ?_⟩
    subst e1 e3
    exact hs D i k v H' nD e2 p
  · have e2 : i = kvs.length := by omega
    exact .inl ⟨⟨hl D i H nD p, by omega⟩, hd D H nD (e2 ▸ p)⟩
theorem rk : (∀ td σ H R, iKeys td σ H R = td σ H fun x H1 => ∃ d o, x = .ref d ∧ ((∃ kvs, H1 d = some (.frz o (.dK kvs)) ∧ R (Itk d o kvs) H1) ∨ ∃ kvs, H1 d = some (.frz o (.dT kvs)) ∧ R (Itkt d o kvs) H1)) ∧
    (∀ t σ H Q, tLockE t σ H Q = ∃ d u, H d = some u ∧ L2.Mut (some u) ∧ ∀ od, t σ (upd H d (.frz od u)) fun v H' => H' d = some (.frz od u) ∧ Q v (upd H' d u)) ∧
    (∀ td ty σ H Q, tDGet td ty σ H Q = td σ H fun x H1 => ty σ H1 fun y H2 => ∃ a v, x = .ref a ∧ DGet H2 a y (some v) ∧ Q v H2) ∧
    (∀ ty td σ H Q, tDNotIn ty td σ H Q = ty σ H fun y H1 => td σ H1 fun x H2 => ∃ a o, x = .ref a ∧ DGet H2 a y o ∧ Q (.bl (!o.isSome)) H2) ∧
    (∀ ty td σ H Q, tDIn ty td σ H Q = ty σ H fun y H1 => td σ H1 fun x H2 => ∃ a o, x = .ref a ∧ DGet H2 a y o ∧ Q (.bl o.isSome) H2) := ⟨fun _ _ _ _ => rfl, fun _ _ _ _ => rfl, fun _ _ _ _ _ => rfl, fun _ _ _ _ _ => rfl, fun _ _ _ _ _ => rfl⟩
theorem rdd : (∀ trs σ H Q, tDisp trs σ H Q = ∀ p, H p = none → tPairs trs σ (upd H p (.dK [])) fun ps H2 => H2 p = some (.dK []) ∧ ∃ kvs : List (Key × V), ps = kvs.map (fun kv => (kV kv.1, kv.2)) ∧ kvs.length ≤ 15 ∧ Q (.ref p) (upd H2 p (.dK (mergeK [] kvs)))) ∧
    (∀ σ H Q, tPairs [] σ H Q = Q [] H) ∧ (∀ tk tv r σ H Q, tPairs ((tk, tv) :: r) σ H Q = tk σ H fun x H1 => tv σ H1 fun y H2 => tPairs r σ H2 fun ps H3 => Q ((x, y) :: ps) H3) := ⟨fun _ _ _ _ => rfl, fun _ _ _ => rfl, fun _ _ _ _ _ _ => rfl⟩
end Sw

namespace Law
open PySem PySem.Spec PyProof.Rows L2 Sw
def top (i : Nat) : Stmt := PySem.Challenge.pw_splitwide_k50_errors_of_the_new_stages.main.body.getD i (.Pass ⟨0, 0, 0, 0⟩)
abbrev s__law_cell : Stmt := top 17
abbrev nm__law_cell : List Str := ["script", "k"]
theorem sc__law_cell : FnScope nm__law_cell ["script", "k"] (defScope s__law_cell) := ⟨rfl, rfl, rfl, by decide +kernel, rfl, by decide +kernel, by decide +kernel⟩
abbrev s__law_box : Stmt := top 18
abbrev nm__law_box : List Str := ["great"]
theorem sc__law_box : FnScope nm__law_box ["great"] (defScope s__law_box) := ⟨rfl, rfl, rfl, by decide +kernel, rfl, by decide +kernel, by decide +kernel⟩
abbrev s__law_take : Stmt := top 19
abbrev nm__law_take : List Str := ["box", "many", "digit", "mixed"]
theorem sc__law_take : FnScope nm__law_take ["box", "many"] (defScope s__law_take) := ⟨rfl, rfl, rfl, by decide +kernel, rfl, by decide +kernel, by decide +kernel⟩
abbrev s__law_same : Stmt := top 20
abbrev nm__law_same : List Str := ["told", "due", "k"]
theorem sc__law_same : FnScope nm__law_same ["told", "due"] (defScope s__law_same) := ⟨rfl, rfl, rfl, by decide +kernel, rfl, by decide +kernel, by decide +kernel⟩
abbrev s__law_error : Stmt := top 21
abbrev nm__law_error : List Str := ["which", "one", "other"]
theorem sc__law_error : FnScope nm__law_error ["which", "one", "other"] (defScope s__law_error) := ⟨rfl, rfl, rfl, by decide +kernel, rfl, by decide +kernel, by decide +kernel⟩
abbrev s__law_fields : Stmt := top 22
abbrev nm__law_fields : List Str := ["which", "error"]
theorem sc__law_fields : FnScope nm__law_fields ["which", "error"] (defScope s__law_fields) := ⟨rfl, rfl, rfl, by decide +kernel, rfl, by decide +kernel, by decide +kernel⟩
abbrev s__law_classes : Stmt := top 23
abbrev nm__law_classes : List Str := ["error", "first", "second", "third"]
theorem sc__law_classes : FnScope nm__law_classes ["error"] (defScope s__law_classes) := ⟨rfl, rfl, rfl, by decide +kernel, rfl, by decide +kernel, by decide +kernel⟩
abbrev s__law_thing : Stmt := top 24
abbrev nm__law_thing : List Str := ["box", "way", "plain"]
theorem sc__law_thing : FnScope nm__law_thing ["box"] (defScope s__law_thing) := ⟨rfl, rfl, rfl, by decide +kernel, rfl, by decide +kernel, by decide +kernel⟩
abbrev s__law_alike : Stmt := top 25
abbrev nm__law_alike : List Str := ["told", "due", "k"]
theorem sc__law_alike : FnScope nm__law_alike ["told", "due"] (defScope s__law_alike) := ⟨rfl, rfl, rfl, by decide +kernel, rfl, by decide +kernel, by decide +kernel⟩
abbrev s__law_error_right : Stmt := top 26
abbrev nm__law_error_right : List Str := ["box", "which", "one", "due", "other", "second", "error", "dues", "kept", "k"]
theorem sc__law_error_right : FnScope nm__law_error_right ["box", "which"] (defScope s__law_error_right) := ⟨rfl, rfl, rfl, by decide +kernel, rfl, by decide +kernel, by decide +kernel⟩
abbrev s__law_right : Stmt := top 27
abbrev nm__law_right : List Str := ["box", "turn", "which", "plain"]
theorem sc__law_right : FnScope nm__law_right ["box", "turn"] (defScope s__law_right) := ⟨rfl, rfl, rfl, by decide +kernel, rfl, by decide +kernel, by decide +kernel⟩
abbrev s_law : Stmt := top 28
abbrev nm_law : List Str := ["script", "k", "box", "good"]
theorem sc_law : FnScope nm_law ["script"] (defScope s_law) := ⟨rfl, rfl, rfl, by decide +kernel, rfl, by decide +kernel, by decide +kernel⟩
abbrev s_NoText_init : Stmt := inClass (top 2) 0
abbrev s_NoKind_init : Stmt := inClass (top 3) 0
abbrev s_NoCounts_init : Stmt := inClass (top 4) 0
abbrev s_NoThing_init : Stmt := inClass (top 5) 0
abbrev s_NoRule_init : Stmt := inClass (top 6) 0
abbrev s_NoThings_init : Stmt := inClass (top 7) 0
abbrev s_NotStraight_init : Stmt := inClass (top 8) 0
abbrev s_NoClue_init : Stmt := inClass (top 9) 0
abbrev s_NoArea_init : Stmt := inClass (top 10) 0
abbrev s_NoLender_init : Stmt := inClass (top 11) 0
abbrev s_NoLetter_init : Stmt := inClass (top 12) 0
abbrev s_Thrown_init : Stmt := inClass (top 13) 0
abbrev s_NothingDone_init : Stmt := inClass (top 14) 0
abbrev s_NothingUndone_init : Stmt := inClass (top 15) 0
def fn : List He.DefD := [⟨("_law_cell", none), "_law_cell", "_law_cell", defArgs s__law_cell, defBody s__law_cell, defScope s__law_cell, [], []⟩,
  ⟨("_law_box", none), "_law_box", "_law_box", defArgs s__law_box, defBody s__law_box, defScope s__law_box, [], []⟩,
  ⟨("_law_take", none), "_law_take", "_law_take", defArgs s__law_take, defBody s__law_take, defScope s__law_take, [], []⟩,
  ⟨("_law_same", none), "_law_same", "_law_same", defArgs s__law_same, defBody s__law_same, defScope s__law_same, [], []⟩,
  ⟨("_law_error", none), "_law_error", "_law_error", defArgs s__law_error, defBody s__law_error, defScope s__law_error, [], []⟩,
  ⟨("_law_fields", none), "_law_fields", "_law_fields", defArgs s__law_fields, defBody s__law_fields, defScope s__law_fields, [], []⟩,
  ⟨("_law_classes", none), "_law_classes", "_law_classes", defArgs s__law_classes, defBody s__law_classes, defScope s__law_classes, [], []⟩,
  ⟨("_law_thing", none), "_law_thing", "_law_thing", defArgs s__law_thing, defBody s__law_thing, defScope s__law_thing, [], []⟩,
  ⟨("_law_alike", none), "_law_alike", "_law_alike", defArgs s__law_alike, defBody s__law_alike, defScope s__law_alike, [], []⟩,
  ⟨("_law_error_right", none), "_law_error_right", "_law_error_right", defArgs s__law_error_right, defBody s__law_error_right, defScope s__law_error_right, [], []⟩,
  ⟨("_law_right", none), "_law_right", "_law_right", defArgs s__law_right, defBody s__law_right, defScope s__law_right, [], []⟩,
  ⟨("law", none), "law", "law", defArgs s_law, defBody s_law, defScope s_law, [], []⟩,
  ⟨("NoText", some "__init__"), "__init__", "NoText.__init__", defArgs s_NoText_init, defBody s_NoText_init, defScope s_NoText_init, [], []⟩,
  ⟨("NoKind", some "__init__"), "__init__", "NoKind.__init__", defArgs s_NoKind_init, defBody s_NoKind_init, defScope s_NoKind_init, [], []⟩,
  ⟨("NoCounts", some "__init__"), "__init__", "NoCounts.__init__", defArgs s_NoCounts_init, defBody s_NoCounts_init, defScope s_NoCounts_init, [], []⟩,
  ⟨("NoThing", some "__init__"), "__init__", "NoThing.__init__", defArgs s_NoThing_init, defBody s_NoThing_init, defScope s_NoThing_init, [], []⟩,
  ⟨("NoRule", some "__init__"), "__init__", "NoRule.__init__", defArgs s_NoRule_init, defBody s_NoRule_init, defScope s_NoRule_init, [], []⟩,
  ⟨("NoThings", some "__init__"), "__init__", "NoThings.__init__", defArgs s_NoThings_init, defBody s_NoThings_init, defScope s_NoThings_init, [], []⟩,
  ⟨("NotStraight", some "__init__"), "__init__", "NotStraight.__init__", defArgs s_NotStraight_init, defBody s_NotStraight_init, defScope s_NotStraight_init, [], []⟩,
  ⟨("NoClue", some "__init__"), "__init__", "NoClue.__init__", defArgs s_NoClue_init, defBody s_NoClue_init, defScope s_NoClue_init, [], []⟩,
  ⟨("NoArea", some "__init__"), "__init__", "NoArea.__init__", defArgs s_NoArea_init, defBody s_NoArea_init, defScope s_NoArea_init, [], []⟩,
  ⟨("NoLender", some "__init__"), "__init__", "NoLender.__init__", defArgs s_NoLender_init, defBody s_NoLender_init, defScope s_NoLender_init, [], []⟩,
  ⟨("NoLetter", some "__init__"), "__init__", "NoLetter.__init__", defArgs s_NoLetter_init, defBody s_NoLetter_init, defScope s_NoLetter_init, [], []⟩,
  ⟨("Thrown", some "__init__"), "__init__", "Thrown.__init__", defArgs s_Thrown_init, defBody s_Thrown_init, defScope s_Thrown_init, [], []⟩,
  ⟨("NothingDone", some "__init__"), "__init__", "NothingDone.__init__", defArgs s_NothingDone_init, defBody s_NothingDone_init, defScope s_NothingDone_init, [], []⟩,
  ⟨("NothingUndone", some "__init__"), "__init__", "NothingUndone.__init__", defArgs s_NothingUndone_init, defBody s_NothingUndone_init, defScope s_NothingUndone_init, [], []⟩]
def fa : List He.Fa := [.glo "_law_cell", .glo "_law_box", .glo "_law_take", .glo "_law_same", .glo "_law_error", .glo "_law_fields", .glo "_law_classes", .glo "_law_thing", .glo "_law_alike", .glo "_law_error_right", .glo "_law_right", .glo "law", .glo "SeedError", .glo "NoText", .glo "NoKind", .glo "NoCounts", .glo "NoThing", .glo "NoRule", .glo "NoThings", .glo "NotStraight", .glo "NoClue", .glo "NoArea", .glo "NoLender", .glo "NoLetter", .glo "Thrown", .glo "NothingDone", .glo "NothingUndone", .free "ValueError", .free "abs", .free "bool", .free "dict", .free "int", .free "isinstance", .free "len", .free "list", .free "max", .free "min", .free "range", .free "str", .free "sum", .free "tuple", .noat "NoText" "at", .noat "NoKind" "found", .noat "NoCounts" "found", .noat "NoThing" "found", .noat "NoRule" "found", .noat "NotStraight" "found", .noat "NoClue" "at", .noat "NoArea" "found", .noat "NoLender" "found", .noat "NoLetter" "found", .noat "Thrown" "name", .noat "Thrown" "at", .exc "SeedError", .meth "NoText" "__init__", .meth "NoKind" "__init__", .meth "NoCounts" "__init__", .meth "NoThing" "__init__", .meth "NoRule" "__init__", .meth "NoThings" "__init__", .meth "NotStraight" "__init__", .meth "NoClue" "__init__", .meth "NoArea" "__init__", .meth "NoLender" "__init__", .meth "NoLetter" "__init__", .meth "Thrown" "__init__", .meth "NothingDone" "__init__", .meth "NothingUndone" "__init__"]
def fp (K : Fg) : Bool := (fa.all fun f => f.ok K) && allB [exB K (He.ga K "NoText"), exB K (He.ga K "NoKind"), exB K (He.ga K "NoCounts"), exB K (He.ga K "NoThing"), exB K (He.ga K "NoRule"), exB K (He.ga K "NoThings"), exB K (He.ga K "NotStraight"), exB K (He.ga K "NoClue"), exB K (He.ga K "NoArea"), exB K (He.ga K "NoLender"), exB K (He.ga K "NoLetter"), exB K (He.ga K "Thrown"), exB K (He.ga K "NothingDone"), exB K (He.ga K "NothingUndone"), iniB K (He.ga K "SeedError"), ((List.range 15).all fun i => (List.range 14).all fun j => decide (PySem.W.kitOne K (.ref (He.ga K ((["NoKind", "NoCounts", "NoThing", "NoRule", "NotStraight", "NoArea", "NoLender", "NoLetter", "NoClue", "Thrown", "NoThings", "NothingDone", "NothingUndone", "NoText", "SeedError"] : List Str).getD i ""))) (.ref (He.ga K ((["NoKind", "NoCounts", "NoThing", "NoRule", "NotStraight", "NoArea", "NoLender", "NoLetter", "NoClue", "Thrown", "NoThings", "NothingDone", "NothingUndone", "NoText", "SeedError"] : List Str).getD j ""))) = some (decide (i = j)))), ((List.range 15).all fun i => decide (PySem.W.kitOne K (.ref (He.ga K ((["NoKind", "NoCounts", "NoThing", "NoRule", "NotStraight", "NoArea", "NoLender", "NoLetter", "NoClue", "Thrown", "NoThings", "NothingDone", "NothingUndone", "NoText", "SeedError"] : List Str).getD i ""))) (.ref (He.ga K "SeedError")) = some true)), ((List.range 15).all fun i => decide (PySem.W.kitOne K (.ref (He.ga K ((["NoKind", "NoCounts", "NoThing", "NoRule", "NotStraight", "NoArea", "NoLender", "NoLetter", "NoClue", "Thrown", "NoThings", "NothingDone", "NothingUndone", "NoText", "SeedError"] : List Str).getD i ""))) (.type "ValueError") = some true)), exB K (He.ga K "SeedError")]
def ts : List He.Tab := []
structure Tx (K : Fg) (mg : Str → Option Value) (w : World) : Prop where
  g__law_cell : mg "_law_cell" = some (.ref (He.ga K "_law_cell"))
  F__law_cell : ∃ fd, FunD K "_law_cell" "_law_cell" (defArgs s__law_cell) (defBody s__law_cell) (defScope s__law_cell) [] [] (He.ga K "_law_cell") fd
  g__law_box : mg "_law_box" = some (.ref (He.ga K "_law_box"))
  F__law_box : ∃ fd, FunD K "_law_box" "_law_box" (defArgs s__law_box) (defBody s__law_box) (defScope s__law_box) [] [] (He.ga K "_law_box") fd
  g__law_take : mg "_law_take" = some (.ref (He.ga K "_law_take"))
  F__law_take : ∃ fd, FunD K "_law_take" "_law_take" (defArgs s__law_take) (defBody s__law_take) (defScope s__law_take) [] [] (He.ga K "_law_take") fd
  g__law_same : mg "_law_same" = some (.ref (He.ga K "_law_same"))
  F__law_same : ∃ fd, FunD K "_law_same" "_law_same" (defArgs s__law_same) (defBody s__law_same) (defScope s__law_same) [] [] (He.ga K "_law_same") fd
  g__law_error : mg "_law_error" = some (.ref (He.ga K "_law_error"))
  F__law_error : ∃ fd, FunD K "_law_error" "_law_error" (defArgs s__law_error) (defBody s__law_error) (defScope s__law_error) [] [] (He.ga K "_law_error") fd
  g__law_fields : mg "_law_fields" = some (.ref (He.ga K "_law_fields"))
  F__law_fields : ∃ fd, FunD K "_law_fields" "_law_fields" (defArgs s__law_fields) (defBody s__law_fields) (defScope s__law_fields) [] [] (He.ga K "_law_fields") fd
  g__law_classes : mg "_law_classes" = some (.ref (He.ga K "_law_classes"))
  F__law_classes : ∃ fd, FunD K "_law_classes" "_law_classes" (defArgs s__law_classes) (defBody s__law_classes) (defScope s__law_classes) [] [] (He.ga K "_law_classes") fd
  g__law_thing : mg "_law_thing" = some (.ref (He.ga K "_law_thing"))
  F__law_thing : ∃ fd, FunD K "_law_thing" "_law_thing" (defArgs s__law_thing) (defBody s__law_thing) (defScope s__law_thing) [] [] (He.ga K "_law_thing") fd
  g__law_alike : mg "_law_alike" = some (.ref (He.ga K "_law_alike"))
  F__law_alike : ∃ fd, FunD K "_law_alike" "_law_alike" (defArgs s__law_alike) (defBody s__law_alike) (defScope s__law_alike) [] [] (He.ga K "_law_alike") fd
  g__law_error_right : mg "_law_error_right" = some (.ref (He.ga K "_law_error_right"))
  F__law_error_right : ∃ fd, FunD K "_law_error_right" "_law_error_right" (defArgs s__law_error_right) (defBody s__law_error_right) (defScope s__law_error_right) [] [] (He.ga K "_law_error_right") fd
  g__law_right : mg "_law_right" = some (.ref (He.ga K "_law_right"))
  F__law_right : ∃ fd, FunD K "_law_right" "_law_right" (defArgs s__law_right) (defBody s__law_right) (defScope s__law_right) [] [] (He.ga K "_law_right") fd
  g_law : mg "law" = some (.ref (He.ga K "law"))
  F_law : ∃ fd, FunD K "law" "law" (defArgs s_law) (defBody s_law) (defScope s_law) [] [] (He.ga K "law") fd
  g_SeedError : mg "SeedError" = some (.ref (He.ga K "SeedError"))
  g_NoText : mg "NoText" = some (.ref (He.ga K "NoText"))
  g_NoKind : mg "NoKind" = some (.ref (He.ga K "NoKind"))
  g_NoCounts : mg "NoCounts" = some (.ref (He.ga K "NoCounts"))
  g_NoThing : mg "NoThing" = some (.ref (He.ga K "NoThing"))
  g_NoRule : mg "NoRule" = some (.ref (He.ga K "NoRule"))
  g_NoThings : mg "NoThings" = some (.ref (He.ga K "NoThings"))
  g_NotStraight : mg "NotStraight" = some (.ref (He.ga K "NotStraight"))
  g_NoClue : mg "NoClue" = some (.ref (He.ga K "NoClue"))
  g_NoArea : mg "NoArea" = some (.ref (He.ga K "NoArea"))
  g_NoLender : mg "NoLender" = some (.ref (He.ga K "NoLender"))
  g_NoLetter : mg "NoLetter" = some (.ref (He.ga K "NoLetter"))
  g_Thrown : mg "Thrown" = some (.ref (He.ga K "Thrown"))
  g_NothingDone : mg "NothingDone" = some (.ref (He.ga K "NothingDone"))
  g_NothingUndone : mg "NothingUndone" = some (.ref (He.ga K "NothingUndone"))
  n_ValueError : mg "ValueError" = none
  n_abs : mg "abs" = none
  n_bool : mg "bool" = none
  n_dict : mg "dict" = none
  n_int : mg "int" = none
  n_isinstance : mg "isinstance" = none
  n_len : mg "len" = none
  n_list : mg "list" = none
  n_max : mg "max" = none
  n_min : mg "min" = none
  n_range : mg "range" = none
  n_str : mg "str" = none
  n_sum : mg "sum" = none
  n_tuple : mg "tuple" = none
  e_SeedError : PySem.W.excIn K (He.ga K "SeedError") He.veBase "ValueError.__new__" = true ∧ PySem.W.keepIn K (.ref (He.ga K "SeedError")) = true
  x_NoText : ExC K (He.ga K "NoText")
  a_NoText_at : PySem.W.findIn K (.ref (He.ga K "NoText")) "at" = some none
  m_NoText : Meth K (He.ga K "NoText") "__init__" (He.ma K (He.ga K "NoText") "__init__")
  I_NoText : ∃ fd, FunD K "__init__" "NoText.__init__" (defArgs s_NoText_init) (defBody s_NoText_init) (defScope s_NoText_init) [] [] (He.ma K (He.ga K "NoText") "__init__") fd
  x_NoKind : ExC K (He.ga K "NoKind")
  a_NoKind_found : PySem.W.findIn K (.ref (He.ga K "NoKind")) "found" = some none
  m_NoKind : Meth K (He.ga K "NoKind") "__init__" (He.ma K (He.ga K "NoKind") "__init__")
  I_NoKind : ∃ fd, FunD K "__init__" "NoKind.__init__" (defArgs s_NoKind_init) (defBody s_NoKind_init) (defScope s_NoKind_init) [] [] (He.ma K (He.ga K "NoKind") "__init__") fd
  x_NoCounts : ExC K (He.ga K "NoCounts")
  a_NoCounts_found : PySem.W.findIn K (.ref (He.ga K "NoCounts")) "found" = some none
  m_NoCounts : Meth K (He.ga K "NoCounts") "__init__" (He.ma K (He.ga K "NoCounts") "__init__")
  I_NoCounts : ∃ fd, FunD K "__init__" "NoCounts.__init__" (defArgs s_NoCounts_init) (defBody s_NoCounts_init) (defScope s_NoCounts_init) [] [] (He.ma K (He.ga K "NoCounts") "__init__") fd
  x_NoThing : ExC K (He.ga K "NoThing")
  a_NoThing_found : PySem.W.findIn K (.ref (He.ga K "NoThing")) "found" = some none
  m_NoThing : Meth K (He.ga K "NoThing") "__init__" (He.ma K (He.ga K "NoThing") "__init__")
  I_NoThing : ∃ fd, FunD K "__init__" "NoThing.__init__" (defArgs s_NoThing_init) (defBody s_NoThing_init) (defScope s_NoThing_init) [] [] (He.ma K (He.ga K "NoThing") "__init__") fd
  x_NoRule : ExC K (He.ga K "NoRule")
  a_NoRule_found : PySem.W.findIn K (.ref (He.ga K "NoRule")) "found" = some none
  m_NoRule : Meth K (He.ga K "NoRule") "__init__" (He.ma K (He.ga K "NoRule") "__init__")
  I_NoRule : ∃ fd, FunD K "__init__" "NoRule.__init__" (defArgs s_NoRule_init) (defBody s_NoRule_init) (defScope s_NoRule_init) [] [] (He.ma K (He.ga K "NoRule") "__init__") fd
  x_NoThings : ExC K (He.ga K "NoThings")
  m_NoThings : Meth K (He.ga K "NoThings") "__init__" (He.ma K (He.ga K "NoThings") "__init__")
  I_NoThings : ∃ fd, FunD K "__init__" "NoThings.__init__" (defArgs s_NoThings_init) (defBody s_NoThings_init) (defScope s_NoThings_init) [] [] (He.ma K (He.ga K "NoThings") "__init__") fd
  x_NotStraight : ExC K (He.ga K "NotStraight")
  a_NotStraight_found : PySem.W.findIn K (.ref (He.ga K "NotStraight")) "found" = some none
  m_NotStraight : Meth K (He.ga K "NotStraight") "__init__" (He.ma K (He.ga K "NotStraight") "__init__")
  I_NotStraight : ∃ fd, FunD K "__init__" "NotStraight.__init__" (defArgs s_NotStraight_init) (defBody s_NotStraight_init) (defScope s_NotStraight_init) [] [] (He.ma K (He.ga K "NotStraight") "__init__") fd
  x_NoClue : ExC K (He.ga K "NoClue")
  a_NoClue_at : PySem.W.findIn K (.ref (He.ga K "NoClue")) "at" = some none
  m_NoClue : Meth K (He.ga K "NoClue") "__init__" (He.ma K (He.ga K "NoClue") "__init__")
  I_NoClue : ∃ fd, FunD K "__init__" "NoClue.__init__" (defArgs s_NoClue_init) (defBody s_NoClue_init) (defScope s_NoClue_init) [] [] (He.ma K (He.ga K "NoClue") "__init__") fd
  x_NoArea : ExC K (He.ga K "NoArea")
  a_NoArea_found : PySem.W.findIn K (.ref (He.ga K "NoArea")) "found" = some none
  m_NoArea : Meth K (He.ga K "NoArea") "__init__" (He.ma K (He.ga K "NoArea") "__init__")
  I_NoArea : ∃ fd, FunD K "__init__" "NoArea.__init__" (defArgs s_NoArea_init) (defBody s_NoArea_init) (defScope s_NoArea_init) [] [] (He.ma K (He.ga K "NoArea") "__init__") fd
  x_NoLender : ExC K (He.ga K "NoLender")
  a_NoLender_found : PySem.W.findIn K (.ref (He.ga K "NoLender")) "found" = some none
  m_NoLender : Meth K (He.ga K "NoLender") "__init__" (He.ma K (He.ga K "NoLender") "__init__")
  I_NoLender : ∃ fd, FunD K "__init__" "NoLender.__init__" (defArgs s_NoLender_init) (defBody s_NoLender_init) (defScope s_NoLender_init) [] [] (He.ma K (He.ga K "NoLender") "__init__") fd
  x_NoLetter : ExC K (He.ga K "NoLetter")
  a_NoLetter_found : PySem.W.findIn K (.ref (He.ga K "NoLetter")) "found" = some none
  m_NoLetter : Meth K (He.ga K "NoLetter") "__init__" (He.ma K (He.ga K "NoLetter") "__init__")
  I_NoLetter : ∃ fd, FunD K "__init__" "NoLetter.__init__" (defArgs s_NoLetter_init) (defBody s_NoLetter_init) (defScope s_NoLetter_init) [] [] (He.ma K (He.ga K "NoLetter") "__init__") fd
  x_Thrown : ExC K (He.ga K "Thrown")
  a_Thrown_name : PySem.W.findIn K (.ref (He.ga K "Thrown")) "name" = some none
  a_Thrown_at : PySem.W.findIn K (.ref (He.ga K "Thrown")) "at" = some none
  m_Thrown : Meth K (He.ga K "Thrown") "__init__" (He.ma K (He.ga K "Thrown") "__init__")
  I_Thrown : ∃ fd, FunD K "__init__" "Thrown.__init__" (defArgs s_Thrown_init) (defBody s_Thrown_init) (defScope s_Thrown_init) [] [] (He.ma K (He.ga K "Thrown") "__init__") fd
  x_NothingDone : ExC K (He.ga K "NothingDone")
  m_NothingDone : Meth K (He.ga K "NothingDone") "__init__" (He.ma K (He.ga K "NothingDone") "__init__")
  I_NothingDone : ∃ fd, FunD K "__init__" "NothingDone.__init__" (defArgs s_NothingDone_init) (defBody s_NothingDone_init) (defScope s_NothingDone_init) [] [] (He.ma K (He.ga K "NothingDone") "__init__") fd
  x_NothingUndone : ExC K (He.ga K "NothingUndone")
  m_NothingUndone : Meth K (He.ga K "NothingUndone") "__init__" (He.ma K (He.ga K "NothingUndone") "__init__")
  I_NothingUndone : ∃ fd, FunD K "__init__" "NothingUndone.__init__" (defArgs s_NothingUndone_init) (defBody s_NothingUndone_init) (defScope s_NothingUndone_init) [] [] (He.ma K (He.ga K "NothingUndone") "__init__") fd
  i0 : IniC K (He.ga K "SeedError")
  kt : ((List.range 15).all fun i => (List.range 14).all fun j => decide (PySem.W.kitOne K (.ref (He.ga K ((["NoKind", "NoCounts", "NoThing", "NoRule", "NotStraight", "NoArea", "NoLender", "NoLetter", "NoClue", "Thrown", "NoThings", "NothingDone", "NothingUndone", "NoText", "SeedError"] : List Str).getD i ""))) (.ref (He.ga K ((["NoKind", "NoCounts", "NoThing", "NoRule", "NotStraight", "NoArea", "NoLender", "NoLetter", "NoClue", "Thrown", "NoThings", "NothingDone", "NothingUndone", "NoText", "SeedError"] : List Str).getD j ""))) = some (decide (i = j)))) = true
  ks : ((List.range 15).all fun i => decide (PySem.W.kitOne K (.ref (He.ga K ((["NoKind", "NoCounts", "NoThing", "NoRule", "NotStraight", "NoArea", "NoLender", "NoLetter", "NoClue", "Thrown", "NoThings", "NothingDone", "NothingUndone", "NoText", "SeedError"] : List Str).getD i ""))) (.ref (He.ga K "SeedError")) = some true)) = true
  kv : ((List.range 15).all fun i => decide (PySem.W.kitOne K (.ref (He.ga K ((["NoKind", "NoCounts", "NoThing", "NoRule", "NotStraight", "NoArea", "NoLender", "NoLetter", "NoClue", "Thrown", "NoThings", "NothingDone", "NothingUndone", "NoText", "SeedError"] : List Str).getD i ""))) (.type "ValueError") = some true)) = true
  xS : ExC K (He.ga K "SeedError")
theorem tx_mk {K : Fg} {h : Heap} {mg : Str → Option Value} {w : World} (X : K.In h) (G : h.Ns mainGlobals mg) (ct : sayT fp fn ts w K) : Tx K mg w := by
  have c := ct.bas
  obtain ⟨p1, p2⟩ := He.ba (show ((fa.all fun f => f.ok K) && allB [exB K (He.ga K "NoText"), exB K (He.ga K "NoKind"), exB K (He.ga K "NoCounts"), exB K (He.ga K "NoThing"), exB K (He.ga K "NoRule"), exB K (He.ga K "NoThings"), exB K (He.ga K "NotStraight"), exB K (He.ga K "NoClue"), exB K (He.ga K "NoArea"), exB K (He.ga K "NoLender"), exB K (He.ga K "NoLetter"), exB K (He.ga K "Thrown"), exB K (He.ga K "NothingDone"), exB K (He.ga K "NothingUndone"), iniB K (He.ga K "SeedError"), ((List.range 15).all fun i => (List.range 14).all fun j => decide (PySem.W.kitOne K (.ref (He.ga K ((["NoKind", "NoCounts", "NoThing", "NoRule", "NotStraight", "NoArea", "NoLender", "NoLetter", "NoClue", "Thrown", "NoThings", "NothingDone", "NothingUndone", "NoText", "SeedError"] : List Str).getD i ""))) (.ref (He.ga K ((["NoKind", "NoCounts", "NoThing", "NoRule", "NotStraight", "NoArea", "NoLender", "NoLetter", "NoClue", "Thrown", "NoThings", "NothingDone", "NothingUndone", "NoText", "SeedError"] : List Str).getD j ""))) = some (decide (i = j)))), ((List.range 15).all fun i => decide (PySem.W.kitOne K (.ref (He.ga K ((["NoKind", "NoCounts", "NoThing", "NoRule", "NotStraight", "NoArea", "NoLender", "NoLetter", "NoClue", "Thrown", "NoThings", "NothingDone", "NothingUndone", "NoText", "SeedError"] : List Str).getD i ""))) (.ref (He.ga K "SeedError")) = some true)), ((List.range 15).all fun i => decide (PySem.W.kitOne K (.ref (He.ga K ((["NoKind", "NoCounts", "NoThing", "NoRule", "NotStraight", "NoArea", "NoLender", "NoLetter", "NoClue", "Thrown", "NoThings", "NothingDone", "NothingUndone", "NoText", "SeedError"] : List Str).getD i ""))) (.type "ValueError") = some true)), exB K (He.ga K "SeedError")]) = true from c.p)
  have fc : ∀ (i : Nat) {f : He.Fa}, fa[i]? = some f → f.ok K = true := fun i f e => List.all_eq_true.mp p1 f (List.mem_of_getElem? e)
  have ec : ∀ (i : Nat) {b : Bool}, ([exB K (He.ga K "NoText"), exB K (He.ga K "NoKind"), exB K (He.ga K "NoCounts"), exB K (He.ga K "NoThing"), exB K (He.ga K "NoRule"), exB K (He.ga K "NoThings"), exB K (He.ga K "NotStraight"), exB K (He.ga K "NoClue"), exB K (He.ga K "NoArea"), exB K (He.ga K "NoLender"), exB K (He.ga K "NoLetter"), exB K (He.ga K "Thrown"), exB K (He.ga K "NothingDone"), exB K (He.ga K "NothingUndone"), iniB K (He.ga K "SeedError"), ((List.range 15).all fun i => (List.range 14).all fun j => decide (PySem.W.kitOne K (.ref (He.ga K ((["NoKind", "NoCounts", "NoThing", "NoRule", "NotStraight", "NoArea", "NoLender", "NoLetter", "NoClue", "Thrown", "NoThings", "NothingDone", "NothingUndone", "NoText", "SeedError"] : List Str).getD i ""))) (.ref (He.ga K ((["NoKind", "NoCounts", "NoThing", "NoRule", "NotStraight", "NoArea", "NoLender", "NoLetter", "NoClue", "Thrown", "NoThings", "NothingDone", "NothingUndone", "NoText", "SeedError"] : List Str).getD j ""))) = some (decide (i = j)))), ((List.range 15).all fun i => decide (PySem.W.kitOne K (.ref (He.ga K ((["NoKind", "NoCounts", "NoThing", "NoRule", "NotStraight", "NoArea", "NoLender", "NoLetter", "NoClue", "Thrown", "NoThings", "NothingDone", "NothingUndone", "NoText", "SeedError"] : List Str).getD i ""))) (.ref (He.ga K "SeedError")) = some true)), ((List.range 15).all fun i => decide (PySem.W.kitOne K (.ref (He.ga K ((["NoKind", "NoCounts", "NoThing", "NoRule", "NotStraight", "NoArea", "NoLender", "NoLetter", "NoClue", "Thrown", "NoThings", "NothingDone", "NothingUndone", "NoText", "SeedError"] : List Str).getD i ""))) (.type "ValueError") = some true)), exB K (He.ga K "SeedError")] : List Bool)[i]? = some b → b = true := fun i b e => allB_ok p2 i e
  exact {
    g__law_cell := He.glo_ok X G (fc 0 rfl)
    F__law_cell := c.def_ 0 rfl
    g__law_box := He.glo_ok X G (fc 1 rfl)
    F__law_box := c.def_ 1 rfl
    g__law_take := He.glo_ok X G (fc 2 rfl)
    F__law_take := c.def_ 2 rfl
    g__law_same := He.glo_ok X G (fc 3 rfl)
    F__law_same := c.def_ 3 rfl
    g__law_error := He.glo_ok X G (fc 4 rfl)
    F__law_error := c.def_ 4 rfl
    g__law_fields := He.glo_ok X G (fc 5 rfl)
    F__law_fields := c.def_ 5 rfl
    g__law_classes := He.glo_ok X G (fc 6 rfl)
    F__law_classes := c.def_ 6 rfl
    g__law_thing := He.glo_ok X G (fc 7 rfl)
    F__law_thing := c.def_ 7 rfl
    g__law_alike := He.glo_ok X G (fc 8 rfl)
    F__law_alike := c.def_ 8 rfl
    g__law_error_right := He.glo_ok X G (fc 9 rfl)
    F__law_error_right := c.def_ 9 rfl
    g__law_right := He.glo_ok X G (fc 10 rfl)
    F__law_right := c.def_ 10 rfl
    g_law := He.glo_ok X G (fc 11 rfl)
    F_law := c.def_ 11 rfl
    g_SeedError := He.glo_ok X G (fc 12 rfl)
    g_NoText := He.glo_ok X G (fc 13 rfl)
    g_NoKind := He.glo_ok X G (fc 14 rfl)
    g_NoCounts := He.glo_ok X G (fc 15 rfl)
    g_NoThing := He.glo_ok X G (fc 16 rfl)
    g_NoRule := He.glo_ok X G (fc 17 rfl)
    g_NoThings := He.glo_ok X G (fc 18 rfl)
    g_NotStraight := He.glo_ok X G (fc 19 rfl)
    g_NoClue := He.glo_ok X G (fc 20 rfl)
    g_NoArea := He.glo_ok X G (fc 21 rfl)
    g_NoLender := He.glo_ok X G (fc 22 rfl)
    g_NoLetter := He.glo_ok X G (fc 23 rfl)
    g_Thrown := He.glo_ok X G (fc 24 rfl)
    g_NothingDone := He.glo_ok X G (fc 25 rfl)
    g_NothingUndone := He.glo_ok X G (fc 26 rfl)
    n_ValueError := He.free_ok X G (fc 27 rfl)
    n_abs := He.free_ok X G (fc 28 rfl)
    n_bool := He.free_ok X G (fc 29 rfl)
    n_dict := He.free_ok X G (fc 30 rfl)
    n_int := He.free_ok X G (fc 31 rfl)
    n_isinstance := He.free_ok X G (fc 32 rfl)
    n_len := He.free_ok X G (fc 33 rfl)
    n_list := He.free_ok X G (fc 34 rfl)
    n_max := He.free_ok X G (fc 35 rfl)
    n_min := He.free_ok X G (fc 36 rfl)
    n_range := He.free_ok X G (fc 37 rfl)
    n_str := He.free_ok X G (fc 38 rfl)
    n_sum := He.free_ok X G (fc 39 rfl)
    n_tuple := He.free_ok X G (fc 40 rfl)
    e_SeedError := ⟨(He.exc_ok (fc 53 rfl)).1, (He.exc_ok (fc 53 rfl)).2.1⟩
    x_NoText := exB_ok (ec 0 rfl)
    a_NoText_at := He.noat_ok (fc 41 rfl)
    m_NoText := He.meth_ok (fc 54 rfl)
    I_NoText := c.def_ 12 rfl
    x_NoKind := exB_ok (ec 1 rfl)
    a_NoKind_found := He.noat_ok (fc 42 rfl)
    m_NoKind := He.meth_ok (fc 55 rfl)
    I_NoKind := c.def_ 13 rfl
    x_NoCounts := exB_ok (ec 2 rfl)
    a_NoCounts_found := He.noat_ok (fc 43 rfl)
    m_NoCounts := He.meth_ok (fc 56 rfl)
    I_NoCounts := c.def_ 14 rfl
    x_NoThing := exB_ok (ec 3 rfl)
    a_NoThing_found := He.noat_ok (fc 44 rfl)
    m_NoThing := He.meth_ok (fc 57 rfl)
    I_NoThing := c.def_ 15 rfl
    x_NoRule := exB_ok (ec 4 rfl)
    a_NoRule_found := He.noat_ok (fc 45 rfl)
    m_NoRule := He.meth_ok (fc 58 rfl)
    I_NoRule := c.def_ 16 rfl
    x_NoThings := exB_ok (ec 5 rfl)
    m_NoThings := He.meth_ok (fc 59 rfl)
    I_NoThings := c.def_ 17 rfl
    x_NotStraight := exB_ok (ec 6 rfl)
    a_NotStraight_found := He.noat_ok (fc 46 rfl)
    m_NotStraight := He.meth_ok (fc 60 rfl)
    I_NotStraight := c.def_ 18 rfl
    x_NoClue := exB_ok (ec 7 rfl)
    a_NoClue_at := He.noat_ok (fc 47 rfl)
    m_NoClue := He.meth_ok (fc 61 rfl)
    I_NoClue := c.def_ 19 rfl
    x_NoArea := exB_ok (ec 8 rfl)
    a_NoArea_found := He.noat_ok (fc 48 rfl)
    m_NoArea := He.meth_ok (fc 62 rfl)
    I_NoArea := c.def_ 20 rfl
    x_NoLender := exB_ok (ec 9 rfl)
    a_NoLender_found := He.noat_ok (fc 49 rfl)
    m_NoLender := He.meth_ok (fc 63 rfl)
    I_NoLender := c.def_ 21 rfl
    x_NoLetter := exB_ok (ec 10 rfl)
    a_NoLetter_found := He.noat_ok (fc 50 rfl)
    m_NoLetter := He.meth_ok (fc 64 rfl)
    I_NoLetter := c.def_ 22 rfl
    x_Thrown := exB_ok (ec 11 rfl)
    a_Thrown_name := He.noat_ok (fc 51 rfl)
    a_Thrown_at := He.noat_ok (fc 52 rfl)
    m_Thrown := He.meth_ok (fc 65 rfl)
    I_Thrown := c.def_ 23 rfl
    x_NothingDone := exB_ok (ec 12 rfl)
    m_NothingDone := He.meth_ok (fc 66 rfl)
    I_NothingDone := c.def_ 24 rfl
    x_NothingUndone := exB_ok (ec 13 rfl)
    m_NothingUndone := He.meth_ok (fc 67 rfl)
    I_NothingUndone := c.def_ 25 rfl
    i0 := iniB_ok (ec 14 rfl)
    kt := ec 15 rfl
    ks := ec 16 rfl
    kv := ec 17 rfl
    xS := exB_ok (ec 18 rfl)
  }
theorem ex_NoText {P : Program} {w : World} {K : Fg} {mg : Str → Option Value} {base : Heap} (T : Tx K mg w) : Exn P w K mg base "NoText" "at" := by
  obtain ⟨fd, F⟩ := T.I_NoText
  exact exn_mk T.g_NoText T.x_NoText T.a_NoText_at T.m_NoText F ⟨rfl, rfl, rfl, by decide +kernel, rfl, by decide +kernel, by decide +kernel⟩ rfl rfl rfl rfl (by decide) (by decide) rfl T.i0 T.g_SeedError (fun _ _ _ _ _ _ us hl => match us, hl with | [_, _], _ => rfl)
theorem ex_NoKind {P : Program} {w : World} {K : Fg} {mg : Str → Option Value} {base : Heap} (T : Tx K mg w) : Exn P w K mg base "NoKind" "found" := by
  obtain ⟨fd, F⟩ := T.I_NoKind
  exact exn_mk T.g_NoKind T.x_NoKind T.a_NoKind_found T.m_NoKind F ⟨rfl, rfl, rfl, by decide +kernel, rfl, by decide +kernel, by decide +kernel⟩ rfl rfl rfl rfl (by decide) (by decide) rfl T.i0 T.g_SeedError (fun _ _ _ _ _ _ us hl => match us, hl with | [_, _], _ => rfl)
theorem ex_NoCounts {P : Program} {w : World} {K : Fg} {mg : Str → Option Value} {base : Heap} (T : Tx K mg w) : Exn P w K mg base "NoCounts" "found" := by
  obtain ⟨fd, F⟩ := T.I_NoCounts
  exact exn_mk T.g_NoCounts T.x_NoCounts T.a_NoCounts_found T.m_NoCounts F ⟨rfl, rfl, rfl, by decide +kernel, rfl, by decide +kernel, by decide +kernel⟩ rfl rfl rfl rfl (by decide) (by decide) rfl T.i0 T.g_SeedError (fun _ _ _ _ _ _ us hl => match us, hl with | [_, _], _ => rfl)
theorem ex_NoThing {P : Program} {w : World} {K : Fg} {mg : Str → Option Value} {base : Heap} (T : Tx K mg w) : Exn P w K mg base "NoThing" "found" := by
  obtain ⟨fd, F⟩ := T.I_NoThing
  exact exn_mk T.g_NoThing T.x_NoThing T.a_NoThing_found T.m_NoThing F ⟨rfl, rfl, rfl, by decide +kernel, rfl, by decide +kernel, by decide +kernel⟩ rfl rfl rfl rfl (by decide) (by decide) rfl T.i0 T.g_SeedError (fun _ _ _ _ _ _ us hl => match us, hl with | [_, _], _ => rfl)
theorem ex_NoRule {P : Program} {w : World} {K : Fg} {mg : Str → Option Value} {base : Heap} (T : Tx K mg w) : Exn P w K mg base "NoRule" "found" := by
  obtain ⟨fd, F⟩ := T.I_NoRule
  exact exn_mk T.g_NoRule T.x_NoRule T.a_NoRule_found T.m_NoRule F ⟨rfl, rfl, rfl, by decide +kernel, rfl, by decide +kernel, by decide +kernel⟩ rfl rfl rfl rfl (by decide) (by decide) rfl T.i0 T.g_SeedError (fun _ _ _ _ _ _ us hl => match us, hl with | [_, _], _ => rfl)
theorem ex_NoThings {P : Program} {w : World} {K : Fg} {mg : Str → Option Value} {base : Heap} (T : Tx K mg w) : ExnG P w K mg base 2 "NoThings" ["self"] (spIni0 (He.ga K "NoThings")) := by
  obtain ⟨fd, F⟩ := T.I_NoThings
  exact ⟨T.g_NoThings, T.x_NoThings, _, fd, T.m_NoThings.at_, beq_iff_eq.mp T.m_NoThings.fn, ok_ini0 F ⟨rfl, rfl, rfl, by decide +kernel, rfl, by decide +kernel, by decide +kernel⟩ rfl rfl rfl rfl T.x_NoThings T.i0 T.g_SeedError, F.bindsN (fun _ _ _ _ _ _ us hl => match us, hl with | [_], _ => rfl)⟩
theorem ex_NotStraight {P : Program} {w : World} {K : Fg} {mg : Str → Option Value} {base : Heap} (T : Tx K mg w) : Exn P w K mg base "NotStraight" "found" := by
  obtain ⟨fd, F⟩ := T.I_NotStraight
  exact exn_mk T.g_NotStraight T.x_NotStraight T.a_NotStraight_found T.m_NotStraight F ⟨rfl, rfl, rfl, by decide +kernel, rfl, by decide +kernel, by decide +kernel⟩ rfl rfl rfl rfl (by decide) (by decide) rfl T.i0 T.g_SeedError (fun _ _ _ _ _ _ us hl => match us, hl with | [_, _], _ => rfl)
theorem ex_NoClue {P : Program} {w : World} {K : Fg} {mg : Str → Option Value} {base : Heap} (T : Tx K mg w) : Exn P w K mg base "NoClue" "at" := by
  obtain ⟨fd, F⟩ := T.I_NoClue
  exact exn_mk T.g_NoClue T.x_NoClue T.a_NoClue_at T.m_NoClue F ⟨rfl, rfl, rfl, by decide +kernel, rfl, by decide +kernel, by decide +kernel⟩ rfl rfl rfl rfl (by decide) (by decide) rfl T.i0 T.g_SeedError (fun _ _ _ _ _ _ us hl => match us, hl with | [_, _], _ => rfl)
theorem ex_NoArea {P : Program} {w : World} {K : Fg} {mg : Str → Option Value} {base : Heap} (T : Tx K mg w) : Exn P w K mg base "NoArea" "found" := by
  obtain ⟨fd, F⟩ := T.I_NoArea
  exact exn_mk T.g_NoArea T.x_NoArea T.a_NoArea_found T.m_NoArea F ⟨rfl, rfl, rfl, by decide +kernel, rfl, by decide +kernel, by decide +kernel⟩ rfl rfl rfl rfl (by decide) (by decide) rfl T.i0 T.g_SeedError (fun _ _ _ _ _ _ us hl => match us, hl with | [_, _], _ => rfl)
theorem ex_NoLender {P : Program} {w : World} {K : Fg} {mg : Str → Option Value} {base : Heap} (T : Tx K mg w) : Exn P w K mg base "NoLender" "found" := by
  obtain ⟨fd, F⟩ := T.I_NoLender
  exact exn_mk T.g_NoLender T.x_NoLender T.a_NoLender_found T.m_NoLender F ⟨rfl, rfl, rfl, by decide +kernel, rfl, by decide +kernel, by decide +kernel⟩ rfl rfl rfl rfl (by decide) (by decide) rfl T.i0 T.g_SeedError (fun _ _ _ _ _ _ us hl => match us, hl with | [_, _], _ => rfl)
theorem ex_NoLetter {P : Program} {w : World} {K : Fg} {mg : Str → Option Value} {base : Heap} (T : Tx K mg w) : Exn P w K mg base "NoLetter" "found" := by
  obtain ⟨fd, F⟩ := T.I_NoLetter
  exact exn_mk T.g_NoLetter T.x_NoLetter T.a_NoLetter_found T.m_NoLetter F ⟨rfl, rfl, rfl, by decide +kernel, rfl, by decide +kernel, by decide +kernel⟩ rfl rfl rfl rfl (by decide) (by decide) rfl T.i0 T.g_SeedError (fun _ _ _ _ _ _ us hl => match us, hl with | [_, _], _ => rfl)
theorem ex_Thrown {P : Program} {w : World} {K : Fg} {mg : Str → Option Value} {base : Heap} (T : Tx K mg w) : ExnG P w K mg base 2 "Thrown" ["self", "name", "at"] (spIni2 (He.ga K "Thrown") "name" "at") := by
  obtain ⟨fd, F⟩ := T.I_Thrown
  exact ⟨T.g_Thrown, T.x_Thrown, _, fd, T.m_Thrown.at_, beq_iff_eq.mp T.m_Thrown.fn, ok_ini2 F ⟨rfl, rfl, rfl, by decide +kernel, rfl, by decide +kernel, by decide +kernel⟩ rfl rfl rfl rfl rfl (by decide) (by decide) (by decide) (by decide) rfl T.x_Thrown T.i0 T.g_SeedError T.a_Thrown_name T.a_Thrown_at, F.bindsN (fun _ _ _ _ _ _ us hl => match us, hl with | [_, _, _], _ => rfl)⟩
theorem ex_NothingDone {P : Program} {w : World} {K : Fg} {mg : Str → Option Value} {base : Heap} (T : Tx K mg w) : ExnG P w K mg base 2 "NothingDone" ["self"] (spIni0 (He.ga K "NothingDone")) := by
  obtain ⟨fd, F⟩ := T.I_NothingDone
  exact ⟨T.g_NothingDone, T.x_NothingDone, _, fd, T.m_NothingDone.at_, beq_iff_eq.mp T.m_NothingDone.fn, ok_ini0 F ⟨rfl, rfl, rfl, by decide +kernel, rfl, by decide +kernel, by decide +kernel⟩ rfl rfl rfl rfl T.x_NothingDone T.i0 T.g_SeedError, F.bindsN (fun _ _ _ _ _ _ us hl => match us, hl with | [_], _ => rfl)⟩
theorem ex_NothingUndone {P : Program} {w : World} {K : Fg} {mg : Str → Option Value} {base : Heap} (T : Tx K mg w) : ExnG P w K mg base 2 "NothingUndone" ["self"] (spIni0 (He.ga K "NothingUndone")) := by
  obtain ⟨fd, F⟩ := T.I_NothingUndone
  exact ⟨T.g_NothingUndone, T.x_NothingUndone, _, fd, T.m_NothingUndone.at_, beq_iff_eq.mp T.m_NothingUndone.fn, ok_ini0 F ⟨rfl, rfl, rfl, by decide +kernel, rfl, by decide +kernel, by decide +kernel⟩ rfl rfl rfl rfl T.x_NothingUndone T.i0 T.g_SeedError, F.bindsN (fun _ _ _ _ _ _ us hl => match us, hl with | [_], _ => rfl)⟩
/-! ### the promises -/
/-- None, truths, numbers, short texts -/
def fl4 : V → Bool
  | .non => true
  | .bl _ => true
  | .int _ => true
  | .str z => decide (z.length ≤ 1000)
  | _ => false
/-- the same data at nesting below n: scalars, lists and tuples -/
def Alike (H : Hp) : Nat → V → V → Prop
  | 0 => fun _ _ => False
  | n + 1 => fun x y => (x = y ∧ fl4 x = true) ∨ ∃ p q o u xs ys, x = .ref p ∧ y = .ref q ∧ H p = some o ∧ seqO o = some xs ∧ H q = some u ∧ seqO u = some ys ∧ isT o = isT u ∧ ys.length ≤ 1000 ∧ Paired (Alike H n) xs ys
theorem paired_at {E : V → V → Prop} {xs ys : List V} (h : Paired E xs ys) : ∀ {i : Nat} {x y : V}, xs[i]? = some x → ys[i]? = some y → E x y := by
  induction h with
  | nil => intro i x y e; simp at e
  | cons a _ ih =>
    intro i x y e1 e2
    cases i with
    | zero =>
      rw [List.getElem?_cons_zero] at e1 e2
      cases e1
      cases e2
      exact a
    | succ i => exact ih (by simpa using e1) (by simpa using e2)
theorem paired_map {E F : V → V → Prop} {xs ys : List V} (h : Paired E xs ys) (k : ∀ x y, E x y → F x y) : Paired F xs ys := by
  induction h with
  | nil => exact .nil
  | cons a _ ih => exact .cons (k _ _ a) ih
theorem Alike.same {H H' : Hp} (s : Same H H') : ∀ {n : Nat} {x y : V}, Alike H n x y → Alike H' n x y
  | 0, _, _, h => h
  | n + 1, x, y, h => by
    rcases h with h | ⟨p, q, o, u, xs, ys, e1, e2, e3, e4, e5, e6, e7, e8, e9⟩
    · exact .inl h
    · exact .inr ⟨p, q, o, u, xs, ys, e1, e2, s _ _ e3, e4, s _ _ e5, e6, e7, e8, paired_map e9 fun x y => Alike.same s⟩
theorem Alike.up {H : Hp} : ∀ {n m : Nat} {x y : V}, n ≤ m → Alike H n x y → Alike H m x y
  | 0, _, _, _, _, h => h.elim
  | n + 1, 0, _, _, l, _ => absurd l (Nat.not_succ_le_zero n)
  | n + 1, m + 1, x, y, l, h => by
    rcases h with h | ⟨p, q, o, u, xs, ys, e1, e2, e3, e4, e5, e6, e7, e8, e9⟩
    · exact .inl h
    · exact .inr ⟨p, q, o, u, xs, ys, e1, e2, e3, e4, e5, e6, e7, e8, paired_map e9 fun x y => Alike.up (Nat.le_of_succ_le_succ l)⟩
/-- .. dicts too -/
def AlikeD (H : Hp) : Nat → V → V → Prop
  | 0 => fun _ _ => False
  | n + 1 => fun x y => (Alike H 6 x y ∧ ∀ q u, y = .ref q → H q = some u → isT u = true) ∨ (∃ p q xs ys, x = .ref p ∧ y = .ref q ∧ H p = some (.lst xs) ∧ H q = some (.lst ys) ∧ ys.length ≤ 1000 ∧ Paired (AlikeD H n) xs ys) ∨
      ∃ p q k pu pv, x = .ref p ∧ y = .ref q ∧ H p = some (.dK [(k, .ref pu)]) ∧ H q = some (.dK [(k, .ref pv)]) ∧ H pu = some (.lst [.int 1]) ∧ H pv = some (.lst [.int 1]) ∧ p ≠ q ∧ 2 ≤ n
theorem AlikeD.same {H H' : Hp} (s : Same H H') : ∀ {n : Nat} {x y : V}, AlikeD H n x y → AlikeD H' n x y
  | 0, _, _, h => h
  | n + 1, x, y, h => by
    rcases h with ⟨h, k⟩ | ⟨p, q, xs, ys, e1, e2, e3, e4, e5, e6⟩ | ⟨p, q, k, u, v, e1, e2, e3, e4, e5, e6, e7, e8⟩
    · refine .inl ⟨h.same s, fun q u e1 e2 => ?_⟩
      rcases h with ⟨e3, e4⟩ | ⟨p, q', o, u', xs, ys, f1, f2, f3, f4, f5, f6, f7, f8, f9⟩
      · rw [e3, e1] at e4
        cases e4
      · rw [e1] at f2
        cases f2
        have z := s _ _ f5
        rw [e2] at z
        cases z
        exact k q u e1 f5
    · exact .inr (.inl ⟨p, q, xs, ys, e1, e2, s _ _ e3, s _ _ e4, e5, paired_map e6 fun x y => AlikeD.same s⟩)
    · exact .inr (.inr ⟨p, q, k, u, v, e1, e2, s _ _ e3, s _ _ e4, s _ _ e5, s _ _ e6, e7, e8⟩)
/-- the box: no more than n draws mixed -/
def Bx (H : Hp) (p : Addr) (n : Nat) : Prop := ∃ (x0 x2 x3 : Int) (b : Bool), H p = some (.lst [.int x0, .bl b, .int x2, .int x3]) ∧ 0 ≤ x2 ∧ x2 < 2147483629 ∧ 0 ≤ x3 ∧ x3 ≤ (n : Int)
/-- all but what stands at p stays -/
def But (p : Addr) (H H' : Hp) : Prop := ∀ a o, a ≠ p → H a = some o → H' a = some o
def sp__law_cell (K : Fg) : Sp := sp2 fun s k H Q _ => ∃ (a : Addr) (ns : List Int) (i : Nat), s = .ref a ∧ SqL K H a (ns.map V.int) ∧ k = .int (i : Int) ∧ ns.length ≤ 1000 ∧ ∀ z H', Same H H' → Q (.int z) H'
def sp__law_box (_ : Fg) : Sp := sp1 fun c H Q _ => ∃ z : Int, c = .int z ∧ ∀ p H', Same H H' → H p = none → Bx H' p 0 → Q (.ref p) H'
def sp__law_take (_ : Fg) : Sp := sp2 fun b m H Q _ => ∃ (p : Addr) (n : Int) (k : Nat), b = .ref p ∧ Bx H p k ∧ k < 2 ^ 36 ∧ m = .int n ∧ 0 < n ∧ n < 2 ^ 64 ∧ ∀ r H', 0 ≤ r → r < n → But p H H' → Bx H' p (k + 1) → (∀ a, a ≠ p → H' a = H a) → Q (.int r) H'
def spn__law_same (_ : Fg) (n : Nat) : Sp := sp2 fun a b H Q _ => Alike H n a b ∧ ∀ H', Same H H' → Q (.bl true) H'
def sp__law_same (K : Fg) : Sp := spn__law_same K 6
def spn__law_alike (_ : Fg) (n : Nat) : Sp := sp2 fun a b H Q _ => AlikeD H n a b ∧ ∀ H', Same H H' → Q (.bl true) H'
def sp__law_alike (K : Fg) : Sp := spn__law_alike K 6
def cl : List Str := ["NoKind", "NoCounts", "NoThing", "NoRule", "NotStraight", "NoArea", "NoLender", "NoLetter", "NoClue", "Thrown", "NoThings", "NothingDone", "NothingUndone", "NoText", "SeedError"]
/-- the error of the kind i, made of one and other -/
def ErrAt (K : Fg) (H : Hp) (a : Addr) (i : Nat) (one other : V) : Prop :=
  (i < 8 ∧ ∃ dx, H a = some (exo a (He.ga K (cl.getD i "")) (some dx)) ∧ H dx = some (exd dx [("found", one)])) ∨
  (i = 8 ∧ ∃ dx, H a = some (exo a (He.ga K "NoClue") (some dx)) ∧ H dx = some (exd dx [("at", one)])) ∨
  (i = 9 ∧ ∃ dx, H a = some (exo a (He.ga K "Thrown") (some dx)) ∧ H dx = some (exd dx [("at", other), ("name", one)])) ∨
  (10 ≤ i ∧ i < 13 ∧ H a = some (exo a (He.ga K (cl.getD i "")) none))
def fieldsOf (i : Nat) (one other : V) : List V := if i < 9 then [one] else if i = 9 then [one, other] else []
def sp__law_error (K : Fg) : Sp := sp3 fun w x y H Q _ => ∃ i : Nat, w = .int (i : Int) ∧ i < 13 ∧ ∀ a H', Same H H' → H a = none → ErrAt K H' a i x y → Q (.ref a) H'
def sp__law_fields (K : Fg) : Sp := sp2 fun w e H Q _ => ∃ (i : Nat) (a : Addr) (x y : V), w = .int (i : Int) ∧ e = .ref a ∧ ErrAt K H a i x y ∧ ∀ p H', Same H H' → H p = none → H' p = some (.lst (fieldsOf i x y)) → Q (.ref p) H'
def sp__law_classes (K : Fg) : Sp := sp1 fun e H Q _ => ∃ (a : Addr) (i : Nat), e = .ref a ∧ i < 15 ∧ Xo H a (He.ga K (cl.getD i "")) ∧ ∀ p H', Same H H' → H p = none → H' p = some (.lst ((List.range 14).map fun j => V.bl (decide (i = j)))) → Q (.ref p) H'
/-- a drawn thing, and the same once more -/
def Thing (H : Hp) (a b : V) : Prop := (a = b ∧ fl4 a = true) ∨ (∃ p, a = .ref p ∧ b = .ref p ∧ H p = some (.tup [])) ∨ (∃ p q, a = .ref p ∧ b = .ref p ∧ H p = some (.tup [.non, .ref q]) ∧ H q = some (.tup [.int 1, .str "a"])) ∨
  (∃ p q u v, a = .ref p ∧ b = .ref q ∧ H p = some (.lst [.int 1, .ref u]) ∧ H u = some (.lst [.int 2, .str "x"]) ∧ H q = some (.lst [.int 1, .ref v]) ∧ H v = some (.lst [.int 2, .str "x"]) ∧ p ≠ q ∧ p ≠ u ∧ p ≠ v) ∨
  (∃ p q u v, a = .ref p ∧ b = .ref q ∧ H p = some (.dK [(.inr "a", .ref u)]) ∧ H u = some (.lst [.int 1]) ∧ H q = some (.dK [(.inr "a", .ref v)]) ∧ H v = some (.lst [.int 1]) ∧ p ≠ q)
def sp__law_thing (_ : Fg) : Sp := sp1 fun b H Q _ => ∃ (p : Addr) (k : Nat), b = .ref p ∧ Bx H p k ∧ k < 2 ^ 36 ∧ ∀ q x y H', But p H H' → Bx H' p (k + 1) → H' q = some (.tup [x, y]) → Thing H' x y → (∀ a, x = .ref a → H a = none) → Q (.ref q) H'
def sp__law_error_right (K : Fg) : Sp := sp2 fun b w H Q _ => ∃ (p : Addr) (i k : Nat), b = .ref p ∧ Bx H p k ∧ k < 2 ^ 30 ∧ w = .int (i : Int) ∧ i < 13 ∧ ∀ H', But p H H' → Bx H' p (k + 2) → Q (.bl true) H'
def sp__law_right (K : Fg) : Sp := sp2 fun b t H Q _ => ∃ (p : Addr) (k : Nat), b = .ref p ∧ Bx H p k ∧ k < 1000 ∧ ∀ H', But p H H' → Q (.bl true) H'
def sp_law (K : Fg) : Sp := sp1 fun s H Q _ => ∃ (a : Addr) (ns : List Int), s = .ref a ∧ SqL K H a (ns.map V.int) ∧ ns.length ≤ 63 ∧ ∀ H', Q (.bl true) H'
end Law

namespace Law
open PySem PySem.Spec PyProof.Rows L2 Sw
theorem small_mul {i j : Int} (h1 : -(2 ^ 64) < j) (h2 : j < 2 ^ 64) : Sw.MulOk i j := .inl (.inr ⟨h1, h2⟩)
theorem small_mul' {i j : Int} (h1 : -(2 ^ 64) < i) (h2 : i < 2 ^ 64) : Sw.MulOk i j := .inl (.inl ⟨h1, h2⟩)
section
variable {P : Program} {w : World} {K : Fg} {mg : Str → Option Value} {base : Heap}
theorem ok__law_cell (T : Tx K mg w)   : Cal P w K mg base 1 "_law_cell" ["script", "k"] (sp__law_cell K) := by
  refine cal_mk T.F__law_cell T.g__law_cell sc__law_cell (len2 _) (fun _ _ _ _ _ _ us hl => match us, hl with | [_, _], _ => rfl) (fun cdv A outer s H vs Q E hr h => ?_)
  obtain ⟨v0, v1, rfl, h⟩ := h
  have hu := hu_of hr
  refine ⟨_, (pss_one (ps_ret (pe_ifExp (pt_cmpR op_lt (pv 1) (pe_callB call_len_seq (by rfl) T.n_len (by decide +kernel) (pa_cons (pv 0) pa_nil)) (nomark _)) (pe_ix ix_list (pv 0) (pv 1) (fun _ _ => rfl)) (pe_op op_add (pe_op op_mulA pe_int (pv 1)) (pe_op op_mod (pe_callTy call_int1 (by rfl) T.n_int (by decide +kernel) (pa_cons (pe_callB (cr_sum rfl) (by rfl) T.n_sum (by decide +kernel) (pa_cons (pe_slice sl_list (pv 0) po_none (po_some pe_int)) pa_nil)) pa_nil)) pe_int))))), ?_⟩
  obtain ⟨a, ns, i, rfl, hS, rfl, hl, q⟩ := h
  simp only [and_assoc, rst, rs, re, ra, rq, rx, ro, rl, rl2, rsp, rz, rix, rln, rg, rd, ri, rv, rk, rdd, rwi, at0, at1, at2, at3, upd_at, List.getElem?_cons_zero, List.getElem?_cons_succ, Option.some.injEq, exists_eq_left', exists_eq_left, List.set_cons_zero, List.set_cons_succ, true_and, and_true, HO.lst.injEq, HO.tup.injEq, exists_and_left, exists_eq, exists_eq', Br.t, Br.f, Be.t, Be.f, List.cons.injEq, List.append_nil, scal, if_true, if_false, ite_true, ite_false, eq_self_iff_true, decide_true, decide_false, Bool.not_true, Bool.not_false, reduceIte, List.nil_append, List.cons_append, reduceCtorEq, false_and, exists_false, false_or, or_false, Int.reduceLT]
  refine ⟨_, .inl hS, Be.d (fun c => ?_) fun c => ?_⟩
  · rw [List.length_map] at c
    have c2 : i < ns.length := by omega
    exact ⟨a, _, _, .int ns[i], rfl, rfl, hS, atI_nat (by rw [List.getElem?_map, List.getElem?_eq_getElem c2]; rfl), q _ _ fun _ _ z => z⟩
  · refine ⟨small_mul' (by decide) (by decide), a, _, rfl, hS, fun p hp => ?_⟩
    refine ⟨p, ns.take 1, rfl, SqL.of ?_, .inl ⟨_, rfl, q _ _ (Same.new hp)⟩⟩
    rw [upd_same]
    congr 2
    cases ns <;> rfl
theorem ok__law_box (T : Tx K mg w)   : Cal P w K mg base 1 "_law_box" ["great"] (sp__law_box K) := by
  refine cal_mk T.F__law_box T.g__law_box sc__law_box (len1 _) (fun _ _ _ _ _ _ us hl => match us, hl with | [_], _ => rfl) (fun cdv A outer s H vs Q E hr h => ?_)
  obtain ⟨v0, rfl, h⟩ := h
  have hu := hu_of hr
  refine ⟨_, (pss_one (ps_ret (pe_lst (pa_cons (pe_callB call_abs (by rfl) T.n_abs (by decide +kernel) (pa_cons (pv 0) pa_nil)) (pa_cons (pe_cmpR op_ge (pe_callB call_abs (by rfl) T.n_abs (by decide +kernel) (pa_cons (pv 0) pa_nil)) (pe_op op_pow pe_int pe_int) (nomark _)) (pa_cons (pe_op op_mod (pe_callTy call_int1 (by rfl) T.n_int (by decide +kernel) (pa_cons (pe_callB call_abs (by rfl) T.n_abs (by decide +kernel) (pa_cons (pv 0) pa_nil)) pa_nil)) pe_int) (pa_cons pe_int pa_nil))))))), ?_⟩
  obtain ⟨z, rfl, q⟩ := h
  simp only [and_assoc, rst, rs, re, ra, rq, rx, ro, rl, rl2, rsp, rz, rix, rln, rg, rd, ri, rv, rk, rdd, rwi, at0, at1, at2, at3, upd_at, List.getElem?_cons_zero, List.getElem?_cons_succ, Option.some.injEq, exists_eq_left', exists_eq_left, List.set_cons_zero, List.set_cons_succ, true_and, and_true, HO.lst.injEq, HO.tup.injEq, exists_and_left, exists_eq, exists_eq', Br.t, Br.f, Be.t, Be.f, List.cons.injEq, List.append_nil, scal, if_true, if_false, ite_true, ite_false, eq_self_iff_true, decide_true, decide_false, Bool.not_true, Bool.not_false, reduceIte, List.nil_append, List.cons_append, reduceCtorEq, false_and, exists_false, false_or, or_false, Int.reduceLT]
  refine ⟨⟨by decide, by decide, by decide⟩, fun p hp => q p _ (Same.new hp) hp ⟨_, _, _, _, upd_same, Int.emod_nonneg _ (by decide), Int.emod_lt_of_pos _ (by decide), Int.le_refl _, Int.le_refl _⟩⟩
theorem ok__law_take (T : Tx K mg w)   : Cal P w K mg base 1 "_law_take" ["box", "many"] (sp__law_take K) := by
  refine cal_mk T.F__law_take T.g__law_take sc__law_take (len2 _) (fun _ _ _ _ _ _ us hl => match us, hl with | [_, _], _ => rfl) (fun cdv A outer s H vs Q E hr h => ?_)
  obtain ⟨v0, v1, rfl, h⟩ := h
  have hu := hu_of hr
  refine ⟨_, (pss_cons (ps_if (PW.pt (pw_and (pt_truth (pe_ix ix_q (pv 0) pe_int (fun _ _ => rfl)) (by intro _; rfl)) (pw_and1 (pt_cmpR op_gt (pe_ix ix_q (pv 0) pe_int (fun _ _ => rfl)) pe_int (nomark _))))) (pss_cons (ps_set (i := 2) sc__law_take.nd rfl (Or.inl rfl) (pe_op op_mod (pe_callTy call_int1 (by rfl) T.n_int (by decide +kernel) (pa_cons (pe_ix ix_q (pv 0) pe_int (fun _ _ => rfl)) pa_nil)) (pv 1)))
      (pss_cons (ps_asg (pe_op op_fdivW (pe_ix ix_q (pv 0) pe_int (fun _ _ => rfl)) (pv 1)) (pg_sub (pv 0) pe_int set_list))
      (pss_one (ps_ret (pv 2))))) pss_nil)
      (pss_cons (ps_asg (pe_op op_add (pe_ix ix_q (pv 0) pe_int (fun _ _ => rfl)) pe_int) (pg_sub (pv 0) pe_int set_list))
      (pss_cons (ps_set (i := 3) sc__law_take.nd rfl (Or.inl rfl) (pe_op op_mod (pe_callTy call_int1 (by rfl) T.n_int (by decide +kernel) (pa_cons (pe_op op_pow (pe_op op_add (pe_op op_add (pe_ix ix_q (pv 0) pe_int (fun _ _ => rfl)) (pe_op op_mulA pe_int (pe_ix ix_q (pv 0) pe_int (fun _ _ => rfl)))) pe_int) pe_int) pa_nil)) pe_int))
      (pss_one (ps_ret (pe_op op_mod (pe_callTy call_int1 (by rfl) T.n_int (by decide +kernel) (pa_cons (pe_op op_fdivW (pe_op op_mod (pe_callTy call_int1 (by rfl) T.n_int (by decide +kernel) (pa_cons (pe_op op_pow (pe_op op_add (pe_op op_mulA (pv 3) pe_int) (pe_op op_mulA pe_int (pe_ix ix_q (pv 0) pe_int (fun _ _ => rfl)))) pe_int) pa_nil)) pe_int) pe_int) pa_nil)) (pv 1))))))), ?_⟩
  obtain ⟨p, n, k, rfl, ⟨x0, x2, x3, b, hb, b0, b1, b2, b3⟩, hk, rfl, n0, n1, q⟩ := h
  have n2 : CDivW x0 n := wide_div n0 (b := 64) (by omega) (by decide) (by decide)
  simp only [and_assoc, rst, rs, re, ra, rq, rx, ro, rl, rl2, rsp, rz, rix, rln, rg, rd, ri, rv, rk, rdd, rwi, at0, at1, at2, at3, upd_at, List.getElem?_cons_zero, List.getElem?_cons_succ, Option.some.injEq, exists_eq_left', exists_eq_left, List.set_cons_zero, List.set_cons_succ, true_and, and_true, HO.lst.injEq, HO.tup.injEq, exists_and_left, exists_eq, exists_eq', Br.t, Br.f, Be.t, Be.f, List.cons.injEq, List.append_nil, scal, if_true, if_false, ite_true, ite_false, eq_self_iff_true, decide_true, decide_false, Bool.not_true, Bool.not_false, reduceIte, List.nil_append, List.cons_append, reduceCtorEq, false_and, exists_false, false_or, or_false, Int.reduceLT, hb]
  refine ⟨b, rfl, Be.of (fun e => ?_) fun e => ?_⟩
  · refine ⟨_, hb, _, rfl, _, rfl, _, rfl, Br.d (fun c => ?_) fun c => ?_⟩
    · simp only [and_assoc, rst, rs, re, ra, rq, rx, ro, rl, rl2, rsp, rz, rix, rln, rg, rd, ri, rv, rk, rdd, rwi, at0, at1, at2, at3, upd_at, List.getElem?_cons_zero, List.getElem?_cons_succ, Option.some.injEq, exists_eq_left', exists_eq_left, List.set_cons_zero, List.set_cons_succ, true_and, and_true, HO.lst.injEq, HO.tup.injEq, exists_and_left, exists_eq, exists_eq', Br.t, Br.f, Be.t, Be.f, List.cons.injEq, List.append_nil, scal, if_true, if_false, ite_true, ite_false, eq_self_iff_true, decide_true, decide_false, Bool.not_true, Bool.not_false, reduceIte, List.nil_append, List.cons_append, reduceCtorEq, false_and, exists_false, false_or, or_false, Int.reduceLT, hb]
      exact ⟨n0, n2, q _ _ (Int.emod_nonneg _ (by omega)) (Int.emod_lt_of_pos _ n0) (fun a o ha ho => by rw [upd_ne ha]; exact ho) ⟨_, _, _, _, upd_same, b0, b1, b2, by omega⟩ fun a ha => upd_ne ha⟩
    · simp only [and_assoc, rst, rs, re, ra, rq, rx, ro, rl, rl2, rsp, rz, rix, rln, rg, rd, ri, rv, rk, rdd, rwi, at0, at1, at2, at3, upd_at, List.getElem?_cons_zero, List.getElem?_cons_succ, Option.some.injEq, exists_eq_left', exists_eq_left, List.set_cons_zero, List.set_cons_succ, true_and, and_true, HO.lst.injEq, HO.tup.injEq, exists_and_left, exists_eq, exists_eq', Br.t, Br.f, Be.t, Be.f, List.cons.injEq, List.append_nil, scal, if_true, if_false, ite_true, ite_false, eq_self_iff_true, decide_true, decide_false, Bool.not_true, Bool.not_false, reduceIte, List.nil_append, List.cons_append, reduceCtorEq, false_and, exists_false, false_or, or_false, Int.reduceLT, hb]
      refine ⟨small_mul' (by decide) (by decide), ⟨by decide, by decide, by omega⟩, small_mul (by decide) (by decide), small_mul' (by decide) (by decide), ⟨by decide, by decide, ?_⟩, ⟨by decide, by decide +kernel⟩, n0, q _ _ (Int.emod_nonneg _ (by omega)) (Int.emod_lt_of_pos _ n0) (fun a o ha ho => by rw [upd_ne ha]; exact ho) ⟨_, _, _, _, upd_same, b0, b1, by omega, by omega⟩ fun a ha => upd_ne ha⟩
      have z0 := Int.emod_nonneg ((x2 + 15485863 * (x3 + 1) + 179424673) ^ Int.toNat 5) (b := 2147483647) (by decide)
      have z1 := Int.emod_lt_of_pos ((x2 + 15485863 * (x3 + 1) + 179424673) ^ Int.toNat 5) (b := 2147483647) (by decide)
      generalize (x2 + 15485863 * (x3 + 1) + 179424673) ^ Int.toNat 5 % 2147483647 = z at *
      omega
  · simp only [and_assoc, rst, rs, re, ra, rq, rx, ro, rl, rl2, rsp, rz, rix, rln, rg, rd, ri, rv, rk, rdd, rwi, at0, at1, at2, at3, upd_at, List.getElem?_cons_zero, List.getElem?_cons_succ, Option.some.injEq, exists_eq_left', exists_eq_left, List.set_cons_zero, List.set_cons_succ, true_and, and_true, HO.lst.injEq, HO.tup.injEq, exists_and_left, exists_eq, exists_eq', Br.t, Br.f, Be.t, Be.f, List.cons.injEq, List.append_nil, scal, if_true, if_false, ite_true, ite_false, eq_self_iff_true, decide_true, decide_false, Bool.not_true, Bool.not_false, reduceIte, List.nil_append, List.cons_append, reduceCtorEq, false_and, exists_false, false_or, or_false, Int.reduceLT, hb]
    refine ⟨small_mul' (by decide) (by decide), ⟨by decide, by decide, by omega⟩, small_mul (by decide) (by decide), small_mul' (by decide) (by decide), ⟨by decide, by decide, ?_⟩, ⟨by decide, by decide +kernel⟩, n0, q _ _ (Int.emod_nonneg _ (by omega)) (Int.emod_lt_of_pos _ n0) (fun a o ha ho => by rw [upd_ne ha]; exact ho) ⟨_, _, _, _, upd_same, b0, b1, by omega, by omega⟩ fun a ha => upd_ne ha⟩
    have z0 := Int.emod_nonneg ((x2 + 15485863 * (x3 + 1) + 179424673) ^ Int.toNat 5) (b := 2147483647) (by decide)
    have z1 := Int.emod_lt_of_pos ((x2 + 15485863 * (x3 + 1) + 179424673) ^ Int.toNat 5) (b := 2147483647) (by decide)
    generalize (x2 + 15485863 * (x3 + 1) + 179424673) ^ Int.toNat 5 % 2147483647 = z at *
    omega
theorem okn__law_same (T : Tx K mg w)  : ∀ n, Cal P w K mg base (1 + n) "_law_same" ["told", "due"] (spn__law_same K n) := by
  intro n
  induction n with
  | zero =>
    refine cal_mk T.F__law_same T.g__law_same sc__law_same (len2 _) (fun _ _ _ _ _ _ us hl => match us, hl with | [_, _], _ => rfl) (fun cdv A outer s H vs Q E hr h => ?_)
    obtain ⟨v0, v1, rfl, h⟩ := h
    exact h.1.elim
  | succ n c__law_same =>
    refine cal_mk T.F__law_same T.g__law_same sc__law_same (len2 _) (fun _ _ _ _ _ _ us hl => match us, hl with | [_, _], _ => rfl) (fun cdv A outer s H vs Q E hr h => ?_)
    obtain ⟨v0, v1, rfl, h⟩ := h
    have hu := hu_of hr
    refine ⟨_, (pss_cons (ps_if (PW.pt (pw_or (pt_cmpR op_isN (pv 1) pe_non (nomark _)) (pw_or1 (pt_val (pe_callB is_q (by rfl) T.n_isinstance (by decide +kernel) (pa_cons (pv 1) (pa_cons (pe_bltn (v := .ty "bool") (by rfl) T.n_bool (by decide +kernel) rfl) pa_nil))))))) (pss_one (ps_ret (pe_ifExp (pt_cmpR op_isN (pv 1) pe_non (nomark _)) (pe_cmpR op_isN (pv 0) pe_non (nomark _)) (pe_and (pe_callB is_q (by rfl) T.n_isinstance (by decide +kernel) (pa_cons (pv 0) (pa_cons (pe_bltn (v := .ty "bool") (by rfl) T.n_bool (by decide +kernel) rfl) pa_nil))) (pe_one (pe_cmpR op_eq (pe_cmpR op_isBl (pv 0) pe_bl (nomark _)) (pe_cmpR op_isBl (pv 1) pe_bl (nomark _)) (nomark _))))))) pss_nil)
      (pss_cons (ps_if (pt_val (pe_callB is_q (by rfl) T.n_isinstance (by decide +kernel) (pa_cons (pv 1) (pa_cons (pe_bltn (v := .ty "int") (by rfl) T.n_int (by decide +kernel) rfl) pa_nil)))) (pss_one (ps_ret (pe_and (pe_callB is_q (by rfl) T.n_isinstance (by decide +kernel) (pa_cons (pv 0) (pa_cons (pe_bltn (v := .ty "int") (by rfl) T.n_int (by decide +kernel) rfl) pa_nil))) (pe_and (pe_not (pe_callB is_q (by rfl) T.n_isinstance (by decide +kernel) (pa_cons (pv 0) (pa_cons (pe_bltn (v := .ty "bool") (by rfl) T.n_bool (by decide +kernel) rfl) pa_nil)))) (pe_one (pe_cmpR (op_eqD hr.units) (pe_op op_sub (pe_callTy call_int1 (by rfl) T.n_int (by decide +kernel) (pa_cons (pv 0) pa_nil)) (pv 1)) pe_int (nomark _))))))) pss_nil)
      (pss_cons (ps_if (pt_val (pe_callB is_q (by rfl) T.n_isinstance (by decide +kernel) (pa_cons (pv 1) (pa_cons (pe_bltn (v := .ty "str") (by rfl) T.n_str (by decide +kernel) rfl) pa_nil)))) (pss_one (ps_ret (pe_and (pe_callB is_q (by rfl) T.n_isinstance (by decide +kernel) (pa_cons (pv 0) (pa_cons (pe_bltn (v := .ty "str") (by rfl) T.n_str (by decide +kernel) rfl) pa_nil))) (pe_and (pe_cmpR op_eq (pe_callB call_len_str (by rfl) T.n_len (by decide +kernel) (pa_cons (pv 0) pa_nil)) (pe_callB call_len_str (by rfl) T.n_len (by decide +kernel) (pa_cons (pv 1) pa_nil)) (nomark _)) (pe_one (pe_cmpR (op_eqD hr.units) (pe_lc (own := [("k", 2)]) (g := (gName 2)) rfl sc__law_same.nd (pi_range1 (by rfl) T.n_range (pa_cons (pe_callB call_len_str (by rfl) T.n_len (by decide +kernel) (pa_cons (pv 1) pa_nil)) pa_nil)) (blkOk_by (N := nm__law_same) (sc := defScope s__law_same) (by decide +kernel)) (fun _ _ _ _ _ => (pg_name (i := 2) sc__law_same.nd rfl (Or.inl rfl))) (fun _ _ _ _ _ => (pts_one (pt_cmpR op_ne (pe_slice sl_str (pv 0) (po_some (pv 2)) (po_some (pe_op op_add (pv 2) pe_int))) (pe_ix ix_str (pv 1) (pv 2) (fun _ _ => rfl)) (nomark _)))) (fun _ _ _ _ _ => (pv 2))) (pe_lst pa_nil) (nomark _))))))) pss_nil)
      (pss_cons (ps_if (PW.pt (pw_or (pt_cmpR op_ne (pe_callB is_q (by rfl) T.n_isinstance (by decide +kernel) (pa_cons (pv 0) (pa_cons (pe_bltn (v := .ty "list") (by rfl) T.n_list (by decide +kernel) rfl) pa_nil))) (pe_callB is_q (by rfl) T.n_isinstance (by decide +kernel) (pa_cons (pv 1) (pa_cons (pe_bltn (v := .ty "list") (by rfl) T.n_list (by decide +kernel) rfl) pa_nil))) (nomark _)) (pw_or1 (pt_cmpR op_ne (pe_callB is_q (by rfl) T.n_isinstance (by decide +kernel) (pa_cons (pv 0) (pa_cons (pe_bltn (v := .ty "tuple") (by rfl) T.n_tuple (by decide +kernel) rfl) pa_nil))) (pe_callB is_q (by rfl) T.n_isinstance (by decide +kernel) (pa_cons (pv 1) (pa_cons (pe_bltn (v := .ty "tuple") (by rfl) T.n_tuple (by decide +kernel) rfl) pa_nil))) (nomark _))))) (pss_one (ps_ret pe_bl)) pss_nil)
      (pss_one (ps_ret (pe_and (pe_cmpR op_eq (pe_callB len_q (by rfl) T.n_len (by decide +kernel) (pa_cons (pv 0) pa_nil)) (pe_callB len_q (by rfl) T.n_len (by decide +kernel) (pa_cons (pv 1) pa_nil)) (nomark _)) (pe_one (pe_cmpR (op_eqD hr.units) (pe_lc (own := [("k", 2)]) (g := (gName 2)) rfl sc__law_same.nd (pi_range1 (by rfl) T.n_range (pa_cons (pe_callB len_q (by rfl) T.n_len (by decide +kernel) (pa_cons (pv 1) pa_nil)) pa_nil)) (blkOk_by (N := nm__law_same) (sc := defScope s__law_same) (by decide +kernel)) (fun _ _ _ _ _ => (pg_name (i := 2) sc__law_same.nd rfl (Or.inl rfl))) (fun _ _ _ _ _ => (pts_one (pt_not (pt_val (pe_cal c__law_same hr (Nat.le_refl _) passL rfl (pa_cons (pe_ix ix_q (pv 0) (pv 2) (fun _ _ => rfl)) (pa_cons (pe_ix ix_q (pv 1) (pv 2) (fun _ _ => rfl)) pa_nil))))))) (fun _ _ _ _ _ => (pv 2))) (pe_lst pa_nil) (nomark _)))))))))), ?_⟩
    obtain ⟨h, q⟩ := h
    rcases h with ⟨rfl, hf⟩ | ⟨p, p', o, u, xs, ys, rfl, rfl, ho, hxs, hu2, hys, ht, hl, hP⟩
    · cases v0 with
      | non =>
        simp only [and_assoc, rst, rs, re, ra, rq, rx, ro, rl, rl2, rsp, rz, rix, rln, rg, rd, ri, rv, rk, rdd, rwi, at0, at1, at2, at3, upd_at, List.getElem?_cons_zero, List.getElem?_cons_succ, Option.some.injEq, exists_eq_left', exists_eq_left, List.set_cons_zero, List.set_cons_succ, true_and, and_true, HO.lst.injEq, HO.tup.injEq, exists_and_left, exists_eq, exists_eq', Br.t, Br.f, Be.t, Be.f, List.cons.injEq, List.append_nil, scal, if_true, if_false, ite_true, ite_false, eq_self_iff_true, decide_true, decide_false, Bool.not_true, Bool.not_false, reduceIte, List.nil_append, List.cons_append, reduceCtorEq, false_and, exists_false, false_or, or_false, Int.reduceLT]
        exact q _ fun _ _ z => z
      | bl b =>
        simp only [and_assoc, rst, rs, re, ra, rq, rx, ro, rl, rl2, rsp, rz, rix, rln, rg, rd, ri, rv, rk, rdd, rwi, at0, at1, at2, at3, upd_at, List.getElem?_cons_zero, List.getElem?_cons_succ, Option.some.injEq, exists_eq_left', exists_eq_left, List.set_cons_zero, List.set_cons_succ, true_and, and_true, HO.lst.injEq, HO.tup.injEq, exists_and_left, exists_eq, exists_eq', Br.t, Br.f, Be.t, Be.f, List.cons.injEq, List.append_nil, scal, if_true, if_false, ite_true, ite_false, eq_self_iff_true, decide_true, decide_false, Bool.not_true, Bool.not_false, reduceIte, List.nil_append, List.cons_append, reduceCtorEq, false_and, exists_false, false_or, or_false, Int.reduceLT, kb]
        refine ⟨b, true, rfl, rfl, b, true, rfl, rfl, rfl, ?_⟩
        rw [decide_eq_true rfl]
        exact q _ fun _ _ z => z
      | int i =>
        simp only [and_assoc, rst, rs, re, ra, rq, rx, ro, rl, rl2, rsp, rz, rix, rln, rg, rd, ri, rv, rk, rdd, rwi, at0, at1, at2, at3, upd_at, List.getElem?_cons_zero, List.getElem?_cons_succ, Option.some.injEq, exists_eq_left', exists_eq_left, List.set_cons_zero, List.set_cons_succ, true_and, and_true, HO.lst.injEq, HO.tup.injEq, exists_and_left, exists_eq, exists_eq', Br.t, Br.f, Be.t, Be.f, List.cons.injEq, List.append_nil, scal, if_true, if_false, ite_true, ite_false, eq_self_iff_true, decide_true, decide_false, Bool.not_true, Bool.not_false, reduceIte, List.nil_append, List.cons_append, reduceCtorEq, false_and, exists_false, false_or, or_false, Int.reduceLT, ki]
        refine ⟨_, _, .int _, .int _, rfl, rfl, ?_⟩
        rw [eqv_int, decide_eq_true (by omega)]
        exact q _ fun _ _ z => z
      | str z =>
        have hz : z.length ≤ 1000 := of_decide_eq_true hf
        have hz2 : z.length ≤ sizeLine := by rw [sizeLine_eq]; omega
        have el : z.length = z.cps.toList.length := by rw [Array.length_toList] <;> rfl
        simp only [and_assoc, rst, rs, re, ra, rq, rx, ro, rl, rl2, rsp, rz, rix, rln, rg, rd, ri, rv, rk, rdd, rwi, at0, at1, at2, at3, upd_at, List.getElem?_cons_zero, List.getElem?_cons_succ, Option.some.injEq, exists_eq_left', exists_eq_left, List.set_cons_zero, List.set_cons_succ, true_and, and_true, HO.lst.injEq, HO.tup.injEq, exists_and_left, exists_eq, exists_eq', Br.t, Br.f, Be.t, Be.f, List.cons.injEq, List.append_nil, scal, if_true, if_false, ite_true, ite_false, eq_self_iff_true, decide_true, decide_false, Bool.not_true, Bool.not_false, reduceIte, List.nil_append, List.cons_append, reduceCtorEq, false_and, exists_false, false_or, or_false, Int.reduceLT, ks]
        refine ⟨hz2, hz2, hz2, by omega, by omega, LC.rng (fun D i H2 => Same H H2 ∧ H2 D = some (.lst [])) (fun D hD => ⟨Same.new hD, upd_same⟩) ?_ ?_⟩
        · rintro D i H2 hD hi2 ⟨s2, h2⟩
          have hi3 : i < z.cps.toList.length := by omega
          have ec : z.cps.toList[i]? = some (z.cps.toList[i]) := List.getElem?_eq_getElem hi3
          simp only [and_assoc, rst, rs, re, ra, rq, rx, ro, rl, rl2, rsp, rz, rix, rln, rg, rd, ri, rv, rk, rdd, rwi, at0, at1, at2, at3, upd_at, List.getElem?_cons_zero, List.getElem?_cons_succ, Option.some.injEq, exists_eq_left', exists_eq_left, List.set_cons_zero, List.set_cons_succ, true_and, and_true, HO.lst.injEq, HO.tup.injEq, exists_and_left, exists_eq, exists_eq', Br.t, Br.f, Be.t, Be.f, List.cons.injEq, List.append_nil, scal, if_true, if_false, ite_true, ite_false, eq_self_iff_true, decide_true, decide_false, Bool.not_true, Bool.not_false, reduceIte, List.nil_append, List.cons_append, reduceCtorEq, false_and, exists_false, false_or, or_false, Int.reduceLT]
          rw [Int.zero_add]
          refine ⟨z, rfl, hz2, z, _, _, rfl, rfl, hz2, atI_nat ec, rfl, ?_⟩
          rw [cutS_one ec, decide_eq_true rfl]
          simp only [and_assoc, rst, rs, re, ra, rq, rx, ro, rl, rl2, rsp, rz, rix, rln, rg, rd, ri, rv, rk, rdd, rwi, at0, at1, at2, at3, upd_at, List.getElem?_cons_zero, List.getElem?_cons_succ, Option.some.injEq, exists_eq_left', exists_eq_left, List.set_cons_zero, List.set_cons_succ, true_and, and_true, HO.lst.injEq, HO.tup.injEq, exists_and_left, exists_eq, exists_eq', Br.t, Br.f, Be.t, Be.f, List.cons.injEq, List.append_nil, scal, if_true, if_false, ite_true, ite_false, eq_self_iff_true, decide_true, decide_false, Bool.not_true, Bool.not_false, reduceIte, List.nil_append, List.cons_append, reduceCtorEq, false_and, exists_false, false_or, or_false, Int.reduceLT]
          exact ⟨s2, h2⟩
        · rintro D H2 hD ⟨s2, h2⟩
          refine fun p5 h5 => eq_ints (ns := []) (ms := []) (SqL.of (Same.new h5 _ _ h2)) (SqL.of upd_same) ?_
          rw [decide_eq_true rfl]
          exact q _ (Same.mut s2 (Same.free s2 h5))
      | _ => cases hf
    · have k1 := kindB ho hxs
      have k2 := kindB hu2 hys
      have hlen := Paired.length hP
      simp only [and_assoc, rst, rs, re, ra, rq, rx, ro, rl, rl2, rsp, rz, rix, rln, rg, rd, ri, rv, rk, rdd, rwi, at0, at1, at2, at3, upd_at, List.getElem?_cons_zero, List.getElem?_cons_succ, Option.some.injEq, exists_eq_left', exists_eq_left, List.set_cons_zero, List.set_cons_succ, true_and, and_true, HO.lst.injEq, HO.tup.injEq, exists_and_left, exists_eq, exists_eq', Br.t, Br.f, Be.t, Be.f, List.cons.injEq, List.append_nil, scal, if_true, if_false, ite_true, ite_false, eq_self_iff_true, decide_true, decide_false, Bool.not_true, Bool.not_false, reduceIte, List.nil_append, List.cons_append, reduceCtorEq, false_and, exists_false, false_or, or_false, Int.reduceLT, k1, k2]
      refine Be.n (fun c => absurd (by rw [ht]) c) fun c => ⟨_, k1.2.2.2.2.2, _, k2.2.2.2.2.2, Br.n (fun c => absurd ht c) fun c => ?_⟩
      simp only [and_assoc, rst, rs, re, ra, rq, rx, ro, rl, rl2, rsp, rz, rix, rln, rg, rd, ri, rv, rk, rdd, rwi, at0, at1, at2, at3, upd_at, List.getElem?_cons_zero, List.getElem?_cons_succ, Option.some.injEq, exists_eq_left', exists_eq_left, List.set_cons_zero, List.set_cons_succ, true_and, and_true, HO.lst.injEq, HO.tup.injEq, exists_and_left, exists_eq, exists_eq', Br.t, Br.f, Be.t, Be.f, List.cons.injEq, List.append_nil, scal, if_true, if_false, ite_true, ite_false, eq_self_iff_true, decide_true, decide_false, Bool.not_true, Bool.not_false, reduceIte, List.nil_append, List.cons_append, reduceCtorEq, false_and, exists_false, false_or, or_false, Int.reduceLT, ho, hxs, hu2, hys]
      refine Be.d (fun _ => ?_) fun c => absurd (by rw [hlen]) c
      simp only [and_assoc, rst, rs, re, ra, rq, rx, ro, rl, rl2, rsp, rz, rix, rln, rg, rd, ri, rv, rk, rdd, rwi, at0, at1, at2, at3, upd_at, List.getElem?_cons_zero, List.getElem?_cons_succ, Option.some.injEq, exists_eq_left', exists_eq_left, List.set_cons_zero, List.set_cons_succ, true_and, and_true, HO.lst.injEq, HO.tup.injEq, exists_and_left, exists_eq, exists_eq', Br.t, Br.f, Be.t, Be.f, List.cons.injEq, List.append_nil, scal, if_true, if_false, ite_true, ite_false, eq_self_iff_true, decide_true, decide_false, Bool.not_true, Bool.not_false, reduceIte, List.nil_append, List.cons_append, reduceCtorEq, false_and, exists_false, false_or, or_false, Int.reduceLT, hu2]
      refine ⟨_, hys, by omega, by omega, LC.rng (fun D i H2 => Same H H2 ∧ H2 D = some (.lst [])) (fun D hD => ⟨Same.new hD, upd_same⟩) ?_ ?_⟩
      · rintro D i H2 hD hi2 ⟨s2, h2⟩
        have iy : i < ys.length := by omega
        have ix : i < xs.length := by omega
        have ex := List.getElem?_eq_getElem ix
        have ey := List.getElem?_eq_getElem iy
        simp only [and_assoc, rst, rs, re, ra, rq, rx, ro, rl, rl2, rsp, rz, rix, rln, rg, rd, ri, rv, rk, rdd, rwi, at0, at1, at2, at3, upd_at, List.getElem?_cons_zero, List.getElem?_cons_succ, Option.some.injEq, exists_eq_left', exists_eq_left, List.set_cons_zero, List.set_cons_succ, true_and, and_true, HO.lst.injEq, HO.tup.injEq, exists_and_left, exists_eq, exists_eq', Br.t, Br.f, Be.t, Be.f, List.cons.injEq, List.append_nil, scal, if_true, if_false, ite_true, ite_false, eq_self_iff_true, decide_true, decide_false, Bool.not_true, Bool.not_false, reduceIte, List.nil_append, List.cons_append, reduceCtorEq, false_and, exists_false, false_or, or_false, Int.reduceLT, s2 _ _ ho, s2 _ _ hu2]
        rw [Int.zero_add]
        refine ⟨_, hxs, _, atI_nat ex, _, hys, _, atI_nat ey, _, _, rfl, (paired_at hP ex ey).same s2, fun H3 s3 => ?_⟩
        simp only [and_assoc, rst, rs, re, ra, rq, rx, ro, rl, rl2, rsp, rz, rix, rln, rg, rd, ri, rv, rk, rdd, rwi, at0, at1, at2, at3, upd_at, List.getElem?_cons_zero, List.getElem?_cons_succ, Option.some.injEq, exists_eq_left', exists_eq_left, List.set_cons_zero, List.set_cons_succ, true_and, and_true, HO.lst.injEq, HO.tup.injEq, exists_and_left, exists_eq, exists_eq', Br.t, Br.f, Be.t, Be.f, List.cons.injEq, List.append_nil, scal, if_true, if_false, ite_true, ite_false, eq_self_iff_true, decide_true, decide_false, Bool.not_true, Bool.not_false, reduceIte, List.nil_append, List.cons_append, reduceCtorEq, false_and, exists_false, false_or, or_false, Int.reduceLT]
        exact ⟨Same.trans s2 s3, s3 _ _ h2⟩
      · rintro D H2 hD ⟨s2, h2⟩
        refine fun p5 h5 => eq_ints (ns := []) (ms := []) (SqL.of (Same.new h5 _ _ h2)) (SqL.of upd_same) ?_
        rw [decide_eq_true rfl]
        exact q _ (Same.mut s2 (Same.free s2 h5))
theorem okL__law_same (T : Tx K mg w) : Cal P w K mg base 7 "_law_same" ["told", "due"] (sp__law_same K) := okn__law_same T 6
end
end Law

namespace Law
open PySem PySem.Spec PyProof.Rows L2 Sw
theorem alike_one {H : Hp} {u v : Addr} : ∀ {n : Nat}, 2 ≤ n → H u = some (.lst [.int 1]) → H v = some (.lst [.int 1]) → AlikeD H n (.ref u) (.ref v)
  | 0, h, _, _ => absurd h (by decide)
  | 1, h, _, _ => absurd h (by decide)
  | n + 2, _, hu, hv => .inr (.inl ⟨u, v, _, _, rfl, rfl, hu, hv, by decide, .cons (.inl ⟨.inl ⟨rfl, rfl⟩, fun q u e => by cases e⟩) .nil⟩)
section
variable {P : Program} {w : World} {K : Fg} {mg : Str → Option Value} {base : Heap}
theorem okn__law_alike (T : Tx K mg w) (c__law_same : Cal P w K mg base 7 "_law_same" ["told", "due"] (sp__law_same K)) : ∀ n, Cal P w K mg base (8 + n) "_law_alike" ["told", "due"] (spn__law_alike K n) := by
  intro n
  induction n with
  | zero =>
    refine cal_mk T.F__law_alike T.g__law_alike sc__law_alike (len2 _) (fun _ _ _ _ _ _ us hl => match us, hl with | [_, _], _ => rfl) (fun cdv A outer s H vs Q E hr h => ?_)
    obtain ⟨v0, v1, rfl, h⟩ := h
    exact h.1.elim
  | succ n c__law_alike =>
    refine cal_mk T.F__law_alike T.g__law_alike sc__law_alike (len2 _) (fun _ _ _ _ _ _ us hl => match us, hl with | [_, _], _ => rfl) (fun cdv A outer s H vs Q E hr h => ?_)
    obtain ⟨v0, v1, rfl, h⟩ := h
    have hu := hu_of hr
    refine ⟨_, (pss_cons (ps_if (pt_val (pe_callB is_q (by rfl) T.n_isinstance (by decide +kernel) (pa_cons (pv 1) (pa_cons (pe_bltn (v := .ty "dict") (by rfl) T.n_dict (by decide +kernel) rfl) pa_nil)))) (pss_one (ps_ret (pe_and (pe_callB is_q (by rfl) T.n_isinstance (by decide +kernel) (pa_cons (pv 0) (pa_cons (pe_bltn (v := .ty "dict") (by rfl) T.n_dict (by decide +kernel) rfl) pa_nil))) (pe_and (pe_cmpR op_eq (pe_callB call_lenD (by rfl) T.n_len (by decide +kernel) (pa_cons (pv 0) pa_nil)) (pe_callB call_lenD (by rfl) T.n_len (by decide +kernel) (pa_cons (pv 1) pa_nil)) (nomark _)) (pe_one (pe_cmpR (op_eqD hr.units) (pe_lock (pe_lc (own := [("k", 2)]) (g := (gName 2)) rfl sc__law_alike.nd (pi_keys (pv 1)) (blkOk_by (N := nm__law_alike) (sc := defScope s__law_alike) (by decide +kernel)) (fun _ _ _ _ _ => (pg_name (i := 2) sc__law_alike.nd rfl (Or.inl rfl))) (fun _ _ _ _ _ => (pts_one (PW.pt (pw_or (pt_cmp (pc_dnotin hu (pv 2) (pv 0))) (pw_or1 (pt_not (pt_val (pe_cal c__law_alike hr (Nat.le_refl _) passL rfl (pa_cons (pe_dget hu (pv 0) (pv 2) (fun _ _ => rfl)) (pa_cons (pe_dget hu (pv 1) (pv 2) (fun _ _ => rfl)) pa_nil)))))))))) (fun _ _ _ _ _ => (pv 2)))) (pe_lst pa_nil) (nomark _))))))) pss_nil)
      (pss_cons (ps_if (pt_val (pe_callB is_q (by rfl) T.n_isinstance (by decide +kernel) (pa_cons (pv 1) (pa_cons (pe_bltn (v := .ty "list") (by rfl) T.n_list (by decide +kernel) rfl) pa_nil)))) (pss_one (ps_ret (pe_and (pe_callB is_q (by rfl) T.n_isinstance (by decide +kernel) (pa_cons (pv 0) (pa_cons (pe_bltn (v := .ty "list") (by rfl) T.n_list (by decide +kernel) rfl) pa_nil))) (pe_and (pe_cmpR op_eq (pe_callB len_q (by rfl) T.n_len (by decide +kernel) (pa_cons (pv 0) pa_nil)) (pe_callB len_q (by rfl) T.n_len (by decide +kernel) (pa_cons (pv 1) pa_nil)) (nomark _)) (pe_one (pe_cmpR (op_eqD hr.units) (pe_lc (own := [("k", 2)]) (g := (gName 2)) rfl sc__law_alike.nd (pi_range1 (by rfl) T.n_range (pa_cons (pe_callB len_q (by rfl) T.n_len (by decide +kernel) (pa_cons (pv 1) pa_nil)) pa_nil)) (blkOk_by (N := nm__law_alike) (sc := defScope s__law_alike) (by decide +kernel)) (fun _ _ _ _ _ => (pg_name (i := 2) sc__law_alike.nd rfl (Or.inl rfl))) (fun _ _ _ _ _ => (pts_one (pt_not (pt_val (pe_cal c__law_alike hr (Nat.le_refl _) passL rfl (pa_cons (pe_ix ix_q (pv 0) (pv 2) (fun _ _ => rfl)) (pa_cons (pe_ix ix_q (pv 1) (pv 2) (fun _ _ => rfl)) pa_nil))))))) (fun _ _ _ _ _ => (pv 2))) (pe_lst pa_nil) (nomark _))))))) pss_nil)
      (pss_one (ps_ret (pe_cal c__law_same hr (Nat.le_trans (by decide : 7 ≤ 8) (Nat.le_add_right _ _)) passL rfl (pa_cons (pv 0) (pa_cons (pv 1) pa_nil))))))), ?_⟩
    obtain ⟨h, q⟩ := h
    rcases h with ⟨h, hq⟩ | ⟨p, p', xs, ys, rfl, rfl, hx, hy, hl, hP⟩ | ⟨p, p', k, u, v, rfl, rfl, hx, hy, hu2, hv2, hpp, hn⟩
    · have kd : isB H v1 "dict" = some false ∧ isB H v1 "list" = some false := by
        rcases h with ⟨e3, e4⟩ | ⟨p, q', o, u', xs, ys, f1, rfl, f3, f4, f5, f6, f7, f8, f9⟩
        · rw [e3] at e4
          cases v1 with
          | non => exact ⟨(kn H).2.2.2.2.2, (kn H).2.2.2.1⟩
          | bl b => exact ⟨(kb b H).2.2.2.2.2, (kb b H).2.2.2.1⟩
          | int b => exact ⟨(ki b H).2.2.2.2.2, (ki b H).2.2.2.1⟩
          | str b => exact ⟨(ks b H).2.2.2.2.2, (ks b H).2.2.2.1⟩
          | _ => cases e4
        · have z := kindB f5 f6
          rw [hq _ _ rfl f5] at z
          exact ⟨z.2.2.2.1, z.2.2.2.2.1⟩
      simp only [and_assoc, rst, rs, re, ra, rq, rx, ro, rl, rl2, rsp, rz, rix, rln, rg, rd, ri, rv, rk, rdd, rwi, at0, at1, at2, at3, upd_at, List.getElem?_cons_zero, List.getElem?_cons_succ, Option.some.injEq, exists_eq_left', exists_eq_left, List.set_cons_zero, List.set_cons_succ, true_and, and_true, HO.lst.injEq, HO.tup.injEq, exists_and_left, exists_eq, exists_eq', Br.t, Br.f, Be.t, Be.f, List.cons.injEq, List.append_nil, scal, if_true, if_false, ite_true, ite_false, eq_self_iff_true, decide_true, decide_false, Bool.not_true, Bool.not_false, reduceIte, List.nil_append, List.cons_append, reduceCtorEq, false_and, exists_false, false_or, or_false, Int.reduceLT, kd.1, kd.2]
      exact ⟨_, _, rfl, h, q⟩
    · have hlen := Paired.length hP
      simp only [and_assoc, rst, rs, re, ra, rq, rx, ro, rl, rl2, rsp, rz, rix, rln, rg, rd, ri, rv, rk, rdd, rwi, at0, at1, at2, at3, upd_at, List.getElem?_cons_zero, List.getElem?_cons_succ, Option.some.injEq, exists_eq_left', exists_eq_left, List.set_cons_zero, List.set_cons_succ, true_and, and_true, HO.lst.injEq, HO.tup.injEq, exists_and_left, exists_eq, exists_eq', Br.t, Br.f, Be.t, Be.f, List.cons.injEq, List.append_nil, scal, if_true, if_false, ite_true, ite_false, eq_self_iff_true, decide_true, decide_false, Bool.not_true, Bool.not_false, reduceIte, List.nil_append, List.cons_append, reduceCtorEq, false_and, exists_false, false_or, or_false, Int.reduceLT, kindB hx rfl, kindB hy rfl]
      refine ⟨_, hx, _, rfl, _, hy, _, rfl, Be.d (fun _ => ?_) fun c => absurd (by rw [hlen]) c⟩
      refine ⟨_, hy, _, rfl, by omega, by omega, LC.rng (fun D i H2 => Same H H2 ∧ H2 D = some (.lst [])) (fun D hD => ⟨Same.new hD, upd_same⟩) ?_ ?_⟩
      · rintro D i H2 hD hi2 ⟨s2, h2⟩
        have iy : i < ys.length := by omega
        have ix : i < xs.length := by omega
        have ex := List.getElem?_eq_getElem ix
        have ey := List.getElem?_eq_getElem iy
        simp only [and_assoc, rst, rs, re, ra, rq, rx, ro, rl, rl2, rsp, rz, rix, rln, rg, rd, ri, rv, rk, rdd, rwi, at0, at1, at2, at3, upd_at, List.getElem?_cons_zero, List.getElem?_cons_succ, Option.some.injEq, exists_eq_left', exists_eq_left, List.set_cons_zero, List.set_cons_succ, true_and, and_true, HO.lst.injEq, HO.tup.injEq, exists_and_left, exists_eq, exists_eq', Br.t, Br.f, Be.t, Be.f, List.cons.injEq, List.append_nil, scal, if_true, if_false, ite_true, ite_false, eq_self_iff_true, decide_true, decide_false, Bool.not_true, Bool.not_false, reduceIte, List.nil_append, List.cons_append, reduceCtorEq, false_and, exists_false, false_or, or_false, Int.reduceLT, s2 _ _ hx, s2 _ _ hy]
        rw [Int.zero_add]
        refine ⟨_, atI_nat ex, _, atI_nat ey, _, _, rfl, (paired_at hP ex ey).same s2, fun H3 s3 => ?_⟩
        simp only [and_assoc, rst, rs, re, ra, rq, rx, ro, rl, rl2, rsp, rz, rix, rln, rg, rd, ri, rv, rk, rdd, rwi, at0, at1, at2, at3, upd_at, List.getElem?_cons_zero, List.getElem?_cons_succ, Option.some.injEq, exists_eq_left', exists_eq_left, List.set_cons_zero, List.set_cons_succ, true_and, and_true, HO.lst.injEq, HO.tup.injEq, exists_and_left, exists_eq, exists_eq', Br.t, Br.f, Be.t, Be.f, List.cons.injEq, List.append_nil, scal, if_true, if_false, ite_true, ite_false, eq_self_iff_true, decide_true, decide_false, Bool.not_true, Bool.not_false, reduceIte, List.nil_append, List.cons_append, reduceCtorEq, false_and, exists_false, false_or, or_false, Int.reduceLT]
        exact ⟨Same.trans s2 s3, s3 _ _ h2⟩
      · rintro D H2 hD ⟨s2, h2⟩
        refine fun p5 h5 => eq_ints (ns := []) (ms := []) (SqL.of (Same.new h5 _ _ h2)) (SqL.of upd_same) ?_
        rw [decide_eq_true rfl]
        exact q _ (Same.mut s2 (Same.free s2 h5))
    · simp only [and_assoc, rst, rs, re, ra, rq, rx, ro, rl, rl2, rsp, rz, rix, rln, rg, rd, ri, rv, rk, rdd, rwi, at0, at1, at2, at3, upd_at, List.getElem?_cons_zero, List.getElem?_cons_succ, Option.some.injEq, exists_eq_left', exists_eq_left, List.set_cons_zero, List.set_cons_succ, true_and, and_true, HO.lst.injEq, HO.tup.injEq, exists_and_left, exists_eq, exists_eq', Br.t, Br.f, Be.t, Be.f, List.cons.injEq, List.append_nil, scal, if_true, if_false, ite_true, ite_false, eq_self_iff_true, decide_true, decide_false, Bool.not_true, Bool.not_false, reduceIte, List.nil_append, List.cons_append, reduceCtorEq, false_and, exists_false, false_or, or_false, Int.reduceLT, kindD hx, kindD hy]
      refine ⟨_, hx, _, hy, Be.d (fun _ => ?_) fun c => absurd rfl c⟩
      refine ⟨p', _, hy, True.intro, fun od => ⟨od, .inl ⟨_, by rw [if_pos rfl], ?_⟩⟩⟩
      have hup : u ≠ p' := fun z => by rw [z, hy] at hu2; cases hu2
      have hvp : v ≠ p' := fun z => by rw [z, hy] at hv2; cases hv2
      refine LC.keys (fun D i H2 => Same (upd H p' (.frz od (.dK [(k, .ref v)]))) H2 ∧ H2 D = some (.lst [])) (fun D hD => ⟨Same.new hD, upd_same⟩) (fun D i H2 _ ⟨s2, _⟩ => s2 _ _ upd_same) ?_ ?_
      · rintro D i k' v' H2 hD hk ⟨s2, h2⟩
        have hi : i = 0 := by
          have := (List.getElem?_eq_some_iff.mp hk).1
          have : i < 1 := this
          omega
        subst hi
        cases hk
        have p2 : H2 p = some (.dK [(k, .ref u)]) := s2 _ _ (by rw [upd_ne hpp]; exact hx)
        have d2 : H2 p' = some (.frz od (.dK [(k, .ref v)])) := s2 _ _ upd_same
        have u2 : H2 u = some (.lst [.int 1]) := s2 _ _ (by rw [upd_ne hup]; exact hu2)
        have v2 : H2 v = some (.lst [.int 1]) := s2 _ _ (by rw [upd_ne hvp]; exact hv2)
        simp only [and_assoc, rst, rs, re, ra, rq, rx, ro, rl, rl2, rsp, rz, rix, rln, rg, rd, ri, rv, rk, rdd, rwi, at0, at1, at2, at3, upd_at, List.getElem?_cons_zero, List.getElem?_cons_succ, Option.some.injEq, exists_eq_left', exists_eq_left, List.set_cons_zero, List.set_cons_succ, true_and, and_true, HO.lst.injEq, HO.tup.injEq, exists_and_left, exists_eq, exists_eq', Br.t, Br.f, Be.t, Be.f, List.cons.injEq, List.append_nil, scal, if_true, if_false, ite_true, ite_false, eq_self_iff_true, decide_true, decide_false, Bool.not_true, Bool.not_false, reduceIte, List.nil_append, List.cons_append, reduceCtorEq, false_and, exists_false, false_or, or_false, Int.reduceLT]
        refine ⟨some (.ref u), .inl ⟨_, k, .inl p2, rfl, by simp [valV]⟩, Be.of (fun e => by cases e) fun _ => ?_⟩
        refine ⟨.ref u, .inl ⟨_, k, .inl p2, rfl, by simp [valV]⟩, .ref v, .inl ⟨_, k, .inr ⟨od, d2⟩, rfl, by simp [valV]⟩, _, _, rfl, alike_one hn u2 v2, fun H3 s3 => ?_⟩
        simp only [and_assoc, rst, rs, re, ra, rq, rx, ro, rl, rl2, rsp, rz, rix, rln, rg, rd, ri, rv, rk, rdd, rwi, at0, at1, at2, at3, upd_at, List.getElem?_cons_zero, List.getElem?_cons_succ, Option.some.injEq, exists_eq_left', exists_eq_left, List.set_cons_zero, List.set_cons_succ, true_and, and_true, HO.lst.injEq, HO.tup.injEq, exists_and_left, exists_eq, exists_eq', Br.t, Br.f, Be.t, Be.f, List.cons.injEq, List.append_nil, scal, if_true, if_false, ite_true, ite_false, eq_self_iff_true, decide_true, decide_false, Bool.not_true, Bool.not_false, reduceIte, List.nil_append, List.cons_append, reduceCtorEq, false_and, exists_false, false_or, or_false, Int.reduceLT]
        exact ⟨Same.trans s2 s3, s3 _ _ h2⟩
      · rintro D H2 hD ⟨s2, h2⟩
        have sH : Same H (upd H2 p' (.dK [(k, .ref v)])) := fun a o ho => by
          by_cases e : a = p'
          · subst e
            rw [hy] at ho
            cases ho
            exact upd_same
          · rw [upd_ne e]
            exact s2 _ _ (by rw [upd_ne e]; exact ho)
        have hDp : D ≠ p' := fun z => by rw [z, upd_same] at hD; cases hD
        have D2 : upd H2 p' (.dK [(k, .ref v)]) D = some (.lst []) := by rw [upd_ne hDp]; exact h2
        refine ⟨s2 _ _ upd_same, fun p5 h5 => ?_⟩
        have h5' : upd H2 p' (.dK [(k, .ref v)]) p5 = none := h5
        generalize upd H2 p' (.dK [(k, .ref v)]) = H5 at *
        refine eq_ints (ns := []) (ms := []) (SqL.of (Same.new h5' _ _ D2)) (SqL.of upd_same) ?_
        rw [decide_eq_true rfl]
        exact q _ (Same.mut sH (Same.free sH h5'))
theorem okL__law_alike (T : Tx K mg w) (c__law_same : Cal P w K mg base 7 "_law_same" ["told", "due"] (sp__law_same K)) : Cal P w K mg base 14 "_law_alike" ["told", "due"] (sp__law_alike K) := okn__law_alike T c__law_same 6
end
end Law

namespace Law
open PySem PySem.Spec PyProof.Rows L2 Sw
section
variable {P : Program} {w : World} {K : Fg} {mg : Str → Option Value} {base : Heap}
theorem xc (T : Tx K mg w) : ∀ i, i < 15 → ExC K (He.ga K (cl.getD i ""))
  | 0, _ => T.x_NoKind
  | 1, _ => T.x_NoCounts
  | 2, _ => T.x_NoThing
  | 3, _ => T.x_NoRule
  | 4, _ => T.x_NotStraight
  | 5, _ => T.x_NoArea
  | 6, _ => T.x_NoLender
  | 7, _ => T.x_NoLetter
  | 8, _ => T.x_NoClue
  | 9, _ => T.x_Thrown
  | 10, _ => T.x_NoThings
  | 11, _ => T.x_NothingDone
  | 12, _ => T.x_NothingUndone
  | 13, _ => T.x_NoText
  | 14, _ => T.xS
  | n + 15, h => absurd h (by omega)
theorem nof (T : Tx K mg w) : ∀ i, i < 8 → PySem.W.findIn K (.ref (He.ga K (cl.getD i ""))) "found" = some none
  | 0, _ => T.a_NoKind_found
  | 1, _ => T.a_NoCounts_found
  | 2, _ => T.a_NoThing_found
  | 3, _ => T.a_NoRule_found
  | 4, _ => T.a_NotStraight_found
  | 5, _ => T.a_NoArea_found
  | 6, _ => T.a_NoLender_found
  | 7, _ => T.a_NoLetter_found
  | n + 8, h => absurd h (by omega)
theorem kt_get (T : Tx K mg w) {i j : Nat} (hi : i < 15) (hj : j < 14) : PySem.W.kitOne K (.ref (He.ga K (cl.getD i ""))) (.ref (He.ga K (cl.getD j ""))) = some (decide (i = j)) :=
  of_decide_eq_true (List.all_eq_true.mp (List.all_eq_true.mp T.kt i (List.mem_range.mpr hi)) j (List.mem_range.mpr hj))
theorem ks_get (T : Tx K mg w) {i : Nat} (hi : i < 15) : PySem.W.kitOne K (.ref (He.ga K (cl.getD i ""))) (.ref (He.ga K "SeedError")) = some true := of_decide_eq_true (List.all_eq_true.mp T.ks i (List.mem_range.mpr hi))
theorem kv_get (T : Tx K mg w) {i : Nat} (hi : i < 15) : PySem.W.kitOne K (.ref (He.ga K (cl.getD i ""))) (.type "ValueError") = some true := of_decide_eq_true (List.all_eq_true.mp T.kv i (List.mem_range.mpr hi))
theorem Xo_same {H H' : Hp} {a C : Addr} (s : Same H H') (h : Xo H a C) : Xo H' a C := by
  rcases h with h | h | ⟨dx, fs, h1, h2⟩
  · exact .inl (s _ _ h)
  · exact .inr (.inl (s _ _ h))
  · exact .inr (.inr ⟨dx, fs, s _ _ h1, s _ _ h2⟩)
theorem isV_of (T : Tx K mg w) {H : Hp} {a : Addr} {i j : Nat} {Q : VK} (hx : Xo H a (He.ga K (cl.getD i ""))) (hi : i < 15) (hj : j < 14) (q : Q (.bl (decide (i = j))) H) : rIsV K [.ref a, .ref (He.ga K (cl.getD j ""))] H Q :=
  ⟨a, _, _, _, _, rfl, .own _, xc T i hi, hx, kt_get T hi hj, q⟩
theorem ok__law_error (T : Tx K mg w)  (c_NoArea : Exn P w K mg base "NoArea" "found") (c_NoClue : Exn P w K mg base "NoClue" "at") (c_NoCounts : Exn P w K mg base "NoCounts" "found") (c_NoKind : Exn P w K mg base "NoKind" "found") (c_NoLender : Exn P w K mg base "NoLender" "found") (c_NoLetter : Exn P w K mg base "NoLetter" "found") (c_NoRule : Exn P w K mg base "NoRule" "found") (c_NoThing : Exn P w K mg base "NoThing" "found") (c_NoThings : ExnG P w K mg base 2 "NoThings" ["self"] (spIni0 (He.ga K "NoThings"))) (c_NotStraight : Exn P w K mg base "NotStraight" "found") (c_NothingDone : ExnG P w K mg base 2 "NothingDone" ["self"] (spIni0 (He.ga K "NothingDone"))) (c_NothingUndone : ExnG P w K mg base 2 "NothingUndone" ["self"] (spIni0 (He.ga K "NothingUndone"))) (c_Thrown : ExnG P w K mg base 2 "Thrown" ["self", "name", "at"] (spIni2 (He.ga K "Thrown") "name" "at")) : Cal P w K mg base 4 "_law_error" ["which", "one", "other"] (sp__law_error K) := by
  refine cal_mk T.F__law_error T.g__law_error sc__law_error (len3 _) (fun _ _ _ _ _ _ us hl => match us, hl with | [_, _, _], _ => rfl) (fun cdv A outer s H vs Q E hr h => ?_)
  obtain ⟨v0, v1, v2, rfl, h⟩ := h
  have hu := hu_of hr
  refine ⟨_, (pss_cons (ps_if (pt_cmpR op_eq (pv 0) pe_int (nomark _)) (pss_one (ps_ret (pe_mk1V c_NoKind hr (by decide) rfl (pa_cons (pv 1) pa_nil)))) pss_nil)
      (pss_cons (ps_if (pt_cmpR op_eq (pv 0) pe_int (nomark _)) (pss_one (ps_ret (pe_mk1V c_NoCounts hr (by decide) rfl (pa_cons (pv 1) pa_nil)))) pss_nil)
      (pss_cons (ps_if (pt_cmpR op_eq (pv 0) pe_int (nomark _)) (pss_one (ps_ret (pe_mk1V c_NoThing hr (by decide) rfl (pa_cons (pv 1) pa_nil)))) pss_nil)
      (pss_cons (ps_if (pt_cmpR op_eq (pv 0) pe_int (nomark _)) (pss_one (ps_ret (pe_mk1V c_NoRule hr (by decide) rfl (pa_cons (pv 1) pa_nil)))) pss_nil)
      (pss_cons (ps_if (pt_cmpR op_eq (pv 0) pe_int (nomark _)) (pss_one (ps_ret (pe_mk1V c_NotStraight hr (by decide) rfl (pa_cons (pv 1) pa_nil)))) pss_nil)
      (pss_cons (ps_if (pt_cmpR op_eq (pv 0) pe_int (nomark _)) (pss_one (ps_ret (pe_mk1V c_NoArea hr (by decide) rfl (pa_cons (pv 1) pa_nil)))) pss_nil)
      (pss_cons (ps_if (pt_cmpR op_eq (pv 0) pe_int (nomark _)) (pss_one (ps_ret (pe_mk1V c_NoLender hr (by decide) rfl (pa_cons (pv 1) pa_nil)))) pss_nil)
      (pss_cons (ps_if (pt_cmpR op_eq (pv 0) pe_int (nomark _)) (pss_one (ps_ret (pe_mk1V c_NoLetter hr (by decide) rfl (pa_cons (pv 1) pa_nil)))) pss_nil)
      (pss_cons (ps_if (pt_cmpR op_eq (pv 0) pe_int (nomark _)) (pss_one (ps_ret (pe_mk1V c_NoClue hr (by decide) rfl (pa_cons (pv 1) pa_nil)))) pss_nil)
      (pss_cons (ps_if (pt_cmpR op_eq (pv 0) pe_int (nomark _)) (pss_one (ps_ret (pe_mkG c_Thrown hr (by decide) rfl (pa_cons (pv 1) (pa_cons (pv 2) pa_nil))))) pss_nil)
      (pss_cons (ps_if (pt_cmpR op_eq (pv 0) pe_int (nomark _)) (pss_one (ps_ret (pe_mkG0 c_NoThings hr (by decide) rfl))) pss_nil)
      (pss_one (ps_ret (pe_ifExp (pt_cmpR op_eq (pv 0) pe_int (nomark _)) (pe_mkG0 c_NothingDone hr (by decide) rfl) (pe_mkG0 c_NothingUndone hr (by decide) rfl))))))))))))))), ?_⟩
  obtain ⟨i, rfl, hi, q⟩ := h
  have sm : ∀ {a d : Addr} {o u : HO}, H a = none → H d = none → Same H (upd (upd H d u) a o) := fun {a d o u} ha hd => Same.mut (Same.new hd) ha
  simp only [and_assoc, rst, rs, re, ra, rq, rx, ro, rl, rl2, rsp, rz, rix, rln, rg, rd, ri, rv, rk, rdd, rwi, at0, at1, at2, at3, upd_at, List.getElem?_cons_zero, List.getElem?_cons_succ, Option.some.injEq, exists_eq_left', exists_eq_left, List.set_cons_zero, List.set_cons_succ, true_and, and_true, HO.lst.injEq, HO.tup.injEq, exists_and_left, exists_eq, exists_eq', Br.t, Br.f, Be.t, Be.f, List.cons.injEq, List.append_nil, scal, if_true, if_false, ite_true, ite_false, eq_self_iff_true, decide_true, decide_false, Bool.not_true, Bool.not_false, reduceIte, List.nil_append, List.cons_append, reduceCtorEq, false_and, exists_false, false_or, or_false, Int.reduceLT]
  refine Br.d (fun c => ?_) fun c0 => ?_
  · obtain rfl : i = 0 := by omega
    simp only [and_assoc, rst, rs, re, ra, rq, rx, ro, rl, rl2, rsp, rz, rix, rln, rg, rd, ri, rv, rk, rdd, rwi, at0, at1, at2, at3, upd_at, List.getElem?_cons_zero, List.getElem?_cons_succ, Option.some.injEq, exists_eq_left', exists_eq_left, List.set_cons_zero, List.set_cons_succ, true_and, and_true, HO.lst.injEq, HO.tup.injEq, exists_and_left, exists_eq, exists_eq', Br.t, Br.f, Be.t, Be.f, List.cons.injEq, List.append_nil, scal, if_true, if_false, ite_true, ite_false, eq_self_iff_true, decide_true, decide_false, Bool.not_true, Bool.not_false, reduceIte, List.nil_append, List.cons_append, reduceCtorEq, false_and, exists_false, false_or, or_false, Int.reduceLT]
    exact fun a d ha hd hn => q a _ (sm ha hd) ha (.inl ⟨by decide, d, upd_same, by rw [upd_ne hn]; exact upd_same⟩)
  simp only [and_assoc, rst, rs, re, ra, rq, rx, ro, rl, rl2, rsp, rz, rix, rln, rg, rd, ri, rv, rk, rdd, rwi, at0, at1, at2, at3, upd_at, List.getElem?_cons_zero, List.getElem?_cons_succ, Option.some.injEq, exists_eq_left', exists_eq_left, List.set_cons_zero, List.set_cons_succ, true_and, and_true, HO.lst.injEq, HO.tup.injEq, exists_and_left, exists_eq, exists_eq', Br.t, Br.f, Be.t, Be.f, List.cons.injEq, List.append_nil, scal, if_true, if_false, ite_true, ite_false, eq_self_iff_true, decide_true, decide_false, Bool.not_true, Bool.not_false, reduceIte, List.nil_append, List.cons_append, reduceCtorEq, false_and, exists_false, false_or, or_false, Int.reduceLT]
  refine Br.d (fun c => ?_) fun c1 => ?_
  · obtain rfl : i = 1 := by omega
    simp only [and_assoc, rst, rs, re, ra, rq, rx, ro, rl, rl2, rsp, rz, rix, rln, rg, rd, ri, rv, rk, rdd, rwi, at0, at1, at2, at3, upd_at, List.getElem?_cons_zero, List.getElem?_cons_succ, Option.some.injEq, exists_eq_left', exists_eq_left, List.set_cons_zero, List.set_cons_succ, true_and, and_true, HO.lst.injEq, HO.tup.injEq, exists_and_left, exists_eq, exists_eq', Br.t, Br.f, Be.t, Be.f, List.cons.injEq, List.append_nil, scal, if_true, if_false, ite_true, ite_false, eq_self_iff_true, decide_true, decide_false, Bool.not_true, Bool.not_false, reduceIte, List.nil_append, List.cons_append, reduceCtorEq, false_and, exists_false, false_or, or_false, Int.reduceLT]
    exact fun a d ha hd hn => q a _ (sm ha hd) ha (.inl ⟨by decide, d, upd_same, by rw [upd_ne hn]; exact upd_same⟩)
  simp only [and_assoc, rst, rs, re, ra, rq, rx, ro, rl, rl2, rsp, rz, rix, rln, rg, rd, ri, rv, rk, rdd, rwi, at0, at1, at2, at3, upd_at, List.getElem?_cons_zero, List.getElem?_cons_succ, Option.some.injEq, exists_eq_left', exists_eq_left, List.set_cons_zero, List.set_cons_succ, true_and, and_true, HO.lst.injEq, HO.tup.injEq, exists_and_left, exists_eq, exists_eq', Br.t, Br.f, Be.t, Be.f, List.cons.injEq, List.append_nil, scal, if_true, if_false, ite_true, ite_false, eq_self_iff_true, decide_true, decide_false, Bool.not_true, Bool.not_false, reduceIte, List.nil_append, List.cons_append, reduceCtorEq, false_and, exists_false, false_or, or_false, Int.reduceLT]
  refine Br.d (fun c => ?_) fun c2 => ?_
  · obtain rfl : i = 2 := by omega
    simp only [and_assoc, rst, rs, re, ra, rq, rx, ro, rl, rl2, rsp, rz, rix, rln, rg, rd, ri, rv, rk, rdd, rwi, at0, at1, at2, at3, upd_at, List.getElem?_cons_zero, List.getElem?_cons_succ, Option.some.injEq, exists_eq_left', exists_eq_left, List.set_cons_zero, List.set_cons_succ, true_and, and_true, HO.lst.injEq, HO.tup.injEq, exists_and_left, exists_eq, exists_eq', Br.t, Br.f, Be.t, Be.f, List.cons.injEq, List.append_nil, scal, if_true, if_false, ite_true, ite_false, eq_self_iff_true, decide_true, decide_false, Bool.not_true, Bool.not_false, reduceIte, List.nil_append, List.cons_append, reduceCtorEq, false_and, exists_false, false_or, or_false, Int.reduceLT]
    exact fun a d ha hd hn => q a _ (sm ha hd) ha (.inl ⟨by decide, d, upd_same, by rw [upd_ne hn]; exact upd_same⟩)
  simp only [and_assoc, rst, rs, re, ra, rq, rx, ro, rl, rl2, rsp, rz, rix, rln, rg, rd, ri, rv, rk, rdd, rwi, at0, at1, at2, at3, upd_at, List.getElem?_cons_zero, List.getElem?_cons_succ, Option.some.injEq, exists_eq_left', exists_eq_left, List.set_cons_zero, List.set_cons_succ, true_and, and_true, HO.lst.injEq, HO.tup.injEq, exists_and_left, exists_eq, exists_eq', Br.t, Br.f, Be.t, Be.f, List.cons.injEq, List.append_nil, scal, if_true, if_false, ite_true, ite_false, eq_self_iff_true, decide_true, decide_false, Bool.not_true, Bool.not_false, reduceIte, List.nil_append, List.cons_append, reduceCtorEq, false_and, exists_false, false_or, or_false, Int.reduceLT]
  refine Br.d (fun c => ?_) fun c3 => ?_
  · obtain rfl : i = 3 := by omega
    simp only [and_assoc, rst, rs, re, ra, rq, rx, ro, rl, rl2, rsp, rz, rix, rln, rg, rd, ri, rv, rk, rdd, rwi, at0, at1, at2, at3, upd_at, List.getElem?_cons_zero, List.getElem?_cons_succ, Option.some.injEq, exists_eq_left', exists_eq_left, List.set_cons_zero, List.set_cons_succ, true_and, and_true, HO.lst.injEq, HO.tup.injEq, exists_and_left, exists_eq, exists_eq', Br.t, Br.f, Be.t, Be.f, List.cons.injEq, List.append_nil, scal, if_true, if_false, ite_true, ite_false, eq_self_iff_true, decide_true, decide_false, Bool.not_true, Bool.not_false, reduceIte, List.nil_append, List.cons_append, reduceCtorEq, false_and, exists_false, false_or, or_false, Int.reduceLT]
    exact fun a d ha hd hn => q a _ (sm ha hd) ha (.inl ⟨by decide, d, upd_same, by rw [upd_ne hn]; exact upd_same⟩)
  simp only [and_assoc, rst, rs, re, ra, rq, rx, ro, rl, rl2, rsp, rz, rix, rln, rg, rd, ri, rv, rk, rdd, rwi, at0, at1, at2, at3, upd_at, List.getElem?_cons_zero, List.getElem?_cons_succ, Option.some.injEq, exists_eq_left', exists_eq_left, List.set_cons_zero, List.set_cons_succ, true_and, and_true, HO.lst.injEq, HO.tup.injEq, exists_and_left, exists_eq, exists_eq', Br.t, Br.f, Be.t, Be.f, List.cons.injEq, List.append_nil, scal, if_true, if_false, ite_true, ite_false, eq_self_iff_true, decide_true, decide_false, Bool.not_true, Bool.not_false, reduceIte, List.nil_append, List.cons_append, reduceCtorEq, false_and, exists_false, false_or, or_false, Int.reduceLT]
  refine Br.d (fun c => ?_) fun c4 => ?_
  · obtain rfl : i = 4 := by omega
    simp only [and_assoc, rst, rs, re, ra, rq, rx, ro, rl, rl2, rsp, rz, rix, rln, rg, rd, ri, rv, rk, rdd, rwi, at0, at1, at2, at3, upd_at, List.getElem?_cons_zero, List.getElem?_cons_succ, Option.some.injEq, exists_eq_left', exists_eq_left, List.set_cons_zero, List.set_cons_succ, true_and, and_true, HO.lst.injEq, HO.tup.injEq, exists_and_left, exists_eq, exists_eq', Br.t, Br.f, Be.t, Be.f, List.cons.injEq, List.append_nil, scal, if_true, if_false, ite_true, ite_false, eq_self_iff_true, decide_true, decide_false, Bool.not_true, Bool.not_false, reduceIte, List.nil_append, List.cons_append, reduceCtorEq, false_and, exists_false, false_or, or_false, Int.reduceLT]
    exact fun a d ha hd hn => q a _ (sm ha hd) ha (.inl ⟨by decide, d, upd_same, by rw [upd_ne hn]; exact upd_same⟩)
  simp only [and_assoc, rst, rs, re, ra, rq, rx, ro, rl, rl2, rsp, rz, rix, rln, rg, rd, ri, rv, rk, rdd, rwi, at0, at1, at2, at3, upd_at, List.getElem?_cons_zero, List.getElem?_cons_succ, Option.some.injEq, exists_eq_left', exists_eq_left, List.set_cons_zero, List.set_cons_succ, true_and, and_true, HO.lst.injEq, HO.tup.injEq, exists_and_left, exists_eq, exists_eq', Br.t, Br.f, Be.t, Be.f, List.cons.injEq, List.append_nil, scal, if_true, if_false, ite_true, ite_false, eq_self_iff_true, decide_true, decide_false, Bool.not_true, Bool.not_false, reduceIte, List.nil_append, List.cons_append, reduceCtorEq, false_and, exists_false, false_or, or_false, Int.reduceLT]
  refine Br.d (fun c => ?_) fun c5 => ?_
  · obtain rfl : i = 5 := by omega
    simp only [and_assoc, rst, rs, re, ra, rq, rx, ro, rl, rl2, rsp, rz, rix, rln, rg, rd, ri, rv, rk, rdd, rwi, at0, at1, at2, at3, upd_at, List.getElem?_cons_zero, List.getElem?_cons_succ, Option.some.injEq, exists_eq_left', exists_eq_left, List.set_cons_zero, List.set_cons_succ, true_and, and_true, HO.lst.injEq, HO.tup.injEq, exists_and_left, exists_eq, exists_eq', Br.t, Br.f, Be.t, Be.f, List.cons.injEq, List.append_nil, scal, if_true, if_false, ite_true, ite_false, eq_self_iff_true, decide_true, decide_false, Bool.not_true, Bool.not_false, reduceIte, List.nil_append, List.cons_append, reduceCtorEq, false_and, exists_false, false_or, or_false, Int.reduceLT]
    exact fun a d ha hd hn => q a _ (sm ha hd) ha (.inl ⟨by decide, d, upd_same, by rw [upd_ne hn]; exact upd_same⟩)
  simp only [and_assoc, rst, rs, re, ra, rq, rx, ro, rl, rl2, rsp, rz, rix, rln, rg, rd, ri, rv, rk, rdd, rwi, at0, at1, at2, at3, upd_at, List.getElem?_cons_zero, List.getElem?_cons_succ, Option.some.injEq, exists_eq_left', exists_eq_left, List.set_cons_zero, List.set_cons_succ, true_and, and_true, HO.lst.injEq, HO.tup.injEq, exists_and_left, exists_eq, exists_eq', Br.t, Br.f, Be.t, Be.f, List.cons.injEq, List.append_nil, scal, if_true, if_false, ite_true, ite_false, eq_self_iff_true, decide_true, decide_false, Bool.not_true, Bool.not_false, reduceIte, List.nil_append, List.cons_append, reduceCtorEq, false_and, exists_false, false_or, or_false, Int.reduceLT]
  refine Br.d (fun c => ?_) fun c6 => ?_
  · obtain rfl : i = 6 := by omega
    simp only [and_assoc, rst, rs, re, ra, rq, rx, ro, rl, rl2, rsp, rz, rix, rln, rg, rd, ri, rv, rk, rdd, rwi, at0, at1, at2, at3, upd_at, List.getElem?_cons_zero, List.getElem?_cons_succ, Option.some.injEq, exists_eq_left', exists_eq_left, List.set_cons_zero, List.set_cons_succ, true_and, and_true, HO.lst.injEq, HO.tup.injEq, exists_and_left, exists_eq, exists_eq', Br.t, Br.f, Be.t, Be.f, List.cons.injEq, List.append_nil, scal, if_true, if_false, ite_true, ite_false, eq_self_iff_true, decide_true, decide_false, Bool.not_true, Bool.not_false, reduceIte, List.nil_append, List.cons_append, reduceCtorEq, false_and, exists_false, false_or, or_false, Int.reduceLT]
    exact fun a d ha hd hn => q a _ (sm ha hd) ha (.inl ⟨by decide, d, upd_same, by rw [upd_ne hn]; exact upd_same⟩)
  simp only [and_assoc, rst, rs, re, ra, rq, rx, ro, rl, rl2, rsp, rz, rix, rln, rg, rd, ri, rv, rk, rdd, rwi, at0, at1, at2, at3, upd_at, List.getElem?_cons_zero, List.getElem?_cons_succ, Option.some.injEq, exists_eq_left', exists_eq_left, List.set_cons_zero, List.set_cons_succ, true_and, and_true, HO.lst.injEq, HO.tup.injEq, exists_and_left, exists_eq, exists_eq', Br.t, Br.f, Be.t, Be.f, List.cons.injEq, List.append_nil, scal, if_true, if_false, ite_true, ite_false, eq_self_iff_true, decide_true, decide_false, Bool.not_true, Bool.not_false, reduceIte, List.nil_append, List.cons_append, reduceCtorEq, false_and, exists_false, false_or, or_false, Int.reduceLT]
  refine Br.d (fun c => ?_) fun c7 => ?_
  · obtain rfl : i = 7 := by omega
    simp only [and_assoc, rst, rs, re, ra, rq, rx, ro, rl, rl2, rsp, rz, rix, rln, rg, rd, ri, rv, rk, rdd, rwi, at0, at1, at2, at3, upd_at, List.getElem?_cons_zero, List.getElem?_cons_succ, Option.some.injEq, exists_eq_left', exists_eq_left, List.set_cons_zero, List.set_cons_succ, true_and, and_true, HO.lst.injEq, HO.tup.injEq, exists_and_left, exists_eq, exists_eq', Br.t, Br.f, Be.t, Be.f, List.cons.injEq, List.append_nil, scal, if_true, if_false, ite_true, ite_false, eq_self_iff_true, decide_true, decide_false, Bool.not_true, Bool.not_false, reduceIte, List.nil_append, List.cons_append, reduceCtorEq, false_and, exists_false, false_or, or_false, Int.reduceLT]
    exact fun a d ha hd hn => q a _ (sm ha hd) ha (.inl ⟨by decide, d, upd_same, by rw [upd_ne hn]; exact upd_same⟩)
  simp only [and_assoc, rst, rs, re, ra, rq, rx, ro, rl, rl2, rsp, rz, rix, rln, rg, rd, ri, rv, rk, rdd, rwi, at0, at1, at2, at3, upd_at, List.getElem?_cons_zero, List.getElem?_cons_succ, Option.some.injEq, exists_eq_left', exists_eq_left, List.set_cons_zero, List.set_cons_succ, true_and, and_true, HO.lst.injEq, HO.tup.injEq, exists_and_left, exists_eq, exists_eq', Br.t, Br.f, Be.t, Be.f, List.cons.injEq, List.append_nil, scal, if_true, if_false, ite_true, ite_false, eq_self_iff_true, decide_true, decide_false, Bool.not_true, Bool.not_false, reduceIte, List.nil_append, List.cons_append, reduceCtorEq, false_and, exists_false, false_or, or_false, Int.reduceLT]
  refine Br.d (fun c => ?_) fun c8 => ?_
  · obtain rfl : i = 8 := by omega
    simp only [and_assoc, rst, rs, re, ra, rq, rx, ro, rl, rl2, rsp, rz, rix, rln, rg, rd, ri, rv, rk, rdd, rwi, at0, at1, at2, at3, upd_at, List.getElem?_cons_zero, List.getElem?_cons_succ, Option.some.injEq, exists_eq_left', exists_eq_left, List.set_cons_zero, List.set_cons_succ, true_and, and_true, HO.lst.injEq, HO.tup.injEq, exists_and_left, exists_eq, exists_eq', Br.t, Br.f, Be.t, Be.f, List.cons.injEq, List.append_nil, scal, if_true, if_false, ite_true, ite_false, eq_self_iff_true, decide_true, decide_false, Bool.not_true, Bool.not_false, reduceIte, List.nil_append, List.cons_append, reduceCtorEq, false_and, exists_false, false_or, or_false, Int.reduceLT]
    exact fun a d ha hd hn => q a _ (sm ha hd) ha (.inr (.inl ⟨rfl, d, upd_same, by rw [upd_ne hn]; exact upd_same⟩))
  simp only [and_assoc, rst, rs, re, ra, rq, rx, ro, rl, rl2, rsp, rz, rix, rln, rg, rd, ri, rv, rk, rdd, rwi, at0, at1, at2, at3, upd_at, List.getElem?_cons_zero, List.getElem?_cons_succ, Option.some.injEq, exists_eq_left', exists_eq_left, List.set_cons_zero, List.set_cons_succ, true_and, and_true, HO.lst.injEq, HO.tup.injEq, exists_and_left, exists_eq, exists_eq', Br.t, Br.f, Be.t, Be.f, List.cons.injEq, List.append_nil, scal, if_true, if_false, ite_true, ite_false, eq_self_iff_true, decide_true, decide_false, Bool.not_true, Bool.not_false, reduceIte, List.nil_append, List.cons_append, reduceCtorEq, false_and, exists_false, false_or, or_false, Int.reduceLT]
  refine Br.d (fun c => ?_) fun c9 => ?_
  · obtain rfl : i = 9 := by omega
    simp only [and_assoc, rst, rs, re, ra, rq, rx, ro, rl, rl2, rsp, rz, rix, rln, rg, rd, ri, rv, rk, rdd, rwi, at0, at1, at2, at3, upd_at, List.getElem?_cons_zero, List.getElem?_cons_succ, Option.some.injEq, exists_eq_left', exists_eq_left, List.set_cons_zero, List.set_cons_succ, true_and, and_true, HO.lst.injEq, HO.tup.injEq, exists_and_left, exists_eq, exists_eq', Br.t, Br.f, Be.t, Be.f, List.cons.injEq, List.append_nil, scal, if_true, if_false, ite_true, ite_false, eq_self_iff_true, decide_true, decide_false, Bool.not_true, Bool.not_false, reduceIte, List.nil_append, List.cons_append, reduceCtorEq, false_and, exists_false, false_or, or_false, Int.reduceLT]
    refine ⟨(by show 2 ≤ 1000; decide), fun a ha => ⟨a, v1, v2, rfl, upd_same, fun d hd hn => ⟨rfl, q a _ (Same.mut (Same.mut (Same.new ha) ?_) ha) ha (.inr (.inr (.inl ⟨rfl, d, upd_same, by rw [upd_ne hn]; exact upd_same⟩)))⟩⟩⟩
    rw [upd_ne hn] at hd
    exact hd
  simp only [and_assoc, rst, rs, re, ra, rq, rx, ro, rl, rl2, rsp, rz, rix, rln, rg, rd, ri, rv, rk, rdd, rwi, at0, at1, at2, at3, upd_at, List.getElem?_cons_zero, List.getElem?_cons_succ, Option.some.injEq, exists_eq_left', exists_eq_left, List.set_cons_zero, List.set_cons_succ, true_and, and_true, HO.lst.injEq, HO.tup.injEq, exists_and_left, exists_eq, exists_eq', Br.t, Br.f, Be.t, Be.f, List.cons.injEq, List.append_nil, scal, if_true, if_false, ite_true, ite_false, eq_self_iff_true, decide_true, decide_false, Bool.not_true, Bool.not_false, reduceIte, List.nil_append, List.cons_append, reduceCtorEq, false_and, exists_false, false_or, or_false, Int.reduceLT]
  refine Br.d (fun c => ?_) fun c10 => ?_
  · obtain rfl : i = 10 := by omega
    simp only [and_assoc, rst, rs, re, ra, rq, rx, ro, rl, rl2, rsp, rz, rix, rln, rg, rd, ri, rv, rk, rdd, rwi, at0, at1, at2, at3, upd_at, List.getElem?_cons_zero, List.getElem?_cons_succ, Option.some.injEq, exists_eq_left', exists_eq_left, List.set_cons_zero, List.set_cons_succ, true_and, and_true, HO.lst.injEq, HO.tup.injEq, exists_and_left, exists_eq, exists_eq', Br.t, Br.f, Be.t, Be.f, List.cons.injEq, List.append_nil, scal, if_true, if_false, ite_true, ite_false, eq_self_iff_true, decide_true, decide_false, Bool.not_true, Bool.not_false, reduceIte, List.nil_append, List.cons_append, reduceCtorEq, false_and, exists_false, false_or, or_false, Int.reduceLT]
    exact ⟨(by show 0 ≤ 1000; decide), fun a ha => ⟨a, rfl, upd_same, rfl, q a _ (Same.new ha) ha (.inr (.inr (.inr ⟨by decide, by decide, upd_same⟩)))⟩⟩
  simp only [and_assoc, rst, rs, re, ra, rq, rx, ro, rl, rl2, rsp, rz, rix, rln, rg, rd, ri, rv, rk, rdd, rwi, at0, at1, at2, at3, upd_at, List.getElem?_cons_zero, List.getElem?_cons_succ, Option.some.injEq, exists_eq_left', exists_eq_left, List.set_cons_zero, List.set_cons_succ, true_and, and_true, HO.lst.injEq, HO.tup.injEq, exists_and_left, exists_eq, exists_eq', Br.t, Br.f, Be.t, Be.f, List.cons.injEq, List.append_nil, scal, if_true, if_false, ite_true, ite_false, eq_self_iff_true, decide_true, decide_false, Bool.not_true, Bool.not_false, reduceIte, List.nil_append, List.cons_append, reduceCtorEq, false_and, exists_false, false_or, or_false, Int.reduceLT]
  refine Be.d (fun c => ?_) fun c11 => ?_
  · obtain rfl : i = 11 := by omega
    exact ⟨(by show 0 ≤ 1000; decide), fun a ha => ⟨a, rfl, upd_same, rfl, q a _ (Same.new ha) ha (.inr (.inr (.inr ⟨by decide, by decide, upd_same⟩)))⟩⟩
  · obtain rfl : i = 12 := by omega
    exact ⟨(by show 0 ≤ 1000; decide), fun a ha => ⟨a, rfl, upd_same, rfl, q a _ (Same.new ha) ha (.inr (.inr (.inr ⟨by decide, by decide, upd_same⟩)))⟩⟩
theorem ok__law_fields (T : Tx K mg w)   : Cal P w K mg base 1 "_law_fields" ["which", "error"] (sp__law_fields K) := by
  refine cal_mk T.F__law_fields T.g__law_fields sc__law_fields (len2 _) (fun _ _ _ _ _ _ us hl => match us, hl with | [_, _], _ => rfl) (fun cdv A outer s H vs Q E hr h => ?_)
  obtain ⟨v0, v1, rfl, h⟩ := h
  have hu := hu_of hr
  refine ⟨_, (pss_cons (ps_if (pt_cmpR op_lt (pv 0) pe_int (nomark _)) (pss_one (ps_ret (pe_lst (pa_cons (pe_xfV (pv 1)) pa_nil)))) pss_nil)
      (pss_cons (ps_if (pt_cmpR op_eq (pv 0) pe_int (nomark _)) (pss_one (ps_ret (pe_lst (pa_cons (pe_xfV (pv 1)) pa_nil)))) pss_nil)
      (pss_one (ps_ret (pe_ifExp (pt_cmpR op_eq (pv 0) pe_int (nomark _)) (pe_lst (pa_cons (pe_xfV (pv 1)) (pa_cons (pe_xfV (pv 1)) pa_nil))) (pe_lst pa_nil)))))), ?_⟩
  obtain ⟨i, a, x, y, rfl, rfl, he, q⟩ := h
  simp only [and_assoc, rst, rs, re, ra, rq, rx, ro, rl, rl2, rsp, rz, rix, rln, rg, rd, ri, rv, rk, rdd, rwi, at0, at1, at2, at3, upd_at, List.getElem?_cons_zero, List.getElem?_cons_succ, Option.some.injEq, exists_eq_left', exists_eq_left, List.set_cons_zero, List.set_cons_succ, true_and, and_true, HO.lst.injEq, HO.tup.injEq, exists_and_left, exists_eq, exists_eq', Br.t, Br.f, Be.t, Be.f, List.cons.injEq, List.append_nil, scal, if_true, if_false, ite_true, ite_false, eq_self_iff_true, decide_true, decide_false, Bool.not_true, Bool.not_false, reduceIte, List.nil_append, List.cons_append, reduceCtorEq, false_and, exists_false, false_or, or_false, Int.reduceLT]
  refine Br.d (fun c => ?_) fun c8 => ?_
  · rcases he with ⟨h1, dx, ha, hd⟩ | ⟨h1, _⟩ | ⟨h1, _⟩ | ⟨h1, _⟩
    · simp only [and_assoc, rst, rs, re, ra, rq, rx, ro, rl, rl2, rsp, rz, rix, rln, rg, rd, ri, rv, rk, rdd, rwi, at0, at1, at2, at3, upd_at, List.getElem?_cons_zero, List.getElem?_cons_succ, Option.some.injEq, exists_eq_left', exists_eq_left, List.set_cons_zero, List.set_cons_succ, true_and, and_true, HO.lst.injEq, HO.tup.injEq, exists_and_left, exists_eq, exists_eq', Br.t, Br.f, Be.t, Be.f, List.cons.injEq, List.append_nil, scal, if_true, if_false, ite_true, ite_false, eq_self_iff_true, decide_true, decide_false, Bool.not_true, Bool.not_false, reduceIte, List.nil_append, List.cons_append, reduceCtorEq, false_and, exists_false, false_or, or_false, Int.reduceLT, ha]
      refine ⟨_, xc T i (by omega), nof T i h1, _, rfl, _, hd, x, rfl, fun p hp => q p _ (Same.new hp) hp ?_⟩
      rw [upd_same, fieldsOf, if_pos (by omega)]
    all_goals omega
  simp only [and_assoc, rst, rs, re, ra, rq, rx, ro, rl, rl2, rsp, rz, rix, rln, rg, rd, ri, rv, rk, rdd, rwi, at0, at1, at2, at3, upd_at, List.getElem?_cons_zero, List.getElem?_cons_succ, Option.some.injEq, exists_eq_left', exists_eq_left, List.set_cons_zero, List.set_cons_succ, true_and, and_true, HO.lst.injEq, HO.tup.injEq, exists_and_left, exists_eq, exists_eq', Br.t, Br.f, Be.t, Be.f, List.cons.injEq, List.append_nil, scal, if_true, if_false, ite_true, ite_false, eq_self_iff_true, decide_true, decide_false, Bool.not_true, Bool.not_false, reduceIte, List.nil_append, List.cons_append, reduceCtorEq, false_and, exists_false, false_or, or_false, Int.reduceLT]
  refine Br.d (fun c => ?_) fun c9 => ?_
  · rcases he with ⟨h1, _⟩ | ⟨h1, dx, ha, hd⟩ | ⟨h1, _⟩ | ⟨h1, _⟩
    · omega
    · simp only [and_assoc, rst, rs, re, ra, rq, rx, ro, rl, rl2, rsp, rz, rix, rln, rg, rd, ri, rv, rk, rdd, rwi, at0, at1, at2, at3, upd_at, List.getElem?_cons_zero, List.getElem?_cons_succ, Option.some.injEq, exists_eq_left', exists_eq_left, List.set_cons_zero, List.set_cons_succ, true_and, and_true, HO.lst.injEq, HO.tup.injEq, exists_and_left, exists_eq, exists_eq', Br.t, Br.f, Be.t, Be.f, List.cons.injEq, List.append_nil, scal, if_true, if_false, ite_true, ite_false, eq_self_iff_true, decide_true, decide_false, Bool.not_true, Bool.not_false, reduceIte, List.nil_append, List.cons_append, reduceCtorEq, false_and, exists_false, false_or, or_false, Int.reduceLT, ha]
      refine ⟨_, T.x_NoClue, T.a_NoClue_at, _, rfl, _, hd, x, rfl, fun p hp => q p _ (Same.new hp) hp ?_⟩
      rw [upd_same, fieldsOf, if_pos (by omega)]
    all_goals omega
  simp only [and_assoc, rst, rs, re, ra, rq, rx, ro, rl, rl2, rsp, rz, rix, rln, rg, rd, ri, rv, rk, rdd, rwi, at0, at1, at2, at3, upd_at, List.getElem?_cons_zero, List.getElem?_cons_succ, Option.some.injEq, exists_eq_left', exists_eq_left, List.set_cons_zero, List.set_cons_succ, true_and, and_true, HO.lst.injEq, HO.tup.injEq, exists_and_left, exists_eq, exists_eq', Br.t, Br.f, Be.t, Be.f, List.cons.injEq, List.append_nil, scal, if_true, if_false, ite_true, ite_false, eq_self_iff_true, decide_true, decide_false, Bool.not_true, Bool.not_false, reduceIte, List.nil_append, List.cons_append, reduceCtorEq, false_and, exists_false, false_or, or_false, Int.reduceLT]
  refine Be.d (fun c => ?_) fun c10 => ?_
  · rcases he with ⟨h1, _⟩ | ⟨h1, _⟩ | ⟨h1, dx, ha, hd⟩ | ⟨h1, _⟩
    · omega
    · omega
    · simp only [and_assoc, rst, rs, re, ra, rq, rx, ro, rl, rl2, rsp, rz, rix, rln, rg, rd, ri, rv, rk, rdd, rwi, at0, at1, at2, at3, upd_at, List.getElem?_cons_zero, List.getElem?_cons_succ, Option.some.injEq, exists_eq_left', exists_eq_left, List.set_cons_zero, List.set_cons_succ, true_and, and_true, HO.lst.injEq, HO.tup.injEq, exists_and_left, exists_eq, exists_eq', Br.t, Br.f, Be.t, Be.f, List.cons.injEq, List.append_nil, scal, if_true, if_false, ite_true, ite_false, eq_self_iff_true, decide_true, decide_false, Bool.not_true, Bool.not_false, reduceIte, List.nil_append, List.cons_append, reduceCtorEq, false_and, exists_false, false_or, or_false, Int.reduceLT, ha]
      refine ⟨_, T.x_Thrown, T.a_Thrown_name, _, rfl, _, hd, x, rfl, _, T.x_Thrown, T.a_Thrown_at, _, rfl, _, hd, y, rfl, fun p hp => q p _ (Same.new hp) hp ?_⟩
      rw [upd_same, fieldsOf, if_neg (by omega), if_pos h1]
    · omega
  · refine fun p hp => q p _ (Same.new hp) hp ?_
    rw [upd_same, fieldsOf, if_neg (by omega), if_neg (by omega)]
theorem ok__law_classes (T : Tx K mg w)   : Cal P w K mg base 1 "_law_classes" ["error"] (sp__law_classes K) := by
  refine cal_mk T.F__law_classes T.g__law_classes sc__law_classes (len1 _) (fun _ _ _ _ _ _ us hl => match us, hl with | [_], _ => rfl) (fun cdv A outer s H vs Q E hr h => ?_)
  obtain ⟨v0, rfl, h⟩ := h
  have hu := hu_of hr
  refine ⟨_, (pss_cons (ps_set (i := 1) sc__law_classes.nd rfl (Or.inl rfl) (pe_lst (pa_cons (pe_callB is_qv (by rfl) T.n_isinstance (by decide +kernel) (pa_cons (pv 0) (pa_cons (pe_glob (v := .ref (He.ga K "NoKind")) rfl T.g_NoKind rfl) pa_nil))) (pa_cons (pe_callB is_qv (by rfl) T.n_isinstance (by decide +kernel) (pa_cons (pv 0) (pa_cons (pe_glob (v := .ref (He.ga K "NoCounts")) rfl T.g_NoCounts rfl) pa_nil))) (pa_cons (pe_callB is_qv (by rfl) T.n_isinstance (by decide +kernel) (pa_cons (pv 0) (pa_cons (pe_glob (v := .ref (He.ga K "NoThing")) rfl T.g_NoThing rfl) pa_nil))) (pa_cons (pe_callB is_qv (by rfl) T.n_isinstance (by decide +kernel) (pa_cons (pv 0) (pa_cons (pe_glob (v := .ref (He.ga K "NoRule")) rfl T.g_NoRule rfl) pa_nil))) (pa_cons (pe_callB is_qv (by rfl) T.n_isinstance (by decide +kernel) (pa_cons (pv 0) (pa_cons (pe_glob (v := .ref (He.ga K "NotStraight")) rfl T.g_NotStraight rfl) pa_nil))) pa_nil)))))))
      (pss_cons (ps_set (i := 2) sc__law_classes.nd rfl (Or.inl rfl) (pe_lst (pa_cons (pe_callB is_qv (by rfl) T.n_isinstance (by decide +kernel) (pa_cons (pv 0) (pa_cons (pe_glob (v := .ref (He.ga K "NoArea")) rfl T.g_NoArea rfl) pa_nil))) (pa_cons (pe_callB is_qv (by rfl) T.n_isinstance (by decide +kernel) (pa_cons (pv 0) (pa_cons (pe_glob (v := .ref (He.ga K "NoLender")) rfl T.g_NoLender rfl) pa_nil))) (pa_cons (pe_callB is_qv (by rfl) T.n_isinstance (by decide +kernel) (pa_cons (pv 0) (pa_cons (pe_glob (v := .ref (He.ga K "NoLetter")) rfl T.g_NoLetter rfl) pa_nil))) (pa_cons (pe_callB is_qv (by rfl) T.n_isinstance (by decide +kernel) (pa_cons (pv 0) (pa_cons (pe_glob (v := .ref (He.ga K "NoClue")) rfl T.g_NoClue rfl) pa_nil))) (pa_cons (pe_callB is_qv (by rfl) T.n_isinstance (by decide +kernel) (pa_cons (pv 0) (pa_cons (pe_glob (v := .ref (He.ga K "Thrown")) rfl T.g_Thrown rfl) pa_nil))) pa_nil)))))))
      (pss_cons (ps_set (i := 3) sc__law_classes.nd rfl (Or.inl rfl) (pe_lst (pa_cons (pe_callB is_qv (by rfl) T.n_isinstance (by decide +kernel) (pa_cons (pv 0) (pa_cons (pe_glob (v := .ref (He.ga K "NoThings")) rfl T.g_NoThings rfl) pa_nil))) (pa_cons (pe_callB is_qv (by rfl) T.n_isinstance (by decide +kernel) (pa_cons (pv 0) (pa_cons (pe_glob (v := .ref (He.ga K "NothingDone")) rfl T.g_NothingDone rfl) pa_nil))) (pa_cons (pe_callB is_qv (by rfl) T.n_isinstance (by decide +kernel) (pa_cons (pv 0) (pa_cons (pe_glob (v := .ref (He.ga K "NothingUndone")) rfl T.g_NothingUndone rfl) pa_nil))) (pa_cons (pe_callB is_qv (by rfl) T.n_isinstance (by decide +kernel) (pa_cons (pv 0) (pa_cons (pe_glob (v := .ref (He.ga K "NoText")) rfl T.g_NoText rfl) pa_nil))) pa_nil))))))
      (pss_one (ps_ret (pe_op op_cat (pe_op op_cat (pv 1) (pv 2)) (pv 3))))))), ?_⟩
  obtain ⟨a, i, rfl, hi, hx, q⟩ := h
  simp only [and_assoc, rst, rs, re, ra, rq, rx, ro, rl, rl2, rsp, rz, rix, rln, rg, rd, ri, rv, rk, rdd, rwi, at0, at1, at2, at3, upd_at, List.getElem?_cons_zero, List.getElem?_cons_succ, Option.some.injEq, exists_eq_left', exists_eq_left, List.set_cons_zero, List.set_cons_succ, true_and, and_true, HO.lst.injEq, HO.tup.injEq, exists_and_left, exists_eq, exists_eq', Br.t, Br.f, Be.t, Be.f, List.cons.injEq, List.append_nil, scal, if_true, if_false, ite_true, ite_false, eq_self_iff_true, decide_true, decide_false, Bool.not_true, Bool.not_false, reduceIte, List.nil_append, List.cons_append, reduceCtorEq, false_and, exists_false, false_or, or_false, Int.reduceLT]
  refine isV_of T hx hi (j := 0) (by decide) ?_
  refine isV_of T hx hi (j := 1) (by decide) ?_
  refine isV_of T hx hi (j := 2) (by decide) ?_
  refine isV_of T hx hi (j := 3) (by decide) ?_
  refine isV_of T hx hi (j := 4) (by decide) ?_
  refine fun p1 h1 => ?_
  have s1 := Same.new (o := .lst [.bl (decide (i = 0)), .bl (decide (i = 1)), .bl (decide (i = 2)), .bl (decide (i = 3)), .bl (decide (i = 4))]) h1
  have hx1 := Xo_same s1 hx
  refine isV_of T hx1 hi (j := 5) (by decide) ?_
  refine isV_of T hx1 hi (j := 6) (by decide) ?_
  refine isV_of T hx1 hi (j := 7) (by decide) ?_
  refine isV_of T hx1 hi (j := 8) (by decide) ?_
  refine isV_of T hx1 hi (j := 9) (by decide) ?_
  refine fun p2 h2 => ?_
  have s2 := Same.new (o := .lst [.bl (decide (i = 5)), .bl (decide (i = 6)), .bl (decide (i = 7)), .bl (decide (i = 8)), .bl (decide (i = 9))]) h2
  have hx2 := Xo_same s2 hx1
  refine isV_of T hx2 hi (j := 10) (by decide) ?_
  refine isV_of T hx2 hi (j := 11) (by decide) ?_
  refine isV_of T hx2 hi (j := 12) (by decide) ?_
  refine isV_of T hx2 hi (j := 13) (by decide) ?_
  refine fun p3 h3 => ?_
  have s3 := Same.new (o := .lst [.bl (decide (i = 10)), .bl (decide (i = 11)), .bl (decide (i = 12)), .bl (decide (i = 13))]) h3
  have a1 := s3 _ _ (s2 _ _ (show upd H p1 _ p1 = some _ from upd_same))
  have a2 := s3 _ _ (show upd _ p2 _ p2 = some _ from upd_same)
  have a3 : upd (upd (upd H p1 (.lst [.bl (decide (i = 0)), .bl (decide (i = 1)), .bl (decide (i = 2)), .bl (decide (i = 3)), .bl (decide (i = 4))])) p2 (.lst [.bl (decide (i = 5)), .bl (decide (i = 6)), .bl (decide (i = 7)), .bl (decide (i = 8)), .bl (decide (i = 9))])) p3 (.lst [.bl (decide (i = 10)), .bl (decide (i = 11)), .bl (decide (i = 12)), .bl (decide (i = 13))]) p3 = some _ := upd_same
  have s0 := Same.trans (Same.trans s1 s2) s3
  generalize upd (upd (upd H p1 (.lst [.bl (decide (i = 0)), .bl (decide (i = 1)), .bl (decide (i = 2)), .bl (decide (i = 3)), .bl (decide (i = 4))])) p2 (.lst [.bl (decide (i = 5)), .bl (decide (i = 6)), .bl (decide (i = 7)), .bl (decide (i = 8)), .bl (decide (i = 9))])) p3 (.lst [.bl (decide (i = 10)), .bl (decide (i = 11)), .bl (decide (i = 12)), .bl (decide (i = 13))]) = H3 at *
  refine ⟨p1, p2, _, _, rfl, rfl, a1, a2, by rw [sizeLine_eq]; exact (by decide : 5 + 5 ≤ 16777216), fun p4 h4 => ⟨p4, p3, _, _, rfl, rfl, upd_same, Same.new h4 _ _ a3, by rw [sizeLine_eq]; exact (by decide : 10 + 4 ≤ 16777216), fun p5 h5 => ?_⟩⟩
  exact q p5 _ (Same.trans (Same.trans s0 (Same.new h4)) (Same.new h5)) (Same.free (Same.trans s0 (Same.new h4)) h5) (by rw [upd_same]; rfl)
end
end Law

namespace Law
open PySem PySem.Spec PyProof.Rows L2 Sw
theorem dpBs {K : Fg} {H : Hp} : ∀ l : List Bool, DpAll K H (l.map V.bl) (l.map PyData.bool)
  | [] => .nil
  | b :: r => .cons (.bl b) (dpBs r)
theorem layBs : ∀ l : List Bool, PyData.canLayAll0 (l.map PyData.bool) = true
  | [] => rfl
  | n :: r => by
    show (PyData.canLay0 (.bool n) && PyData.canLayAll0 (r.map PyData.bool)) = true
    rw [layBs r, Bool.and_true]
    rfl
theorem depBs : ∀ l : List Bool, PyData.depthAll (l.map PyData.bool) ≤ 1
  | [] => by show 0 ≤ 1; decide
  | n :: r => by
    have h := depBs r
    simp only [List.map_cons, PyData.depthAll, PyData.depth]
    omega
theorem shapeBs {l : List Bool} : SeqAt.shaped (.list (l.map PyData.bool)) = true := by
  have h := depBs l
  have h2 := layBs l
  simp only [SeqAt.shaped, PyData.canLay0, PyData.depth, Bool.and_eq_true, decide_eq_true_eq]
  exact ⟨h2, decide_eq_true (by omega)⟩
theorem ne_bls {K : Fg} {H : Hp} {p q : Addr} {l : List Bool} (hp : SqL K H p (l.map V.bl)) (hq : SqL K H q (l.map V.bl)) {Q : VK} (k : Q (.bl false) H) : rNeD K (.ref p) (.ref q) H Q := by
  refine ⟨_, _, .lst hp (dpBs l), .lst hq (dpBs l), shapeBs, shapeBs, ?_⟩
  rw [SeqAt.eqv_refl _ (SeqAt.canLay_of_shaped shapeBs)]
  exact k
theorem eq_bls {K : Fg} {H : Hp} {p q : Addr} {l : List Bool} (hp : SqL K H p (l.map V.bl)) (hq : SqL K H q (l.map V.bl)) {Q : VK} (k : Q (.bl true) H) : rEqD K (.ref p) (.ref q) H Q := by
  refine ⟨_, _, .lst hp (dpBs l), .lst hq (dpBs l), shapeBs, shapeBs, ?_⟩
  rw [SeqAt.eqv_refl _ (SeqAt.canLay_of_shaped shapeBs)]
  exact k
theorem ErrAt.xo {K : Fg} {H : Hp} {a : Addr} {i : Nat} {x y : V} (h : ErrAt K H a i x y) : Xo H a (He.ga K (cl.getD i "")) := by
  rcases h with ⟨_, dx, h1, h2⟩ | ⟨e, dx, h1, h2⟩ | ⟨e, dx, h1, h2⟩ | ⟨_, _, h⟩
  · exact .inr (.inr ⟨dx, _, h1, h2⟩)
  · subst e
    exact .inr (.inr ⟨dx, _, h1, h2⟩)
  · subst e
    exact .inr (.inr ⟨dx, _, h1, h2⟩)
  · exact .inl h
theorem ErrAt.same {K : Fg} {H H' : Hp} {a : Addr} {i : Nat} {x y : V} (h : ErrAt K H a i x y) (s : Same H H') : ErrAt K H' a i x y := by
  rcases h with ⟨e, dx, h1, h2⟩ | ⟨e, dx, h1, h2⟩ | ⟨e, dx, h1, h2⟩ | ⟨e, e2, h⟩
  · exact .inl ⟨e, dx, s _ _ h1, s _ _ h2⟩
  · exact .inr (.inl ⟨e, dx, s _ _ h1, s _ _ h2⟩)
  · exact .inr (.inr (.inl ⟨e, dx, s _ _ h1, s _ _ h2⟩))
  · exact .inr (.inr (.inr ⟨e, e2, s _ _ h⟩))
theorem exo_lst {e C : Addr} {d : Option Addr} {xs : List V} : exo e C d ≠ .lst xs := fun z => by
  unfold exo at z
  cases z
theorem exd_lst {e : Addr} {d : List (Str × V)} {xs : List V} : exd e d ≠ .lst xs := fun z => by
  unfold exd at z
  cases z
theorem ErrAt.put {K : Fg} {H : Hp} {a q : Addr} {i : Nat} {x y : V} {xs : List V} {o : HO} (h : ErrAt K H a i x y) (hq : H q = some (.lst xs)) : ErrAt K (upd H q o) a i x y := by
  have f1 : ∀ {C d}, H a = some (exo a C d) → upd H q o a = some (exo a C d) := fun {C d} e => by
    rw [upd_ne fun z => by rw [z, hq] at e; exact exo_lst (Option.some.inj e).symm]
    exact e
  have f2 : ∀ {dx d}, H dx = some (exd dx d) → upd H q o dx = some (exd dx d) := fun {dx d} e => by
    rw [upd_ne fun z => by rw [z, hq] at e; exact exd_lst (Option.some.inj e).symm]
    exact e
  rcases h with ⟨e, dx, h1, h2⟩ | ⟨e, dx, h1, h2⟩ | ⟨e, dx, h1, h2⟩ | ⟨e, e2, h⟩
  · exact .inl ⟨e, dx, f1 h1, f2 h2⟩
  · exact .inr (.inl ⟨e, dx, f1 h1, f2 h2⟩)
  · exact .inr (.inr (.inl ⟨e, dx, f1 h1, f2 h2⟩))
  · exact .inr (.inr (.inr ⟨e, e2, f1 h⟩))
theorem Bx.same {H H' : Hp} {p : Addr} {n : Nat} (h : Bx H p n) (s : Same H H') : Bx H' p n := by
  obtain ⟨x0, x2, x3, b, z, zz⟩ := h
  exact ⟨x0, x2, x3, b, s _ _ z, zz⟩
theorem Thing.same {H H' : Hp} {a b : V} (h : Thing H a b) (s : Same H H') : Thing H' a b := by
  rcases h with h | ⟨q, e1, e2, h⟩ | ⟨q, u, e1, e2, h1, h2⟩ | ⟨q, r, u, v, e1, e2, h1, h2, h3, h4, h5⟩ | ⟨q, r, u, v, e1, e2, h1, h2, h3, h4, h5⟩
  · exact .inl h
  · exact .inr (.inl ⟨q, e1, e2, s _ _ h⟩)
  · exact .inr (.inr (.inl ⟨q, u, e1, e2, s _ _ h1, s _ _ h2⟩))
  · exact .inr (.inr (.inr (.inl ⟨q, r, u, v, e1, e2, s _ _ h1, s _ _ h2, s _ _ h3, s _ _ h4, h5⟩)))
  · exact .inr (.inr (.inr (.inr ⟨q, r, u, v, e1, e2, s _ _ h1, s _ _ h2, s _ _ h3, s _ _ h4, h5⟩)))
theorem flat_alike {H : Hp} {n : Nat} {x : V} (h : fl4 x = true) : AlikeD H (n + 1) x x := .inl ⟨.inl ⟨rfl, h⟩, fun q u e => by rw [e] at h; cases h⟩
theorem Thing.alike {H : Hp} {a b : V} (h : Thing H a b) : AlikeD H 6 a b := by
  rcases h with ⟨rfl, h⟩ | ⟨q, e1, e2, h⟩ | ⟨q, u, e1, e2, h1, h2⟩ | ⟨q, r, u, v, e1, e2, h1, h2, h3, h4, h5⟩ | ⟨q, r, u, v, e1, e2, h1, h2, h3, h4, h5⟩
  · exact flat_alike h
  · refine .inl ⟨.inr ⟨q, q, _, _, _, _, e1, e2, h, rfl, h, rfl, rfl, by decide, .nil⟩, fun q' u e3 e4 => ?_⟩
    rw [e2] at e3
    cases e3
    rw [h] at e4
    cases e4
    rfl
  · refine .inl ⟨.inr ⟨q, q, _, _, _, _, e1, e2, h1, rfl, h1, rfl, rfl, (by show 2 ≤ 1000; decide), .cons (.inl ⟨rfl, rfl⟩) (.cons (.inr ⟨u, u, _, _, _, _, rfl, rfl, h2, rfl, h2, rfl, rfl, (by show 2 ≤ 1000; decide), .cons (.inl ⟨rfl, rfl⟩) (.cons (.inl ⟨rfl, by decide⟩) .nil)⟩) .nil)⟩, fun q' u e3 e4 => ?_⟩
    rw [e2] at e3
    cases e3
    rw [h1] at e4
    cases e4
    rfl
  · exact .inr (.inl ⟨q, r, _, _, e1, e2, h1, h3, (by show 2 ≤ 1000; decide), .cons (flat_alike rfl) (.cons (.inr (.inl ⟨u, v, _, _, rfl, rfl, h2, h4, (by show 2 ≤ 1000; decide), .cons (flat_alike rfl) (.cons (flat_alike (by decide)) .nil)⟩)) .nil)⟩)
  · exact .inr (.inr ⟨q, r, _, u, v, e1, e2, h1, h3, h2, h4, h5, by decide⟩)
/-- things are not the box -/
theorem Bx.ne {H : Hp} {p a : Addr} {n : Nat} {o : HO} (hb : Bx H p n) (h : H a = some o) (k : ∀ x0 x2 x3 b, o ≠ .lst [.int x0, .bl b, .int x2, .int x3]) : a ≠ p := fun z => by
  obtain ⟨x0, x2, x3, b, e, _⟩ := hb
  rw [z, e] at h
  exact k x0 x2 x3 b (Option.some.inj h).symm
theorem Thing.but {H H' : Hp} {p : Addr} {n : Nat} {a b : V} (hb : Bx H p n) (s : But p H H') (h : Thing H a b) : Thing H' a b := by
  have f : ∀ {q : Addr} {o : HO}, H q = some o → (∀ x0 x2 x3 b, o ≠ .lst [.int x0, .bl b, .int x2, .int x3]) → H' q = some o := fun {q o} h k => s _ _ (hb.ne h k) h
  rcases h with h | ⟨q, e1, e2, h⟩ | ⟨q, u, e1, e2, h1, h2⟩ | ⟨q, r, u, v, e1, e2, h1, h2, h3, h4, h5⟩ | ⟨q, r, u, v, e1, e2, h1, h2, h3, h4, h5⟩
  · exact .inl h
  · exact .inr (.inl ⟨q, e1, e2, f h (by simp)⟩)
  · exact .inr (.inr (.inl ⟨q, u, e1, e2, f h1 (by simp), f h2 (by simp)⟩))
  · exact .inr (.inr (.inr (.inl ⟨q, r, u, v, e1, e2, f h1 (by simp), f h2 (by simp), f h3 (by simp), f h4 (by simp), h5⟩)))
  · exact .inr (.inr (.inr (.inr ⟨q, r, u, v, e1, e2, f h1 (by simp), f h2 (by simp), f h3 (by simp), f h4 (by simp), h5⟩)))
section
variable {P : Program} {w : World} {K : Fg} {mg : Str → Option Value} {base : Heap}
theorem ok__law_thing (T : Tx K mg w) (c__law_take : Cal P w K mg base 1 "_law_take" ["box", "many"] (sp__law_take K))  : Cal P w K mg base 2 "_law_thing" ["box"] (sp__law_thing K) := by
  refine cal_mk T.F__law_thing T.g__law_thing sc__law_thing (len1 _) (fun _ _ _ _ _ _ us hl => match us, hl with | [_], _ => rfl) (fun cdv A outer s H vs Q E hr h => ?_)
  obtain ⟨v0, rfl, h⟩ := h
  have hu := hu_of hr
  refine ⟨_, (pss_cons (ps_set (i := 1) sc__law_thing.nd rfl (Or.inl rfl) (pe_cal c__law_take hr (by decide) passL rfl (pa_cons (pv 0) (pa_cons pe_int pa_nil))))
      (pss_cons (ps_set (i := 2) sc__law_thing.nd rfl (Or.inl rfl) (pe_lst (pa_cons pe_non (pa_cons pe_bl (pa_cons pe_bl (pa_cons pe_int (pa_cons (pe_un un_neg pe_int) (pa_cons (pe_op op_pow pe_int pe_int) (pa_cons pe_str (pa_cons pe_str (pa_cons (pe_tup pa_nil) (pa_cons (pe_lst pa_nil) (pa_cons pe_dnewK (pa_cons (pe_tup (pa_cons pe_non (pa_cons (pe_tup (pa_cons pe_int (pa_cons pe_str pa_nil))) pa_nil))) pa_nil))))))))))))))
      (pss_cons (ps_if (pt_cmpR op_eq (pv 1) pe_int (nomark _)) (pss_one (ps_ret (pe_tup (pa_cons (pe_lst (pa_cons pe_int (pa_cons (pe_lst (pa_cons pe_int (pa_cons pe_str pa_nil))) pa_nil))) (pa_cons (pe_lst (pa_cons pe_int (pa_cons (pe_lst (pa_cons pe_int (pa_cons pe_str pa_nil))) pa_nil))) pa_nil))))) pss_nil)
      (pss_cons (ps_if (pt_cmpR op_eq (pv 1) pe_int (nomark _)) (pss_one (ps_ret (pe_tup (pa_cons (pe_disp (pps_cons pe_str (pe_lst (pa_cons pe_int pa_nil)) pps_nil) (by rfl) rfl (by intro z; cases z) (by decide)) (pa_cons (pe_disp (pps_cons pe_str (pe_lst (pa_cons pe_int pa_nil)) pps_nil) (by rfl) rfl (by intro z; cases z) (by decide)) pa_nil))))) pss_nil)
      (pss_one (ps_ret (pe_ifExp (pt_cmpR op_lt (pv 1) pe_int (nomark _)) (pe_tup (pa_cons (pe_ix ix_q (pv 2) (pv 1) (fun _ _ => rfl)) (pa_cons (pe_ix ix_q (pv 2) (pv 1) (fun _ _ => rfl)) pa_nil))) (pe_tup (pa_cons (pe_ix ix_q (pv 2) pe_int (fun _ _ => rfl)) (pa_cons (pe_ix ix_q (pv 2) pe_int (fun _ _ => rfl)) pa_nil)))))))))), ?_⟩
  obtain ⟨p, k, rfl, hb, hk, q⟩ := h
  simp only [and_assoc, rst, rs, re, ra, rq, rx, ro, rl, rl2, rsp, rz, rix, rln, rg, rd, ri, rv, rk, rdd, rwi, at0, at1, at2, at3, upd_at, List.getElem?_cons_zero, List.getElem?_cons_succ, Option.some.injEq, exists_eq_left', exists_eq_left, List.set_cons_zero, List.set_cons_succ, true_and, and_true, HO.lst.injEq, HO.tup.injEq, exists_and_left, exists_eq, exists_eq', Br.t, Br.f, Be.t, Be.f, List.cons.injEq, List.append_nil, scal, if_true, if_false, ite_true, ite_false, eq_self_iff_true, decide_true, decide_false, Bool.not_true, Bool.not_false, reduceIte, List.nil_append, List.cons_append, reduceCtorEq, false_and, exists_false, false_or, or_false, Int.reduceLT]
  refine ⟨_, _, rfl, p, 12, k, rfl, hb, hk, rfl, by decide, by decide, fun r H1 r0 r1 b1 hb1 f1 => ?_⟩
  simp only [and_assoc, rst, rs, re, ra, rq, rx, ro, rl, rl2, rsp, rz, rix, rln, rg, rd, ri, rv, rk, rdd, rwi, at0, at1, at2, at3, upd_at, List.getElem?_cons_zero, List.getElem?_cons_succ, Option.some.injEq, exists_eq_left', exists_eq_left, List.set_cons_zero, List.set_cons_succ, true_and, and_true, HO.lst.injEq, HO.tup.injEq, exists_and_left, exists_eq, exists_eq', Br.t, Br.f, Be.t, Be.f, List.cons.injEq, List.append_nil, scal, if_true, if_false, ite_true, ite_false, eq_self_iff_true, decide_true, decide_false, Bool.not_true, Bool.not_false, reduceIte, List.nil_append, List.cons_append, reduceCtorEq, false_and, exists_false, false_or, or_false, Int.reduceLT]
  refine ⟨⟨by decide, by decide, by decide⟩, fun p1 h1 p2 h2 p3 h3 p4 h4 p5 h5 => ⟨by rw [sizeLine_eq]; exact (by decide : 12 ≤ 16777216), fun p6 h6 => ?_⟩⟩
  have g1 := Same.new (o := .tup []) h1
  have g2 := Same.new (o := .lst []) (show upd H1 p1 (.tup []) p2 = none from h2)
  have g3 := Same.new (o := .dK []) (show upd (upd H1 p1 (.tup [])) p2 (.lst []) p3 = none from h3)
  have g4 := Same.new (o := .tup [.int 1, .str "a"]) (show upd (upd (upd H1 p1 (.tup [])) p2 (.lst [])) p3 (.dK []) p4 = none from h4)
  have g5 := Same.new (o := .tup [.non, .ref p4]) (show upd (upd (upd (upd H1 p1 (.tup [])) p2 (.lst [])) p3 (.dK [])) p4 (.tup [.int 1, .str "a"]) p5 = none from h5)
  have g6 := Same.new (o := .lst [.non, .bl true, .bl false, .int 0, .int (-3), .int (10 ^ Int.toNat 29), .str "", .str "text 0", .ref p1, .ref p2, .ref p3, .ref p5]) (show upd (upd (upd (upd (upd H1 p1 (.tup [])) p2 (.lst [])) p3 (.dK [])) p4 (.tup [.int 1, .str "a"])) p5 (.tup [.non, .ref p4]) p6 = none from h6)
  have a1 := g6 _ _ (g5 _ _ (g4 _ _ (g3 _ _ (g2 _ _ (show upd H1 p1 (.tup []) p1 = _ from upd_same)))))
  have a4 := g6 _ _ (g5 _ _ (show upd (upd (upd (upd H1 p1 (.tup [])) p2 (.lst [])) p3 (.dK [])) p4 (.tup [.int 1, .str "a"]) p4 = _ from upd_same))
  have a5 := g6 _ _ (show upd (upd (upd (upd (upd H1 p1 (.tup [])) p2 (.lst [])) p3 (.dK [])) p4 (.tup [.int 1, .str "a"])) p5 (.tup [.non, .ref p4]) p5 = _ from upd_same)
  have a6 : upd (upd (upd (upd (upd (upd H1 p1 (.tup [])) p2 (.lst [])) p3 (.dK [])) p4 (.tup [.int 1, .str "a"])) p5 (.tup [.non, .ref p4])) p6 (.lst [.non, .bl true, .bl false, .int 0, .int (-3), .int (10 ^ Int.toNat 29), .str "", .str "text 0", .ref p1, .ref p2, .ref p3, .ref p5]) p6 = some _ := upd_same
  have g := Same.trans (Same.trans (Same.trans (Same.trans (Same.trans g1 g2) g3) g4) g5) g6
  have n1 : H1 p1 = none := h1
  have n5 : H1 p5 = none := Same.free (Same.trans (Same.trans (Same.trans g1 g2) g3) g4) h5
  clear g1 g2 g3 g4 g5 g6 h1 h2 h3 h4 h5 h6
  generalize upd (upd (upd (upd (upd (upd H1 p1 (.tup [])) p2 (.lst [])) p3 (.dK [])) p4 (.tup [.int 1, .str "a"])) p5 (.tup [.non, .ref p4])) p6 (.lst [.non, .bl true, .bl false, .int 0, .int (-3), .int (10 ^ Int.toNat 29), .str "", .str "text 0", .ref p1, .ref p2, .ref p3, .ref p5]) = H6 at *
  have fr : ∀ a, H1 a = none → H a = none := fun a ha => by
    cases e : H a with
    | none => rfl
    | some o =>
      by_cases c : a = p
      · obtain ⟨_, _, _, _, z, _⟩ := hb1
        rw [← c, ha] at z
        cases z
      · rw [b1 a o c e] at ha
        cases ha
  have b6 : But p H H6 := fun a o ha ho => g _ _ (b1 a o ha ho)
  have hb6 : Bx H6 p (k + 1) := by
    obtain ⟨x0, x2, x3, b, z, zz⟩ := hb1
    exact ⟨x0, x2, x3, b, g _ _ z, zz⟩
  have bxs : ∀ {H'}, Same H6 H' → Bx H' p (k + 1) := fun {H'} s => by
    obtain ⟨x0, x2, x3, b, z, zz⟩ := hb6
    exact ⟨x0, x2, x3, b, s _ _ z, zz⟩
  refine Br.d (fun c => ?_) fun c9 => ?_
  · simp only [and_assoc, rst, rs, re, ra, rq, rx, ro, rl, rl2, rsp, rz, rix, rln, rg, rd, ri, rv, rk, rdd, rwi, at0, at1, at2, at3, upd_at, List.getElem?_cons_zero, List.getElem?_cons_succ, Option.some.injEq, exists_eq_left', exists_eq_left, List.set_cons_zero, List.set_cons_succ, true_and, and_true, HO.lst.injEq, HO.tup.injEq, exists_and_left, exists_eq, exists_eq', Br.t, Br.f, Be.t, Be.f, List.cons.injEq, List.append_nil, scal, if_true, if_false, ite_true, ite_false, eq_self_iff_true, decide_true, decide_false, Bool.not_true, Bool.not_false, reduceIte, List.nil_append, List.cons_append, reduceCtorEq, false_and, exists_false, false_or, or_false, Int.reduceLT]
    intro u1 hu1 l1 hl1 u2 hu2 l2 hl2 t ht
    have k1 := Same.new (o := .lst [.int 2, .str "x"]) hu1
    have k2 := Same.new (o := .lst [.int 1, .ref u1]) (show upd H6 u1 (.lst [.int 2, .str "x"]) l1 = none from hl1)
    have k3 := Same.new (o := .lst [.int 2, .str "x"]) (show upd (upd H6 u1 (.lst [.int 2, .str "x"])) l1 (.lst [.int 1, .ref u1]) u2 = none from hu2)
    have k4 := Same.new (o := .lst [.int 1, .ref u2]) (show upd (upd (upd H6 u1 (.lst [.int 2, .str "x"])) l1 (.lst [.int 1, .ref u1])) u2 (.lst [.int 2, .str "x"]) l2 = none from hl2)
    have k5 := Same.new (o := .tup [.ref l1, .ref l2]) (show upd (upd (upd (upd H6 u1 (.lst [.int 2, .str "x"])) l1 (.lst [.int 1, .ref u1])) u2 (.lst [.int 2, .str "x"])) l2 (.lst [.int 1, .ref u2]) t = none from ht)
    have m1 := Same.trans k1 k2
    have m2 := Same.trans m1 k3
    have m3 := Same.trans m2 k4
    have ks := Same.trans m3 k5
    have o1 := k5 _ _ (k4 _ _ (k3 _ _ (k2 _ _ (show upd H6 u1 _ u1 = some _ from upd_same))))
    have o2 := k5 _ _ (k4 _ _ (k3 _ _ (show upd _ l1 _ l1 = some _ from upd_same)))
    have o3 := k5 _ _ (k4 _ _ (show upd _ u2 _ u2 = some _ from upd_same))
    have o4 := k5 _ _ (show upd _ l2 _ l2 = some _ from upd_same)
    have nl : l1 ≠ l2 := ne_of_none (k3 _ _ (show upd _ l1 _ l1 = some _ from upd_same)) hl2
    have nu1 : u1 ≠ l1 := ne_of_none (show upd H6 u1 _ u1 = some _ from upd_same) hl1
    have nu2 : l1 ≠ u2 := fun z => (ite_none hu2).1 z.symm
    refine q t _ _ _ (fun a o ha ho => ks _ _ (b6 _ _ ha ho)) (bxs ks) upd_same (.inr (.inr (.inr (.inl ⟨l1, l2, u1, u2, rfl, rfl, o2, o1, o4, o3, nl, nu1.symm, nu2⟩)))) fun a e => ?_
    cases e
    exact fr _ (Same.free g (Same.free k1 hl1))
  simp only [and_assoc, rst, rs, re, ra, rq, rx, ro, rl, rl2, rsp, rz, rix, rln, rg, rd, ri, rv, rk, rdd, rwi, at0, at1, at2, at3, upd_at, List.getElem?_cons_zero, List.getElem?_cons_succ, Option.some.injEq, exists_eq_left', exists_eq_left, List.set_cons_zero, List.set_cons_succ, true_and, and_true, HO.lst.injEq, HO.tup.injEq, exists_and_left, exists_eq, exists_eq', Br.t, Br.f, Be.t, Be.f, List.cons.injEq, List.append_nil, scal, if_true, if_false, ite_true, ite_false, eq_self_iff_true, decide_true, decide_false, Bool.not_true, Bool.not_false, reduceIte, List.nil_append, List.cons_append, reduceCtorEq, false_and, exists_false, false_or, or_false, Int.reduceLT]
  refine Br.d (fun c => ?_) fun c10 => ?_
  · simp only [and_assoc, rst, rs, re, ra, rq, rx, ro, rl, rl2, rsp, rz, rix, rln, rg, rd, ri, rv, rk, rdd, rwi, at0, at1, at2, at3, upd_at, List.getElem?_cons_zero, List.getElem?_cons_succ, Option.some.injEq, exists_eq_left', exists_eq_left, List.set_cons_zero, List.set_cons_succ, true_and, and_true, HO.lst.injEq, HO.tup.injEq, exists_and_left, exists_eq, exists_eq', Br.t, Br.f, Be.t, Be.f, List.cons.injEq, List.append_nil, scal, if_true, if_false, ite_true, ite_false, eq_self_iff_true, decide_true, decide_false, Bool.not_true, Bool.not_false, reduceIte, List.nil_append, List.cons_append, reduceCtorEq, false_and, exists_false, false_or, or_false, Int.reduceLT]
    intro d1 hd1 u1 hu1
    obtain ⟨nu1, fu1⟩ := ite_none hu1
    refine ⟨by rw [if_neg (Ne.symm nu1)], [(.inr "a", .ref u1)], rfl, (by show 1 ≤ 15; decide), ?_⟩
    have k1 : Same H6 (upd (upd (upd H6 d1 (.dK [])) u1 (.lst [.int 1])) d1 (.dK [(.inr "a", .ref u1)])) := Same.mut (Same.trans (Same.new hd1) (Same.new hu1)) hd1
    have o1 : upd (upd (upd H6 d1 (.dK [])) u1 (.lst [.int 1])) d1 (.dK [(.inr "a", .ref u1)]) d1 = some (.dK [(.inr "a", .ref u1)]) := upd_same
    have o2 : upd (upd (upd H6 d1 (.dK [])) u1 (.lst [.int 1])) d1 (.dK [(.inr "a", .ref u1)]) u1 = some (.lst [.int 1]) := by rw [upd_ne nu1]; exact upd_same
    rw [show mergeK [] [((.inr "a" : Key), V.ref u1)] = [(.inr "a", .ref u1)] from rfl]
    intro d2 hd2 u2 hu2
    obtain ⟨H7, e7⟩ : ∃ H7, H7 = upd (upd (upd H6 d1 (.dK [])) u1 (.lst [.int 1])) d1 (.dK [(.inr "a", .ref u1)]) := ⟨_, rfl⟩
    rw [← e7] at k1 o1 o2
    have hd2' : H7 d2 = none := by rw [e7]; exact hd2
    have hu2' : upd H7 d2 (.dK []) u2 = none := by rw [e7]; exact hu2
    obtain ⟨nu2, fu2⟩ := ite_none hu2'
    refine ⟨by rw [if_neg (Ne.symm nu2)], [(.inr "a", .ref u2)], rfl, (by show 1 ≤ 15; decide), ?_⟩
    have k2 : Same H7 (upd (upd (upd H7 d2 (.dK [])) u2 (.lst [.int 1])) d2 (.dK [(.inr "a", .ref u2)])) := Same.mut (Same.trans (Same.new hd2') (Same.new hu2')) hd2'
    have o3 : upd (upd (upd H7 d2 (.dK [])) u2 (.lst [.int 1])) d2 (.dK [(.inr "a", .ref u2)]) d2 = some (.dK [(.inr "a", .ref u2)]) := upd_same
    have o4 : upd (upd (upd H7 d2 (.dK [])) u2 (.lst [.int 1])) d2 (.dK [(.inr "a", .ref u2)]) u2 = some (.lst [.int 1]) := by rw [upd_ne nu2]; exact upd_same
    rw [show mergeK [] [((.inr "a" : Key), V.ref u2)] = [(.inr "a", .ref u2)] from rfl]
    intro t ht
    have ht' : upd (upd (upd H7 d2 (.dK [])) u2 (.lst [.int 1])) d2 (.dK [(.inr "a", .ref u2)]) t = none := by rw [e7]; exact ht
    have nd := ne_of_none o1 hd2'
    have k3 := Same.new (o := .tup [.ref d1, .ref d2]) ht'
    have ks := Same.trans (Same.trans k1 k2) k3
    have f1 := k3 _ _ (k2 _ _ o1)
    have f2 := k3 _ _ (k2 _ _ o2)
    have f3 := k3 _ _ o3
    have f4 := k3 _ _ o4
    subst e7
    refine q t _ _ _ (fun a o ha ho => ks _ _ (b6 _ _ ha ho)) (bxs ks) upd_same (.inr (.inr (.inr (.inr ⟨d1, d2, u1, u2, rfl, rfl, f1, f2, f3, f4, nd⟩)))) fun a e => ?_
    cases e
    exact fr _ (Same.free g hd1)
  simp only [and_assoc, rst, rs, re, ra, rq, rx, ro, rl, rl2, rsp, rz, rix, rln, rg, rd, ri, rv, rk, rdd, rwi, at0, at1, at2, at3, upd_at, List.getElem?_cons_zero, List.getElem?_cons_succ, Option.some.injEq, exists_eq_left', exists_eq_left, List.set_cons_zero, List.set_cons_succ, true_and, and_true, HO.lst.injEq, HO.tup.injEq, exists_and_left, exists_eq, exists_eq', Br.t, Br.f, Be.t, Be.f, List.cons.injEq, List.append_nil, scal, if_true, if_false, ite_true, ite_false, eq_self_iff_true, decide_true, decide_false, Bool.not_true, Bool.not_false, reduceIte, List.nil_append, List.cons_append, reduceCtorEq, false_and, exists_false, false_or, or_false, Int.reduceLT, a6]
  refine Be.d (fun c => ?_) fun c => ?_
  · refine ⟨_, a6, _, rfl, ?_⟩
    obtain h | h | h | h | h | h | h | h | h : r = 0 ∨ r = 1 ∨ r = 2 ∨ r = 3 ∨ r = 4 ∨ r = 5 ∨ r = 6 ∨ r = 7 ∨ r = 8 := by omega
    all_goals subst h
    · exact ⟨_, rfl, _, a6, _, rfl, _, rfl, fun t ht => q t _ _ _ (fun a o ha ho => Same.new ht _ _ (b6 _ _ ha ho)) (bxs (Same.new ht)) upd_same (.inl ⟨rfl, rfl⟩) fun a e => by cases e⟩
    · exact ⟨_, rfl, _, a6, _, rfl, _, rfl, fun t ht => q t _ _ _ (fun a o ha ho => Same.new ht _ _ (b6 _ _ ha ho)) (bxs (Same.new ht)) upd_same (.inl ⟨rfl, rfl⟩) fun a e => by cases e⟩
    · exact ⟨_, rfl, _, a6, _, rfl, _, rfl, fun t ht => q t _ _ _ (fun a o ha ho => Same.new ht _ _ (b6 _ _ ha ho)) (bxs (Same.new ht)) upd_same (.inl ⟨rfl, rfl⟩) fun a e => by cases e⟩
    · exact ⟨_, rfl, _, a6, _, rfl, _, rfl, fun t ht => q t _ _ _ (fun a o ha ho => Same.new ht _ _ (b6 _ _ ha ho)) (bxs (Same.new ht)) upd_same (.inl ⟨rfl, rfl⟩) fun a e => by cases e⟩
    · exact ⟨_, rfl, _, a6, _, rfl, _, rfl, fun t ht => q t _ _ _ (fun a o ha ho => Same.new ht _ _ (b6 _ _ ha ho)) (bxs (Same.new ht)) upd_same (.inl ⟨rfl, rfl⟩) fun a e => by cases e⟩
    · exact ⟨_, rfl, _, a6, _, rfl, _, rfl, fun t ht => q t _ _ _ (fun a o ha ho => Same.new ht _ _ (b6 _ _ ha ho)) (bxs (Same.new ht)) upd_same (.inl ⟨rfl, rfl⟩) fun a e => by cases e⟩
    · exact ⟨_, rfl, _, a6, _, rfl, _, rfl, fun t ht => q t _ _ _ (fun a o ha ho => Same.new ht _ _ (b6 _ _ ha ho)) (bxs (Same.new ht)) upd_same (.inl ⟨rfl, by decide⟩) fun a e => by cases e⟩
    · exact ⟨_, rfl, _, a6, _, rfl, _, rfl, fun t ht => q t _ _ _ (fun a o ha ho => Same.new ht _ _ (b6 _ _ ha ho)) (bxs (Same.new ht)) upd_same (.inl ⟨rfl, by decide⟩) fun a e => by cases e⟩
    · exact ⟨_, rfl, _, a6, _, rfl, _, rfl, fun t ht => q t _ _ _ (fun a o ha ho => Same.new ht _ _ (b6 _ _ ha ho)) (bxs (Same.new ht)) upd_same (.inr (.inl ⟨p1, rfl, rfl, Same.new ht _ _ a1⟩)) fun a e => by cases e; exact fr _ n1⟩
  · exact ⟨_, a6, _, rfl, _, rfl, _, a6, _, rfl, _, rfl, fun t ht => q t _ _ _ (fun a o ha ho => Same.new ht _ _ (b6 _ _ ha ho)) (bxs (Same.new ht)) upd_same (.inr (.inr (.inl ⟨p5, p4, rfl, rfl, Same.new ht _ _ a5, Same.new ht _ _ a4⟩))) fun a e => by cases e; exact fr _ n5⟩
theorem ok__law_error_right (T : Tx K mg w) (c__law_error : Cal P w K mg base 4 "_law_error" ["which", "one", "other"] (sp__law_error K)) (c__law_fields : Cal P w K mg base 1 "_law_fields" ["which", "error"] (sp__law_fields K)) (c__law_classes : Cal P w K mg base 1 "_law_classes" ["error"] (sp__law_classes K)) (c__law_thing : Cal P w K mg base 2 "_law_thing" ["box"] (sp__law_thing K)) (c__law_alike : Cal P w K mg base 14 "_law_alike" ["told", "due"] (sp__law_alike K))  : Cal P w K mg base 15 "_law_error_right" ["box", "which"] (sp__law_error_right K) := by
  refine cal_mk T.F__law_error_right T.g__law_error_right sc__law_error_right (len2 _) (fun _ _ _ _ _ _ us hl => match us, hl with | [_, _], _ => rfl) (fun cdv A outer s H vs Q E hr h => ?_)
  obtain ⟨v0, v1, rfl, h⟩ := h
  have hu := hu_of hr
  refine ⟨_, (pss_cons (ps_asg (pe_cal c__law_thing hr (by decide) passL rfl (pa_cons (pv 0) pa_nil)) (pg_tupQ rfl (pgs_cons (pg_name (i := 2) sc__law_error_right.nd rfl (Or.inl rfl)) (pgs_cons (pg_name (i := 3) sc__law_error_right.nd rfl (Or.inl rfl)) pgs_nil)) (gname_len (gname_len (fun _ _ _ _ h => gnil_len h)))))
      (pss_cons (ps_asg (pe_cal c__law_thing hr (by decide) passL rfl (pa_cons (pv 0) pa_nil)) (pg_tupQ rfl (pgs_cons (pg_name (i := 4) sc__law_error_right.nd rfl (Or.inl rfl)) (pgs_cons (pg_name (i := 5) sc__law_error_right.nd rfl (Or.inl rfl)) pgs_nil)) (gname_len (gname_len (fun _ _ _ _ h => gnil_len h)))))
      (pss_cons (ps_set (i := 6) sc__law_error_right.nd rfl (Or.inl rfl) (pe_cal c__law_error hr (by decide) passL rfl (pa_cons (pv 1) (pa_cons (pv 2) (pa_cons (pv 4) pa_nil)))))
      (pss_cons (ps_if (PW.pt (pw_or (pt_cmpR (op_neD hr.units) (pe_cal c__law_classes hr (by decide) passL rfl (pa_cons (pv 6) pa_nil)) (pe_lc (own := [("k", 9)]) (g := (gName 9)) rfl sc__law_error_right.nd (pi_range1 (by rfl) T.n_range (pa_cons pe_int pa_nil)) (blkOk_by (N := nm__law_error_right) (sc := defScope s__law_error_right) (by decide +kernel)) (fun _ _ _ _ _ => (pg_name (i := 9) sc__law_error_right.nd rfl (Or.inl rfl))) (fun _ _ _ _ _ => pts_nil) (fun _ _ _ _ _ => (pe_cmpR op_eq (pv 9) (pv 1) (nomark _)))) (nomark _)) (pw_or (pt_not (pt_val (pe_callB is_qv (by rfl) T.n_isinstance (by decide +kernel) (pa_cons (pv 6) (pa_cons (pe_glob (v := .ref (He.ga K "SeedError")) rfl T.g_SeedError rfl) pa_nil))))) (pw_or1 (pt_not (pt_val (pe_callB is_qv (by rfl) T.n_isinstance (by decide +kernel) (pa_cons (pv 6) (pa_cons (pe_bltn (v := .ty "ValueError") (by rfl) T.n_ValueError (by decide +kernel) rfl) pa_nil))))))))) (pss_one (ps_ret pe_bl)) pss_nil)
      (pss_cons (ps_set (i := 7) sc__law_error_right.nd rfl (Or.inr rfl) (pe_ifExp (pt_cmpR op_lt (pv 1) pe_int (nomark _)) (pe_lst (pa_cons (pv 3) pa_nil)) (pe_ifExp (pt_cmpR op_eq (pv 1) pe_int (nomark _)) (pe_lst (pa_cons (pv 3) (pa_cons (pv 5) pa_nil))) (pe_lst pa_nil))))
      (pss_cons (ps_set (i := 8) sc__law_error_right.nd rfl (Or.inr rfl) (pe_cal c__law_fields hr (by decide) passL rfl (pa_cons (pv 1) (pa_cons (pv 6) pa_nil))))
      (pss_cons (ps_if (PW.pt (pw_or (pt_cmpR op_ne (pe_callB len_q (by rfl) T.n_len (by decide +kernel) (pa_cons (pv 8) pa_nil)) (pe_callB len_q (by rfl) T.n_len (by decide +kernel) (pa_cons (pv 7) pa_nil)) (nomark _)) (pw_or1 (pt_cmpR (op_neD hr.units) (pe_lc (own := [("k", 9)]) (g := (gName 9)) rfl sc__law_error_right.nd (pi_range1 (by rfl) T.n_range (pa_cons (pe_callB len_q (by rfl) T.n_len (by decide +kernel) (pa_cons (pv 7) pa_nil)) pa_nil)) (blkOk_by (N := nm__law_error_right) (sc := defScope s__law_error_right) (by decide +kernel)) (fun _ _ _ _ _ => (pg_name (i := 9) sc__law_error_right.nd rfl (Or.inl rfl))) (fun _ _ _ _ _ => (pts_one (pt_not (pt_val (pe_cal c__law_alike hr (by decide) passL rfl (pa_cons (pe_ix ix_q (pv 8) (pv 9) (fun _ _ => rfl)) (pa_cons (pe_ix ix_q (pv 7) (pv 9) (fun _ _ => rfl)) pa_nil))))))) (fun _ _ _ _ _ => (pv 9))) (pe_lst pa_nil) (nomark _))))) (pss_one (ps_ret pe_bl)) pss_nil)
      (pss_cons (ps_if (PW.pt (pw_and (pt_val (pe_callB is_qv (by rfl) T.n_isinstance (by decide +kernel) (pa_cons (pv 2) (pa_cons (pe_bltn (v := .ty "list") (by rfl) T.n_list (by decide +kernel) rfl) pa_nil)))) (pw_and1 (pt_cmpR op_lt (pv 1) pe_int (nomark _))))) (pss_cons (ps_expr (pe_ml PySem.F.slot_list_append PySem.F.type_list_append mt_append (pv 2) (pa_cons pe_str pa_nil)))
      (pss_one (ps_if (pt_not (pt_val (pe_cal c__law_alike hr (by decide) passL rfl (pa_cons (pe_ix ix_q (pe_cal c__law_fields hr (by decide) passL rfl (pa_cons (pv 1) (pa_cons (pv 6) pa_nil))) pe_int (fun _ _ => rfl)) (pa_cons (pe_op op_cat (pv 3) (pe_lst (pa_cons pe_str pa_nil))) pa_nil))))) (pss_one (ps_ret pe_bl)) pss_nil))) pss_nil)
      (pss_one (ps_ret (pe_cmpR op_eq (pe_callB len_q (by rfl) T.n_len (by decide +kernel) (pa_cons (pe_cal c__law_fields hr (by decide) passL rfl (pa_cons (pv 1) (pa_cons (pv 6) pa_nil))) pa_nil)) (pe_callB len_q (by rfl) T.n_len (by decide +kernel) (pa_cons (pv 7) pa_nil)) (nomark _)))))))))))), ?_⟩
  obtain ⟨p, i, k, rfl, hb, hk, rfl, hi, q⟩ := h
  simp only [and_assoc, rst, rs, re, ra, rq, rx, ro, rl, rl2, rsp, rz, rix, rln, rg, rd, ri, rv, rk, rdd, rwi, at0, at1, at2, at3, upd_at, List.getElem?_cons_zero, List.getElem?_cons_succ, Option.some.injEq, exists_eq_left', exists_eq_left, List.set_cons_zero, List.set_cons_succ, true_and, and_true, HO.lst.injEq, HO.tup.injEq, exists_and_left, exists_eq, exists_eq', Br.t, Br.f, Be.t, Be.f, List.cons.injEq, List.append_nil, scal, if_true, if_false, ite_true, ite_false, eq_self_iff_true, decide_true, decide_false, Bool.not_true, Bool.not_false, reduceIte, List.nil_append, List.cons_append, reduceCtorEq, false_and, exists_false, false_or, or_false, Int.reduceLT]
  refine ⟨_, rfl, p, k, rfl, hb, by omega, fun t1 one due H1 b1 hb1 ht1 hth1 fr1 => ?_⟩
  simp only [and_assoc, rst, rs, re, ra, rq, rx, ro, rl, rl2, rsp, rz, rix, rln, rg, rd, ri, rv, rk, rdd, rwi, at0, at1, at2, at3, upd_at, List.getElem?_cons_zero, List.getElem?_cons_succ, Option.some.injEq, exists_eq_left', exists_eq_left, List.set_cons_zero, List.set_cons_succ, true_and, and_true, HO.lst.injEq, HO.tup.injEq, exists_and_left, exists_eq, exists_eq', Br.t, Br.f, Be.t, Be.f, List.cons.injEq, List.append_nil, scal, if_true, if_false, ite_true, ite_false, eq_self_iff_true, decide_true, decide_false, Bool.not_true, Bool.not_false, reduceIte, List.nil_append, List.cons_append, reduceCtorEq, false_and, exists_false, false_or, or_false, Int.reduceLT, ht1]
  refine ⟨_, rfl, p, k + 1, rfl, hb1, by omega, fun t2 other second H2 b2 hb2 ht2 hth2 fr2 => ?_⟩
  have hth1' := Thing.but hb1 b2 hth1
  have fo : ∀ x, one = .ref x → H x = none := fr1
  clear hth1 fr1 ht1
  simp only [and_assoc, rst, rs, re, ra, rq, rx, ro, rl, rl2, rsp, rz, rix, rln, rg, rd, ri, rv, rk, rdd, rwi, at0, at1, at2, at3, upd_at, List.getElem?_cons_zero, List.getElem?_cons_succ, Option.some.injEq, exists_eq_left', exists_eq_left, List.set_cons_zero, List.set_cons_succ, true_and, and_true, HO.lst.injEq, HO.tup.injEq, exists_and_left, exists_eq, exists_eq', Br.t, Br.f, Be.t, Be.f, List.cons.injEq, List.append_nil, scal, if_true, if_false, ite_true, ite_false, eq_self_iff_true, decide_true, decide_false, Bool.not_true, Bool.not_false, reduceIte, List.nil_append, List.cons_append, reduceCtorEq, false_and, exists_false, false_or, or_false, Int.reduceLT, ht2]
  have bH : But p H H2 := fun a o ha ho => b2 _ _ ha (b1 _ _ ha ho)
  refine ⟨_, _, _, rfl, i, rfl, hi, fun a H3 s3 fa he => ⟨_, rfl, a, i, rfl, by omega, he.xo, fun pc H4 s4 fc hc => ⟨by decide, by decide, ?_⟩⟩⟩
  refine LC.rng (fun D j H' => Same H4 H' ∧ H' D = some (.lst (((List.range j).map fun m => decide (i = m)).map V.bl))) (fun D hD => ⟨Same.new hD, upd_same⟩) ?_ ?_
  · rintro D j H' hD hj ⟨s5, h5⟩
    have e : decide (0 + (j : Int) = (i : Int)) = decide (i = j) := decide_eq_decide.mpr ⟨fun z => by omega, fun z => by omega⟩
    have hj' : j < 14 := hj
    simp only [and_assoc, rst, rs, re, ra, rq, rx, ro, rl, rl2, rsp, rz, rix, rln, rg, rd, ri, rv, rk, rdd, rwi, at0, at1, at2, at3, upd_at, List.getElem?_cons_zero, List.getElem?_cons_succ, Option.some.injEq, exists_eq_left', exists_eq_left, List.set_cons_zero, List.set_cons_succ, true_and, and_true, HO.lst.injEq, HO.tup.injEq, exists_and_left, exists_eq, exists_eq', Br.t, Br.f, Be.t, Be.f, List.cons.injEq, List.append_nil, scal, if_true, if_false, ite_true, ite_false, eq_self_iff_true, decide_true, decide_false, Bool.not_true, Bool.not_false, reduceIte, List.nil_append, List.cons_append, reduceCtorEq, false_and, exists_false, false_or, or_false, Int.reduceLT, h5]
    refine ⟨by simp [sizeLine_eq]; omega, Same.mut s5 hD, ?_⟩
    rw [e, List.range_succ, List.map_append, List.map_append]
    rfl
  · rintro D H5 hD ⟨s5, h5⟩
    have e5 := (he.same s4).same s5
    refine ne_bls (l := (List.range 14).map fun m => decide (i = m)) (SqL.of (by rw [s5 _ _ hc, List.map_map]; rfl)) (SqL.of h5) ⟨false, rfl, Be.of (fun e => by cases e) fun _ => ?_⟩
    refine ⟨a, _, _, _, true, rfl, .own _, xc T i (by omega), e5.xo, ks_get T (by omega), true, rfl, Be.of (fun e => by cases e) fun _ => .inr ⟨a, _, _, _, true, rfl, .ty _, xc T i (by omega), e5.xo, kv_get T (by omega), true, rfl, Br.of (fun e => by cases e) fun _ => ?_⟩⟩
    have sa := Same.trans (Same.trans s3 s4) s5
    have th1 := hth1'.same sa
    have th2 := hth2.same sa
    have b5 : But p H H5 := fun a o ha ho => sa _ _ (bH _ _ ha ho)
    have x5 := hb2.same sa
    clear s3 s4 s5 hth1' hth2 hc h5 he bH b2 hb2 b1 hb1 sa fa fc hD
    simp only [and_assoc, rst, rs, re, ra, rq, rx, ro, rl, rl2, rsp, rz, rix, rln, rg, rd, ri, rv, rk, rdd, rwi, at0, at1, at2, at3, upd_at, List.getElem?_cons_zero, List.getElem?_cons_succ, Option.some.injEq, exists_eq_left', exists_eq_left, List.set_cons_zero, List.set_cons_succ, true_and, and_true, HO.lst.injEq, HO.tup.injEq, exists_and_left, exists_eq, exists_eq', Br.t, Br.f, Be.t, Be.f, List.cons.injEq, List.append_nil, scal, if_true, if_false, ite_true, ite_false, eq_self_iff_true, decide_true, decide_false, Bool.not_true, Bool.not_false, reduceIte, List.nil_append, List.cons_append, reduceCtorEq, false_and, exists_false, false_or, or_false, Int.reduceLT]
    refine Be.d (fun c => ?_) fun c => Be.d (fun c2 => ?_) fun c2 => ?_
    all_goals intro pd hpd
    all_goals first
      | rw [show upd H5 pd (.lst [due]) = upd H5 pd (.lst (fieldsOf i due second)) by rw [fieldsOf, if_pos (by omega)]]
      | rw [show upd H5 pd (.lst [due, second]) = upd H5 pd (.lst (fieldsOf i due second)) by rw [fieldsOf, if_neg (by omega), if_pos (by omega)]]
      | rw [show upd H5 pd (.lst []) = upd H5 pd (.lst (fieldsOf i due second)) by rw [fieldsOf, if_neg (by omega), if_neg (by omega)]]
    all_goals
      have sd := Same.new (o := .lst (fieldsOf i due second)) hpd
      have d6 : upd H5 pd (.lst (fieldsOf i due second)) pd = some (.lst (fieldsOf i due second)) := upd_same
      generalize upd H5 pd (.lst (fieldsOf i due second)) = H6 at *
      refine ⟨_, _, rfl, i, a, one, other, rfl, rfl, e5.same sd, fun pk H7 s7 fk k7 => ?_⟩
      have e7 := (e5.same sd).same s7
      have d7 := s7 _ _ d6
      have t7 := (th1.same sd).same s7
      have u7 := (th2.same sd).same s7
      have b7 : But p H H7 := fun q o hq ho => s7 _ _ (sd _ _ (b5 _ _ hq ho))
      have x7 := (x5.same sd).same s7
      have fl : (fieldsOf i one other).length = (fieldsOf i due second).length := by
        unfold fieldsOf
        split
        · rfl
        · split <;> rfl
      have f1000 : (fieldsOf i due second).length ≤ 2 := by
        unfold fieldsOf
        split
        · exact (by show 1 ≤ 2; decide)
        · split
          · exact Nat.le_refl _
          · exact Nat.zero_le _
      have fp : ∀ {H'}, Same H7 H' → Paired (AlikeD H' 6) (fieldsOf i one other) (fieldsOf i due second) := fun {H'} s => by
        unfold fieldsOf
        split
        · exact .cons (t7.same s).alike .nil
        · split
          · exact .cons (t7.same s).alike (.cons (u7.same s).alike .nil)
          · exact .nil
      clear e5 th1 th2 b5 x5 sd d6 s7 fk hpd
      simp only [and_assoc, rst, rs, re, ra, rq, rx, ro, rl, rl2, rsp, rz, rix, rln, rg, rd, ri, rv, rk, rdd, rwi, at0, at1, at2, at3, upd_at, List.getElem?_cons_zero, List.getElem?_cons_succ, Option.some.injEq, exists_eq_left', exists_eq_left, List.set_cons_zero, List.set_cons_succ, true_and, and_true, HO.lst.injEq, HO.tup.injEq, exists_and_left, exists_eq, exists_eq', Br.t, Br.f, Be.t, Be.f, List.cons.injEq, List.append_nil, scal, if_true, if_false, ite_true, ite_false, eq_self_iff_true, decide_true, decide_false, Bool.not_true, Bool.not_false, reduceIte, List.nil_append, List.cons_append, reduceCtorEq, false_and, exists_false, false_or, or_false, Int.reduceLT, k7, d7]
      refine Be.n (fun c3 => absurd (by rw [fl]) c3) fun _ => ⟨_, d7, _, rfl, by omega, by omega, LC.rng (fun D j H' => Same H7 H' ∧ H' D = some (.lst [])) (fun D hD => ⟨Same.new hD, upd_same⟩) ?_ ?_⟩
      · rintro D j H8 hD hj ⟨s8, h8⟩
        have iy : j < (fieldsOf i due second).length := by omega
        have ix : j < (fieldsOf i one other).length := by omega
        have ex := List.getElem?_eq_getElem ix
        have ey := List.getElem?_eq_getElem iy
        simp only [and_assoc, rst, rs, re, ra, rq, rx, ro, rl, rl2, rsp, rz, rix, rln, rg, rd, ri, rv, rk, rdd, rwi, at0, at1, at2, at3, upd_at, List.getElem?_cons_zero, List.getElem?_cons_succ, Option.some.injEq, exists_eq_left', exists_eq_left, List.set_cons_zero, List.set_cons_succ, true_and, and_true, HO.lst.injEq, HO.tup.injEq, exists_and_left, exists_eq, exists_eq', Br.t, Br.f, Be.t, Be.f, List.cons.injEq, List.append_nil, scal, if_true, if_false, ite_true, ite_false, eq_self_iff_true, decide_true, decide_false, Bool.not_true, Bool.not_false, reduceIte, List.nil_append, List.cons_append, reduceCtorEq, false_and, exists_false, false_or, or_false, Int.reduceLT, s8 _ _ k7, s8 _ _ d7]
        rw [Int.zero_add]
        refine ⟨_, atI_nat ex, _, atI_nat ey, _, _, rfl, paired_at (fp s8) ex ey, fun H9 s9 => ?_⟩
        simp only [and_assoc, rst, rs, re, ra, rq, rx, ro, rl, rl2, rsp, rz, rix, rln, rg, rd, ri, rv, rk, rdd, rwi, at0, at1, at2, at3, upd_at, List.getElem?_cons_zero, List.getElem?_cons_succ, Option.some.injEq, exists_eq_left', exists_eq_left, List.set_cons_zero, List.set_cons_succ, true_and, and_true, HO.lst.injEq, HO.tup.injEq, exists_and_left, exists_eq, exists_eq', Br.t, Br.f, Be.t, Be.f, List.cons.injEq, List.append_nil, scal, if_true, if_false, ite_true, ite_false, eq_self_iff_true, decide_true, decide_false, Bool.not_true, Bool.not_false, reduceIte, List.nil_append, List.cons_append, reduceCtorEq, false_and, exists_false, false_or, or_false, Int.reduceLT]
        exact ⟨Same.trans s8 s9, s9 _ _ h8⟩
      rintro D H8 hD ⟨s8, h8⟩
      intro p5 h5
      refine ne_ints (ns := []) (ms := []) (SqL.of (Same.new h5 _ _ h8)) (SqL.of upd_same) ?_
      rw [decide_eq_true rfl]
      refine ⟨false, rfl, Br.of (fun e => by cases e) fun _ => ?_⟩
      have sn := Same.trans s8 (Same.new (o := .lst (List.map V.int [])) h5)
      have e9 := e7.same sn
      have d9 := sn _ _ d7
      have t9 := t7.same sn
      have b9 : But p H _ := fun q o hq ho => sn _ _ (b7 _ _ hq ho)
      have x9 := x7.same sn
      clear fp u7 e7 d7 t7 b7 x7 k7 s8 h8 hD
      generalize upd H8 p5 (.lst (List.map V.int [])) = H9 at *
      have fin : ∀ H', Same H9 H' → Q (.bl true) H' := fun H' s => q _ (fun q' o hq ho => s _ _ (b9 _ _ hq ho)) (x9.same s)
      simp only [and_assoc, rst, rs, re, ra, rq, rx, ro, rl, rl2, rsp, rz, rix, rln, rg, rd, ri, rv, rk, rdd, rwi, at0, at1, at2, at3, upd_at, List.getElem?_cons_zero, List.getElem?_cons_succ, Option.some.injEq, exists_eq_left', exists_eq_left, List.set_cons_zero, List.set_cons_succ, true_and, and_true, HO.lst.injEq, HO.tup.injEq, exists_and_left, exists_eq, exists_eq', Br.t, Br.f, Be.t, Be.f, List.cons.injEq, List.append_nil, scal, if_true, if_false, ite_true, ite_false, eq_self_iff_true, decide_true, decide_false, Bool.not_true, Bool.not_false, reduceIte, List.nil_append, List.cons_append, reduceCtorEq, false_and, exists_false, false_or, or_false, Int.reduceLT]
      rcases t9 with ⟨_, hf⟩ | ⟨q1, rfl, rfl, h1⟩ | ⟨q1, u, rfl, rfl, h1, h2⟩ | ⟨q1, r1, u, v, rfl, rfl, h1, h2, h3, h4, n1, n2, n3⟩ | ⟨q1, r1, u, v, rfl, rfl, h1, h2, h3, h4, h5⟩
      · have kl : isB H9 one "list" = some false := by
          cases one with
          | non => exact (kn H9).2.2.2.1
          | bl b => exact (kb b H9).2.2.2.1
          | int b => exact (ki b H9).2.2.2.1
          | str b => exact (ks b H9).2.2.2.1
          | _ => cases hf
        refine .inl ⟨false, kl, Be.of (fun e => by cases e) fun _ => ?_⟩
        refine ⟨_, _, rfl, i, a, _, other, rfl, rfl, e9, fun pz Hz sz fz hz => ⟨pz, rfl, _, hz, _, rfl, _, sz _ _ d9, _, rfl, ?_⟩⟩
        rw [decide_eq_true (by rw [fl])]
        exact fin _ sz
      · refine .inl ⟨false, (kindB h1 rfl).2.2.2.2.1, Be.of (fun e => by cases e) fun _ => ?_⟩
        refine ⟨_, _, rfl, i, a, _, other, rfl, rfl, e9, fun pz Hz sz fz hz => ⟨pz, rfl, _, hz, _, rfl, _, sz _ _ d9, _, rfl, ?_⟩⟩
        rw [decide_eq_true (by rw [fl])]
        exact fin _ sz
      · refine .inl ⟨false, (kindB h1 rfl).2.2.2.2.1, Be.of (fun e => by cases e) fun _ => ?_⟩
        refine ⟨_, _, rfl, i, a, _, other, rfl, rfl, e9, fun pz Hz sz fz hz => ⟨pz, rfl, _, hz, _, rfl, _, sz _ _ d9, _, rfl, ?_⟩⟩
        rw [decide_eq_true (by rw [fl])]
        exact fin _ sz
      · refine .inl ⟨true, (kindB h1 rfl).2.2.2.2.1, Be.of (fun _ => ?_) fun e => by cases e⟩
        refine Br.d (fun c4 => ?_) fun c4 => ?_
        · simp only [and_assoc, rst, rs, re, ra, rq, rx, ro, rl, rl2, rsp, rz, rix, rln, rg, rd, ri, rv, rk, rdd, rwi, at0, at1, at2, at3, upd_at, List.getElem?_cons_zero, List.getElem?_cons_succ, Option.some.injEq, exists_eq_left', exists_eq_left, List.set_cons_zero, List.set_cons_succ, true_and, and_true, HO.lst.injEq, HO.tup.injEq, exists_and_left, exists_eq, exists_eq', Br.t, Br.f, Be.t, Be.f, List.cons.injEq, List.append_nil, scal, if_true, if_false, ite_true, ite_false, eq_self_iff_true, decide_true, decide_false, Bool.not_true, Bool.not_false, reduceIte, List.nil_append, List.cons_append, reduceCtorEq, false_and, exists_false, false_or, or_false, Int.reduceLT, h1]
          refine ⟨by rw [sizeLine_eq]; exact (by decide : 2 < 16777216), ?_⟩
          have e10 := e9.put (o := .lst [.int 1, .ref u, .str "more"]) h1
          have npd : pd ≠ q1 := fun z => by
            rw [z, h1] at d9
            have z2 := HO.lst.inj (Option.some.inj d9)
            unfold fieldsOf at z2
            split at z2
            · cases z2
            · split at z2
              · cases z2
              · cases z2
          have d10 : upd H9 q1 (.lst [.int 1, .ref u, .str "more"]) pd = some (.lst (fieldsOf i (.ref r1) second)) := by rw [upd_ne npd]; exact d9
          have g1 : upd H9 q1 (.lst [.int 1, .ref u, .str "more"]) q1 = some (.lst [.int 1, .ref u, .str "more"]) := upd_same
          have g2 : upd H9 q1 (.lst [.int 1, .ref u, .str "more"]) u = some (.lst [.int 2, .str "x"]) := by rw [upd_ne n2.symm]; exact h2
          have g3 : upd H9 q1 (.lst [.int 1, .ref u, .str "more"]) r1 = some (.lst [.int 1, .ref v]) := by rw [upd_ne n1.symm]; exact h3
          have g4 : upd H9 q1 (.lst [.int 1, .ref u, .str "more"]) v = some (.lst [.int 2, .str "x"]) := by rw [upd_ne n3.symm]; exact h4
          have nqp : q1 ≠ p := x9.ne h1 (by simp)
          have x10 : Bx (upd H9 q1 (.lst [.int 1, .ref u, .str "more"])) p (k + 1 + 1) := by
            obtain ⟨y0, y2, y3, yb, z, zz⟩ := x9
            exact ⟨y0, y2, y3, yb, by rw [upd_ne nqp.symm]; exact z, zz⟩
          have fin2 : ∀ H', Same (upd H9 q1 (.lst [.int 1, .ref u, .str "more"])) H' → Q (.bl true) H' := fun H' s => q _ (fun q' o hq ho => s _ _ (by rw [upd_ne (ne_of_none ho (fo q1 rfl))]; exact b9 _ _ hq ho)) (x10.same s)
          generalize upd H9 q1 (.lst [.int 1, .ref u, .str "more"]) = H10 at *
          refine ⟨_, _, rfl, i, a, _, other, rfl, rfl, e10, fun pz Hz sz fz hz => ⟨pz, rfl, _, hz, _, rfl, .ref q1, ?_, fun pm hpm => ?_⟩⟩
          · unfold fieldsOf
            split
            · rfl
            · split
              · rfl
              · omega
          have s11 := Same.trans sz (Same.new (o := .lst [.str "more"]) hpm)
          refine ⟨r1, pm, _, _, rfl, rfl, s11 _ _ g3, upd_same, by rw [sizeLine_eq]; exact (by decide : 2 + 1 ≤ 16777216), fun pn hpn => ?_⟩
          have s12 := Same.trans s11 (Same.new (o := .lst ([.int 1, .ref v] ++ [.str "more"])) hpn)
          refine ⟨_, _, rfl, .inr (.inl ⟨q1, pn, _, _, rfl, rfl, s12 _ _ g1, upd_same, (by show 3 ≤ 1000; decide), .cons (flat_alike rfl) (.cons (.inr (.inl ⟨u, v, _, _, rfl, rfl, s12 _ _ g2, s12 _ _ g4, (by show 2 ≤ 1000; decide), .cons (flat_alike rfl) (.cons (flat_alike (by decide)) .nil)⟩)) (.cons (flat_alike (by decide)) .nil))⟩), fun H13 s13 => ⟨true, rfl, Br.of (fun e => by cases e) fun _ => ?_⟩⟩
          have s14 := Same.trans s12 s13
          simp only [and_assoc, rst, rs, re, ra, rq, rx, ro, rl, rl2, rsp, rz, rix, rln, rg, rd, ri, rv, rk, rdd, rwi, at0, at1, at2, at3, upd_at, List.getElem?_cons_zero, List.getElem?_cons_succ, Option.some.injEq, exists_eq_left', exists_eq_left, List.set_cons_zero, List.set_cons_succ, true_and, and_true, HO.lst.injEq, HO.tup.injEq, exists_and_left, exists_eq, exists_eq', Br.t, Br.f, Be.t, Be.f, List.cons.injEq, List.append_nil, scal, if_true, if_false, ite_true, ite_false, eq_self_iff_true, decide_true, decide_false, Bool.not_true, Bool.not_false, reduceIte, List.nil_append, List.cons_append, reduceCtorEq, false_and, exists_false, false_or, or_false, Int.reduceLT]
          refine ⟨_, _, rfl, i, a, _, other, rfl, rfl, e10.same s14, fun py Hy sy fy hy => ⟨py, rfl, _, hy, _, rfl, _, sy _ _ (s14 _ _ d10), _, rfl, ?_⟩⟩
          rw [decide_eq_true (by rw [fl])]
          exact fin2 _ (Same.trans s14 sy)
        · simp only [and_assoc, rst, rs, re, ra, rq, rx, ro, rl, rl2, rsp, rz, rix, rln, rg, rd, ri, rv, rk, rdd, rwi, at0, at1, at2, at3, upd_at, List.getElem?_cons_zero, List.getElem?_cons_succ, Option.some.injEq, exists_eq_left', exists_eq_left, List.set_cons_zero, List.set_cons_succ, true_and, and_true, HO.lst.injEq, HO.tup.injEq, exists_and_left, exists_eq, exists_eq', Br.t, Br.f, Be.t, Be.f, List.cons.injEq, List.append_nil, scal, if_true, if_false, ite_true, ite_false, eq_self_iff_true, decide_true, decide_false, Bool.not_true, Bool.not_false, reduceIte, List.nil_append, List.cons_append, reduceCtorEq, false_and, exists_false, false_or, or_false, Int.reduceLT]
          refine ⟨_, _, rfl, i, a, _, other, rfl, rfl, e9, fun pz Hz sz fz hz => ⟨pz, rfl, _, hz, _, rfl, _, sz _ _ d9, _, rfl, ?_⟩⟩
          rw [decide_eq_true (by rw [fl])]
          exact fin _ sz
      · refine .inl ⟨false, (kindD h1).2.2.2.2.1, Be.of (fun e => by cases e) fun _ => ?_⟩
        refine ⟨_, _, rfl, i, a, _, other, rfl, rfl, e9, fun pz Hz sz fz hz => ⟨pz, rfl, _, hz, _, rfl, _, sz _ _ d9, _, rfl, ?_⟩⟩
        rw [decide_eq_true (by rw [fl])]
        exact fin _ sz
theorem ok__law_right (T : Tx K mg w) (c__law_classes : Cal P w K mg base 1 "_law_classes" ["error"] (sp__law_classes K)) (c__law_error_right : Cal P w K mg base 15 "_law_error_right" ["box", "which"] (sp__law_error_right K))  : Cal P w K mg base 16 "_law_right" ["box", "turn"] (sp__law_right K) := by
  refine cal_mk T.F__law_right T.g__law_right sc__law_right (len2 _) (fun _ _ _ _ _ _ us hl => match us, hl with | [_, _], _ => rfl) (fun cdv A outer s H vs Q E hr h => ?_)
  obtain ⟨v0, v1, rfl, h⟩ := h
  have hu := hu_of hr
  refine ⟨_, (pss_cons (ps_for (passes_of rfl) rfl (pi_range1 (by rfl) T.n_range (pa_cons pe_int pa_nil)) (pg_name (i := 2) sc__law_right.nd rfl (Or.inl rfl)) (pss_one (ps_if (pt_not (pt_val (pe_cal c__law_error_right hr (by decide) passL rfl (pa_cons (pv 0) (pa_cons (pv 2) pa_nil))))) (pss_one (ps_ret pe_bl)) pss_nil)))
      (pss_cons (ps_set (i := 3) sc__law_right.nd rfl (Or.inl rfl) (pe_exc1 PySem.F.excBase_ValueError T.e_SeedError.1 T.g_SeedError T.e_SeedError.2 rfl pe_str))
      (pss_one (ps_ret (pe_cmpR (op_eqD hr.units) (pe_cal c__law_classes hr (by decide) passL rfl (pa_cons (pv 3) pa_nil)) (pe_op op_rep (pe_lst (pa_cons pe_bl pa_nil)) pe_int) (nomark _)))))), ?_⟩
  obtain ⟨p, k, rfl, hb, hk, q⟩ := h
  simp only [and_assoc, rst, rs, re, ra, rq, rx, ro, rl, rl2, rsp, rz, rix, rln, rg, rd, ri, rv, rk, rdd, rwi, at0, at1, at2, at3, upd_at, List.getElem?_cons_zero, List.getElem?_cons_succ, Option.some.injEq, exists_eq_left', exists_eq_left, List.set_cons_zero, List.set_cons_succ, true_and, and_true, HO.lst.injEq, HO.tup.injEq, exists_and_left, exists_eq, exists_eq', Br.t, Br.f, Be.t, Be.f, List.cons.injEq, List.append_nil, scal, if_true, if_false, ite_true, ite_false, eq_self_iff_true, decide_true, decide_false, Bool.not_true, Bool.not_false, reduceIte, List.nil_append, List.cons_append, reduceCtorEq, false_and, exists_false, false_or, or_false, Int.reduceLT]
  refine ⟨by decide, by decide, FI.rng (fun j σ H' => ∃ v2, But p H H' ∧ Bx H' p (k + 2 * j) ∧ σ = [some (.ref p), some v1, v2, none]) ⟨none, fun _ _ _ z => z, hb, rfl⟩ ?_ ?_⟩
  · rintro j σ H1 hj ⟨v2, b1, hb1, rfl⟩
    have hj' : j < 13 := hj
    simp only [and_assoc, rst, rs, re, ra, rq, rx, ro, rl, rl2, rsp, rz, rix, rln, rg, rd, ri, rv, rk, rdd, rwi, at0, at1, at2, at3, upd_at, List.getElem?_cons_zero, List.getElem?_cons_succ, Option.some.injEq, exists_eq_left', exists_eq_left, List.set_cons_zero, List.set_cons_succ, true_and, and_true, HO.lst.injEq, HO.tup.injEq, exists_and_left, exists_eq, exists_eq', Br.t, Br.f, Be.t, Be.f, List.cons.injEq, List.append_nil, scal, if_true, if_false, ite_true, ite_false, eq_self_iff_true, decide_true, decide_false, Bool.not_true, Bool.not_false, reduceIte, List.nil_append, List.cons_append, reduceCtorEq, false_and, exists_false, false_or, or_false, Int.reduceLT]
    refine ⟨_, _, rfl, p, j, k + 2 * j, rfl, hb1, by omega, by rw [Int.zero_add], hj', fun H2 b2 hb2 => ?_⟩
    simp only [and_assoc, rst, rs, re, ra, rq, rx, ro, rl, rl2, rsp, rz, rix, rln, rg, rd, ri, rv, rk, rdd, rwi, at0, at1, at2, at3, upd_at, List.getElem?_cons_zero, List.getElem?_cons_succ, Option.some.injEq, exists_eq_left', exists_eq_left, List.set_cons_zero, List.set_cons_succ, true_and, and_true, HO.lst.injEq, HO.tup.injEq, exists_and_left, exists_eq, exists_eq', Br.t, Br.f, Be.t, Be.f, List.cons.injEq, List.append_nil, scal, if_true, if_false, ite_true, ite_false, eq_self_iff_true, decide_true, decide_false, Bool.not_true, Bool.not_false, reduceIte, List.nil_append, List.cons_append, reduceCtorEq, false_and, exists_false, false_or, or_false, Int.reduceLT]
    exact ⟨fun a o ha ho => b2 _ _ ha (b1 _ _ ha ho), by rw [show k + 2 * (j + 1) = k + 2 * j + 2 by omega]; exact hb2⟩
  · rintro σ H1 ⟨v2, b1, hb1, rfl⟩
    simp only [and_assoc, rst, rs, re, ra, rq, rx, ro, rl, rl2, rsp, rz, rix, rln, rg, rd, ri, rv, rk, rdd, rwi, at0, at1, at2, at3, upd_at, List.getElem?_cons_zero, List.getElem?_cons_succ, Option.some.injEq, exists_eq_left', exists_eq_left, List.set_cons_zero, List.set_cons_succ, true_and, and_true, HO.lst.injEq, HO.tup.injEq, exists_and_left, exists_eq, exists_eq', Br.t, Br.f, Be.t, Be.f, List.cons.injEq, List.append_nil, scal, if_true, if_false, ite_true, ite_false, eq_self_iff_true, decide_true, decide_false, Bool.not_true, Bool.not_false, reduceIte, List.nil_append, List.cons_append, reduceCtorEq, false_and, exists_false, false_or, or_false, Int.reduceLT]
    intro a ha
    refine ⟨_, rfl, a, 14, rfl, by decide, .inr (.inl upd_same), fun pc H2 s2 _ hc => ?_⟩
    intro pf hpf
    have s3 := Same.new (o := .lst [.bl false]) hpf
    refine ⟨pf, 14, _, rfl, rfl, upd_same, by decide, by decide, by rw [sizeLine_eq]; exact (by decide : 1 * 14 ≤ 16777216), fun pg hpg => ?_⟩
    have s4 := Same.new (o := .lst (List.replicate (14 : Int).toNat [V.bl false]).flatten) hpg
    refine eq_bls (l := List.replicate 14 false) (SqL.of ?_) (SqL.of ?_) ?_
    · rw [s4 _ _ (s3 _ _ hc)]
      rfl
    · rw [upd_same]
      rfl
    · refine q _ fun a' o ha' ho => s4 _ _ (s3 _ _ (s2 _ _ ?_))
      have z := b1 _ _ ha' ho
      rw [upd_ne (ne_of_none z ha)]
      exact z
end
end Law

namespace Law
open PySem PySem.Spec PyProof.Rows L2 Sw
section
variable {P : Program} {w : World} {K : Fg} {mg : Str → Option Value} {base : Heap}
theorem ok_law {fd : FuncData} (T : Tx K mg w) (F_law : FunD K "law" "law" (defArgs s_law) (defBody s_law) (defScope s_law) [] [] (He.ga K "law") fd) (c__law_cell : Cal P w K mg base 1 "_law_cell" ["script", "k"] (sp__law_cell K)) (c__law_box : Cal P w K mg base 1 "_law_box" ["great"] (sp__law_box K)) (c__law_take : Cal P w K mg base 1 "_law_take" ["box", "many"] (sp__law_take K)) (c__law_right : Cal P w K mg base 16 "_law_right" ["box", "turn"] (sp__law_right K)) : FnOk P w K mg base (L2.CX P w) 17 (He.ga K "law") fd ["script"] (sp_law K) := by
  refine fn_mk F_law sc_law (len1 _) (fun cdv A outer s H vs Q E hr h => ?_)
  obtain ⟨v0, rfl, h⟩ := h
  have hu := hu_of hr
  refine ⟨_, (pss_cons (ps_for (passes_of rfl) rfl (pi_range1 (by rfl) T.n_range (pa_cons (pe_callB (call_max2 rfl) (by rfl) T.n_max (by decide +kernel) (pa_cons pe_int (pa_cons (pe_callB (call_min2 rfl) (by rfl) T.n_min (by decide +kernel) (pa_cons pe_int (pa_cons (pe_callB call_len_seq (by rfl) T.n_len (by decide +kernel) (pa_cons (pv 0) pa_nil)) pa_nil))) pa_nil))) pa_nil)) (pg_name (i := 1) sc_law.nd rfl (Or.inl rfl)) (pss_cons (ps_set (i := 2) sc_law.nd rfl (Or.inl rfl) (pe_cal c__law_box hr (by decide) passL rfl (pa_cons (pe_cal c__law_cell hr (by decide) passL rfl (pa_cons (pv 0) (pa_cons (pv 1) pa_nil))) pa_nil)))
      (pss_cons (ps_try_only (tb := _) (ts := _) (Wout := fun _ _ _ _ => False) rfl rfl ⟨rfl, by decide, Or.inl T.g_SeedError⟩ takes0
        (fun W pn xe tk _ => (pss_one (ps_set (i := 3) sc_law.nd rfl (Or.inl rfl) (pe_calS c__law_right hr (by decide) tk rfl (pa_cons (pv 2) (pa_cons (pe_calS c__law_take hr (by decide) tk rfl (pa_cons (pv 2) (pa_cons pe_int pa_nil))) pa_nil))))))
        (fun a oe cls d pn hz hf => (pss_one (ps_ret pe_bl))))
      (pss_one (ps_if (pt_not (pt_val (pv 3))) (pss_one (ps_ret pe_bl)) pss_nil)))))
      (pss_one (ps_ret pe_bl))), ?_⟩
  obtain ⟨a, ns, rfl, hS, hl, q⟩ := h
  simp only [and_assoc, rst, rs, re, ra, rq, rx, ro, rl, rl2, rsp, rz, rix, rln, rg, rd, ri, rv, rk, rdd, rwi, at0, at1, at2, at3, upd_at, List.getElem?_cons_zero, List.getElem?_cons_succ, Option.some.injEq, exists_eq_left', exists_eq_left, List.set_cons_zero, List.set_cons_succ, true_and, and_true, HO.lst.injEq, HO.tup.injEq, exists_and_left, exists_eq, exists_eq', Br.t, Br.f, Be.t, Be.f, List.cons.injEq, List.append_nil, scal, if_true, if_false, ite_true, ite_false, eq_self_iff_true, decide_true, decide_false, Bool.not_true, Bool.not_false, reduceIte, List.nil_append, List.cons_append, reduceCtorEq, false_and, exists_false, false_or, or_false, Int.reduceLT]
  have hl' : (ns.map V.int).length = ns.length := List.length_map _
  refine ⟨_, .inl hS, by split <;> (split <;> omega), by split <;> (split <;> omega), FI.rng (fun i σ H' => ∃ v1 v2 v3, Same H H' ∧ σ = [some (.ref a), v1, v2, v3]) ⟨none, none, none, fun _ _ z => z, rfl⟩ ?_ ?_⟩
  · rintro i σ H1 hi ⟨v1, v2, v3, s1, rfl⟩
    simp only [and_assoc, rst, rs, re, ra, rq, rx, ro, rl, rl2, rsp, rz, rix, rln, rg, rd, ri, rv, rk, rdd, rwi, at0, at1, at2, at3, upd_at, List.getElem?_cons_zero, List.getElem?_cons_succ, Option.some.injEq, exists_eq_left', exists_eq_left, List.set_cons_zero, List.set_cons_succ, true_and, and_true, HO.lst.injEq, HO.tup.injEq, exists_and_left, exists_eq, exists_eq', Br.t, Br.f, Be.t, Be.f, List.cons.injEq, List.append_nil, scal, if_true, if_false, ite_true, ite_false, eq_self_iff_true, decide_true, decide_false, Bool.not_true, Bool.not_false, reduceIte, List.nil_append, List.cons_append, reduceCtorEq, false_and, exists_false, false_or, or_false, Int.reduceLT]
    refine ⟨_, _, rfl, a, ns, i, rfl, s1.seq hS, by rw [Int.zero_add], by omega, fun z H2 s2 => ⟨_, rfl, z, rfl, fun p H3 s3 fp hb => ⟨_, _, rfl, p, 2, 0, rfl, hb, by decide, rfl, by decide, by decide, fun r H4 r0 r1 b4 hb4 f4 => ⟨_, _, rfl, p, 1, rfl, hb4, by decide, fun H5 b5 => ⟨true, rfl, Br.of (fun e => by cases e) fun _ => ?_⟩⟩⟩⟩⟩
    simp only [and_assoc, rst, rs, re, ra, rq, rx, ro, rl, rl2, rsp, rz, rix, rln, rg, rd, ri, rv, rk, rdd, rwi, at0, at1, at2, at3, upd_at, List.getElem?_cons_zero, List.getElem?_cons_succ, Option.some.injEq, exists_eq_left', exists_eq_left, List.set_cons_zero, List.set_cons_succ, true_and, and_true, HO.lst.injEq, HO.tup.injEq, exists_and_left, exists_eq, exists_eq', Br.t, Br.f, Be.t, Be.f, List.cons.injEq, List.append_nil, scal, if_true, if_false, ite_true, ite_false, eq_self_iff_true, decide_true, decide_false, Bool.not_true, Bool.not_false, reduceIte, List.nil_append, List.cons_append, reduceCtorEq, false_and, exists_false, false_or, or_false, Int.reduceLT]
    have s12 := Same.trans s1 s2
    exact fun q' o ho => b5 _ _ (ne_of_none ho (Same.free s12 fp)) (b4 _ _ (ne_of_none ho (Same.free s12 fp)) (s3 _ _ (s12 _ _ ho)))
  · rintro σ H' ⟨v1, v2, v3, s, rfl⟩
    simp only [and_assoc, rst, rs, re, ra, rq, rx, ro, rl, rl2, rsp, rz, rix, rln, rg, rd, ri, rv, rk, rdd, rwi, at0, at1, at2, at3, upd_at, List.getElem?_cons_zero, List.getElem?_cons_succ, Option.some.injEq, exists_eq_left', exists_eq_left, List.set_cons_zero, List.set_cons_succ, true_and, and_true, HO.lst.injEq, HO.tup.injEq, exists_and_left, exists_eq, exists_eq', Br.t, Br.f, Be.t, Be.f, List.cons.injEq, List.append_nil, scal, if_true, if_false, ite_true, ite_false, eq_self_iff_true, decide_true, decide_false, Bool.not_true, Bool.not_false, reduceIte, List.nil_append, List.cons_append, reduceCtorEq, false_and, exists_false, false_or, or_false, Int.reduceLT]
    exact q _
end
end Law

namespace Law
open PySem PySem.Spec PyProof.Rows L2 Sw
theorem sp_law_of {K : Fg} {H : Hp} {a : Addr} {ns : List Int} (h1 : ns.length ≤ 63) (h2 : SqL K H a (ns.map V.int)) : sp_law K [.ref a] H (fun v _ => v = .bl true) fun _ _ _ => False := ⟨_, rfl, a, ns, rfl, h2, h1, fun _ => rfl⟩
theorem all_ok {P : Program} {w : World} {K : Fg} {mg : Str → Option Value} {base : Heap} {fd : FuncData} (T : Tx K mg w) (F_law : FunD K "law" "law" (defArgs s_law) (defBody s_law) (defScope s_law) [] [] (He.ga K "law") fd) : FnOk P w K mg base (L2.CX P w) 17 (He.ga K "law") fd ["script"] (sp_law K) := by
  have c__law_cell := ok__law_cell (P := P) (w := w) (base := base) T  
  have c__law_box := ok__law_box (P := P) (w := w) (base := base) T  
  have c__law_take := ok__law_take (P := P) (w := w) (base := base) T  
  have c__law_same := okL__law_same (P := P) (w := w) (base := base) T  
  have c__law_error := ok__law_error (P := P) (w := w) (base := base) T  (ex_NoArea T) (ex_NoClue T) (ex_NoCounts T) (ex_NoKind T) (ex_NoLender T) (ex_NoLetter T) (ex_NoRule T) (ex_NoThing T) (ex_NoThings T) (ex_NotStraight T) (ex_NothingDone T) (ex_NothingUndone T) (ex_Thrown T)
  have c__law_fields := ok__law_fields (P := P) (w := w) (base := base) T  
  have c__law_classes := ok__law_classes (P := P) (w := w) (base := base) T  
  have c__law_thing := ok__law_thing (P := P) (w := w) (base := base) T c__law_take 
  have c__law_alike := okL__law_alike (P := P) (w := w) (base := base) T c__law_same 
  have c__law_error_right := ok__law_error_right (P := P) (w := w) (base := base) T c__law_error c__law_fields c__law_classes c__law_thing c__law_alike 
  have c__law_right := ok__law_right (P := P) (w := w) (base := base) T c__law_classes c__law_error_right 
  exact ok_law T F_law c__law_cell c__law_box c__law_take c__law_right
theorem fin {P : Program} {w : World} {K : Fg} {mg : Str → Option Value} {h : Heap} {fa : Addr} (KX : K.In h) (G : h.Ns mainGlobals mg) (c : sayT fp fn ts w K) (hmg : mg ("law" : Str) = some (.ref fa)) :
    ∃ (K : PySem.W.Frag) (fd : FuncData) (sp : Sp), K.In h ∧ (∀ (s : Shared) (u : Value), BindsTo s fd ⟨[u], []⟩ [("script", u)]) ∧
        (∀ (H : Hp) (a : Addr) (ns : List Int), ns.length ≤ 63 → Only H → SqL K H a (ns.map V.int) → sp [.ref a] H (fun v _ => v = .bl true) fun _ _ _ => False) ∧
        ∀ base : Heap, K.In base → base.Ns mainGlobals mg → FnOk P w K mg base (fun _ _ _ _ _ _ => False) 17 fa fd ["script"] sp := by
  have T := tx_mk KX G c
  have e : fa = He.ga K "law" := Value.ref.inj (Option.some.inj (hmg.symm.trans T.g_law))
  exact fin_mk KX e T.F_law (fun _ _ _ _ _ _ us hl => match us, hl with | [_], _ => rfl) (fun H a ns h1 h2 => sp_law_of h1 h2) (fun fd base F => all_ok T F)
abbrev R : PySem.W.OpenRow := PySem.W.OpenLaw.row PySem.Challenge.rw_splitwide_k50_errors_of_the_new_stages
abbrev hk : PySem.W.Hook := hkT 5 fp fn ts
def ob (s : PySem.W.SharedT) : AlX := obT fp fn ts (He.frG (HandSHeadRun.getT s) (asX (HandSHeadRun.getT s) 5))
theorem ob_eq (s : PySem.W.SharedT) : ob s = hk.obs s.abs := obT_eq (HandSHeadRun.getT_eq s)
def loose : List Str := ["SeedError", "NoText", "NoKind", "NoCounts", "NoThing", "NoRule", "NoThings", "NotStraight", "NoClue", "NoArea", "NoLender", "NoLetter", "Thrown", "NothingDone", "NothingUndone", "_law_cell", "_law_box", "_law_take", "_law_same", "_law_error", "_law_fields", "_law_classes", "_law_thing", "_law_alike", "_law_error_right", "_law_right"]
theorem run (w : World) : HandSHeadRun.RunEq R (PySem.W.view R.prog [28]) hk ob 20000 loose w := by
  intro os
  kernel_rfl
end Law
open PySem PySem.W PySem.Calls PyProof.Rows
theorem PySem.Challenge.cw_splitwide_k50_errors_of_the_new_stages_holds : PySem.Challenge.rw_splitwide_k50_errors_of_the_new_stages.Holds := by
  w_on; o_law
  refine HandSHeadRun.head_any (r := OpenLaw.row PySem.Challenge.rw_splitwide_k50_errors_of_the_new_stages) (q := view (OpenLaw.row PySem.Challenge.rw_splitwide_k50_errors_of_the_new_stages).prog [28]) (H := Law.hk) (ob := Law.ob) (M := 20000) (loose := Law.loose) (d := HandSHeadRun.topDef (OpenLaw.row PySem.Challenge.rw_splitwide_k50_errors_of_the_new_stages).prog 28) (kwd := []) Law.ob_eq
    (by kernel_rfl) (fun s => by kernel_rfl) Law.run (by kernel_rfl) (by kernel_rfl) (by kernel_rfl) (by rfl) (by first | assumption | decide +kernel) (by decide +kernel) ⟨rfl, rfl, rfl, rfl, rfl, by decide +kernel⟩ ?hw ?hc
  case hw => w_witness2
  case hc =>
    refine L2.walk_ofE (l := PySem.Challenge.rw_splitwide_k50_errors_of_the_new_stages) (n := 63) (k := 17) (x := "script") (CX := fun _ _ _ _ _ _ => False) rfl (by decide) (by kernel_rfl) ⟨rfl, by decide, by decide⟩ ?F (fun _ _ _ _ z => z)
    intro w mg fa h Y G hmg0
    obtain ⟨K, KX, c⟩ := Y
    have hmg : mg ("law" : PySem.Str) = some (.ref fa) := by
      have e : (HandSHeadRun.topDef (OpenLaw.row PySem.Challenge.rw_splitwide_k50_errors_of_the_new_stages).prog 28).name = ("law" : PySem.Str) := by kernel_rfl
      rw [← e]
      exact hmg0
    exact Law.fin KX G c hmg
