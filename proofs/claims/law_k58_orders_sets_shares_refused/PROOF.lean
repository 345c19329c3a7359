import PyProof.Rows.All
import Wide.All
import OpenK.AllK
import Wide.FinOn
import HandS.ForMost
import HandS.Exc
import HandS.ExcOwn
import HandS.ExcInit
import HandS.ExcIs
import HandS.WordsExc
import HandS.Defaults
import HandS.IsInst
import HandS.CallLocal
import HandS.RevRange
import HandS.Rev
import HandS.Zip
import HandS.Style
import HandS.Wide
import HandS.WideBits
import HandS.Head0
import HandS.Head1
import HandS.Head2
import HandS.HeadEnd
import HandS.HeadHook1
import HandS.HeadHook2
import HandS.ExcField
import HandS.HeadWalk
import HandS.DeepEq
import HandS.TupAny
import HandS.More
import HandS.HeadHook3
import HandS.ExcValue
import HandS.Iter
import HandS.Dict
import HandS.WordsDict
import HandS.TryMany
import HandS.DictComp
import KE.KTupSum
import HandS.TupMul
import PySem.Challenge.RW_splitwide_k58_orders_sets_shares_refused
set_option Elab.async false
set_option linter.all false
set_option maxRecDepth 100000
set_option maxHeartbeats 0
/-! Own words over the layer: the head's facts as a Bool, callable defs, errors of the program's own. -/
namespace Sw
open PySem PySem.Spec PyProof.Rows L2
abbrev Fg := PySem.W.Frag
/-! ### the head: any Bool over the written part, and the defs -/
def obX (p : Fg → Bool) (fn : List He.DefD) (K : Fg) : He.AlD := (p K && fn.all (fun d => d.ok K), fn.map fun d => He.fnW K d.at_)
/-- what the module's names, and the table of the classes' own, reach in n steps -/
def asX (g : Addr → Option Obj) : Nat → List Addr
  | 0 => [mainGlobals, PySem.cStatics]
  | n + 1 => He.growD g (asX g n)
def sayX (p : Fg → Bool) (fn : List He.DefD) (K : Fg) : Prop := obX p fn K = He.valD fn
def hkX (n : Nat) (p : Fg → Bool) (fn : List He.DefD) : PySem.W.Hook where
  α := He.AlD
  obs := fun s => obX p fn (He.frG s.heap.get? (asX s.heap.get? n))
  val := fun _ => He.valD fn
  says := fun _ h => ∃ K : Fg, K.In h ∧ sayX p fn K
  of := fun _ _ e => ⟨_, He.frG_in, e⟩
  keeps := fun _ _ _ ⟨K, hK, c⟩ k => ⟨K, PySem.W.Frag.In.keeps hK k, c⟩
theorem obX_eq {n : Nat} {p : Fg → Bool} {fn : List He.DefD} {g : Addr → Option Obj} {s : Shared} (h : ∀ a, g a = s.heap.get? a) : obX p fn (He.frG g (asX g n)) = (hkX n p fn).obs s := by
  rw [show g = s.heap.get? from funext h] <;> rfl
theorem sayX.p {p : Fg → Bool} {fn : List He.DefD} {K : Fg} (c : sayX p fn K) : p K = true := (He.ba (congrArg (·.1) c)).1
theorem sayX.def_ {p : Fg → Bool} {fn : List He.DefD} {K : Fg} (c : sayX p fn K) (i : Nat) {d : He.DefD} (h : fn[i]? = some d := by rfl) :
    ∃ fd, FunD K d.name d.qual d.params d.body d.scope (d.dvs K) (d.kws K) (He.fAd K d.at_) fd := by
  have c2 : (fn.all fun d => d.ok K) = true := (He.ba (congrArg (·.1) c)).2
  have e : fn.map (fun d => He.fnW K d.at_) = fn.map He.DefD.val := congrArg (·.2) c
  have e2 : (fn.map fun d => He.fnW K d.at_)[i]? = (fn.map He.DefD.val)[i]? := by rw [e]
  rw [List.getElem?_map, List.getElem?_map, h] at e2
  exact He.DefD.funD (Option.some.inj e2) (List.all_eq_true.mp c2 d (List.mem_of_getElem? h))
/-! ### a def that may be called by its name -/
structure Cal (P : Program) (w : World) (K : Fg) (mg : Str → Option Value) (base : Heap) (k : Nat) (x : Str) (ps : List Str) (sp : Sp) : Prop where
  ex : ∃ fd : FuncData, FnOk P w K mg base (L2.CX P w) k (He.ga K x) fd ps sp ∧ Binds K fd ps []
  at_ : mg x = some (.ref (He.ga K x))
  kp : PySem.W.keepIn K (.ref (He.ga K x)) = true
section
variable {X : Cx} {k j : Nat} {x : Str} {ps : List Str} {sp : Sp} {E : XK} {p pos : Pos} {e : Expr} {es : List Expr} {t : TA}
theorem pe_cal (c : Cal X.prog X.w X.K X.mg X.base k x ps sp) (hr : Room j X.A) (hk : k ≤ j) (hx : Passes (L2.CX X.prog X.w) X E) (hg : Gl X x) (ha : PA X (e :: es) t)
    (hd : (x == ("__debug__" : Str)) = false := by decide) (he : starEach (e :: es) X.env = (false, eval e X.env) :: starEach es X.env := by rfl) (hpl : (backTo pos (starEach es X.env)).any (·.1) = false := by rfl) :
    PE X (.Call (.Name x p) (e :: es) [] pos) (tCall sp [] E t) := by
  obtain ⟨fd, F, b⟩ := c.ex
  exact pe_call F (hr.mono hk) hg c.at_ c.kp b .nil hx ha hd he hpl
theorem pe_cal0 (c : Cal X.prog X.w X.K X.mg X.base k x ps sp) (hr : Room j X.A) (hk : k ≤ j) (hx : Passes (L2.CX X.prog X.w) X E) (hg : Gl X x)
    (hd : (x == ("__debug__" : Str)) = false := by decide) : PE X (.Call (.Name x p) [] [] pos) (tCall sp [] E tNil) := by
  obtain ⟨fd, F, b⟩ := c.ex
  exact pe_call0 F (hr.mono hk) hg c.at_ c.kp b .nil hx hd
/-- within a try's body -/
theorem pe_calS {W : WX} (c : Cal X.prog X.w X.K X.mg X.base k x ps sp) (hr : Room j X.A) (hk : k ≤ j) (tk : Takes X W) (hg : Gl X x) (ha : PA X (e :: es) t)
    (hd : (x == ("__debug__" : Str)) = false := by decide) (he : starEach (e :: es) X.env = (false, eval e X.env) :: starEach es X.env := by rfl) (hpl : (backTo pos (starEach es X.env)).any (·.1) = false := by rfl) :
    PE X (.Call (.Name x p) (e :: es) [] pos) (tCallS sp (WE W) t) := by
  obtain ⟨fd, F, b⟩ := c.ex
  exact pe_callS F (hr.mono hk) hg c.at_ c.kp b (fun σ => passAt tk σ) ha hd he hpl
end
/-- one def of the text: its body's reading gives its promise -/
theorem cal_mk {P : Program} {w : World} {K : Fg} {mg : Str → Option Value} {base : Heap} {k : Nat} {x : Str} {N ps : List Str} {sp : Sp} {st : Stmt}
    (F : ∃ fd, FunD K x x (defArgs st) (defBody st) (defScope st) [] [] (He.ga K x) fd) (hm : mg x = some (.ref (He.ga K x))) (S : FnScope N ps (defScope st)) (len : ∀ vs H Q E, sp vs H Q E → vs.length = ps.length)
    (hb : ∀ (kV doc pm : Value) (an : Option Addr) (cdv ct : Value) (us : List Value), us.length = ps.length → bindArgs (PySem.W.fnOf x x (defArgs st) (defBody st) (defScope st) .none kV doc pm an cdv ct) ⟨us, []⟩ = pure (ps.zip us))
    (hbody : ∀ (cdv : Value) (A : Around) (outer : List Env) (s : Shared) (H : Hp) (vs : List V) (Q : VK) (E : XK), Room k (A.deeper (envOfC x (defScope st) s.heap.objs.size (He.ga K x) cdv)) → sp vs H Q E →
      ∃ t, PSs (cxOf (L2.CX P w) P w K mg base N x (defScope st) (He.ga K x) cdv A outer s H E) (defBody st) t ∧ t { nx := fun _ H' => Q .non H', rt := Q } (start N vs) H) : Cal P w K mg base (k + 1) x ps sp := by
  obtain ⟨fd, F⟩ := F
  exact ⟨⟨fd, F.ok S len hbody, F.bindsN hb⟩, hm, F.kp⟩
theorem Cal.imp {P : Program} {w : World} {K : Fg} {mg : Str → Option Value} {base : Heap} {k : Nat} {x : Str} {ps : List Str} {sp sp' : Sp} (c : Cal P w K mg base k x ps sp) (h : ∀ vs H Q E, sp' vs H Q E → sp vs H Q E) :
    Cal P w K mg base k x ps sp' := by
  obtain ⟨⟨fd, F, b⟩, a, kp⟩ := c
  exact ⟨⟨fd, F.imp h, b⟩, a, kp⟩
end Sw

/-! Readings by simp: each reading opened when it stands at its slots and its heap, branches kept shut. -/
namespace Sw
open PySem PySem.Spec PyProof.Rows L2
/-- a branch that waits -/
def Br (b : Bool) (f g : L2.St → Hp → Prop) (σ : L2.St) (H : Hp) : Prop := if b = true then f σ H else g σ H
theorem Br.t {f g : L2.St → Hp → Prop} {σ : L2.St} {H : Hp} : Br true f g σ H = f σ H := by unfold Br; rw [if_pos rfl]
theorem Br.f {f g : L2.St → Hp → Prop} {σ : L2.St} {H : Hp} : Br false f g σ H = g σ H := by unfold Br; rw [if_neg (by decide)]
theorem Br.of {b : Bool} {f g : L2.St → Hp → Prop} {σ : L2.St} {H : Hp} (h1 : b = true → f σ H) (h2 : b = false → g σ H) : Br b f g σ H := by
  cases b with
  | true => rw [Br.t]; exact h1 rfl
  | false => rw [Br.f]; exact h2 rfl
theorem Br.d {p : Prop} [Decidable p] {f g : L2.St → Hp → Prop} {σ : L2.St} {H : Hp} (h1 : p → f σ H) (h2 : ¬ p → g σ H) : Br (decide p) f g σ H := .of (fun h => h1 (of_decide_eq_true h)) fun h => h2 (of_decide_eq_false h)
theorem Br.n {p : Prop} [Decidable p] {f g : L2.St → Hp → Prop} {σ : L2.St} {H : Hp} (h1 : ¬ p → f σ H) (h2 : p → g σ H) : Br (!decide p) f g σ H := .of (fun h => h1 (of_decide_eq_false (by simpa using h))) fun h => h2 (by simpa using h)
/-- a value's branch that waits -/
def Be (b : Bool) (f g : Hp → Prop) (H : Hp) : Prop := if b = true then f H else g H
theorem Be.t {f g : Hp → Prop} {H : Hp} : Be true f g H = f H := by unfold Be; rw [if_pos rfl]
theorem Be.f {f g : Hp → Prop} {H : Hp} : Be false f g H = g H := by unfold Be; rw [if_neg (by decide)]
theorem Be.of {b : Bool} {f g : Hp → Prop} {H : Hp} (h1 : b = true → f H) (h2 : b = false → g H) : Be b f g H := by
  cases b with
  | true => rw [Be.t]; exact h1 rfl
  | false => rw [Be.f]; exact h2 rfl
theorem Be.d {p : Prop} [Decidable p] {f g : Hp → Prop} {H : Hp} (h1 : p → f H) (h2 : ¬ p → g H) : Be (decide p) f g H := .of (fun h => h1 (of_decide_eq_true h)) fun h => h2 (of_decide_eq_false h)
theorem Be.n {p : Prop} [Decidable p] {f g : Hp → Prop} {H : Hp} (h1 : ¬ p → f H) (h2 : p → g H) : Be (!decide p) f g H := .of (fun h => h1 (of_decide_eq_false (by simpa using h))) fun h => h2 (by simpa using h)
theorem upd_at {H : Hp} {a b : Addr} {o : HO} : upd H a o b = if b = a then some o else H b := rfl
theorem rs : (∀ t u D σ H, tSeq t u D σ H = t ⟨u D, D.rt, D.bk, D.ct⟩ σ H) ∧ (∀ D σ H, tNext D σ H = D.nx σ H) ∧ (∀ D σ H, tBreak D σ H = D.bk σ H) ∧ (∀ D σ H, tCont D σ H = D.ct σ H) ∧
    (∀ te g D σ H, tAsg te g D σ H = te σ H fun x H1 => g x σ H1 D.nx) ∧ (∀ te D σ H, tDrop te D σ H = te σ H fun _ H1 => D.nx σ H1) ∧ (∀ te D σ H, tRet te D σ H = te σ H D.rt) ∧ (∀ D σ H, tRetN D σ H = D.rt .non H) ∧
    (∀ c t u D σ H, tIfS c t u D σ H = c σ H fun b H1 => Br b (t D) (u D) σ H1) ∧
    (∀ i j ta D σ H, tPar i j ta D σ H = ta σ H fun vs H1 => ∃ v w, vs = [v, w] ∧ D.nx ((σ.set i (some v)).set j (some w)) H1) ∧
    (∀ i te ti D σ H, tAug i te ti D σ H = ∃ x, σ[i]? = some (some x) ∧ te σ H fun y H1 => ti x y H1 fun z H2 => D.nx (σ.set i (some z)) H2) ∧
    (∀ i v σ H Q, gName i v σ H Q = Q (σ.set i (some v)) H) ∧ (∀ vs σ H Q, gNil vs σ H Q = (vs = [] ∧ Q σ H)) ∧ (∀ t u vs σ H Q, gCons t u vs σ H Q = ∃ v r, vs = v :: r ∧ t v σ H fun σ' H' => u r σ' H' Q) ∧
    (∀ to ti t v σ H Q, gSub to ti t v σ H Q = to σ H fun o H1 => ti σ H1 fun i H2 => t o i v H2 fun H3 => Q σ H3) ∧
    (∀ b f g σ H, Br b f g σ H = Br b f g σ H) := by
  refine ⟨?_, ?_, ?_, ?_, ?_, ?_, ?_, ?_, ?_, ?_, ?_, ?_, ?_, ?_, ?_, ?_⟩ <;> intros <;> rfl
theorem re : (∀ i σ H Q, tVar i σ H Q = ∃ v, σ[i]? = some (some v) ∧ Q v H) ∧ (∀ v σ H Q, tC v σ H Q = Q v H) ∧
    (∀ r ta tb σ H Q, tOp r ta tb σ H Q = ta σ H fun x H1 => tb σ H1 fun y H2 => r x y H2 Q) ∧ (∀ r ta σ H Q, tUn r ta σ H Q = ta σ H fun x H1 => r x H1 Q) ∧
    (∀ g x y H Q, rI0 g x y H Q = ∃ i j, x = .int i ∧ y = .int j ∧ Q (g i j) H) ∧ (∀ C g x y H Q, rI C g x y H Q = ∃ i j, x = .int i ∧ y = .int j ∧ C i j ∧ Q (g i j) H) ∧ (∀ g x H Q, rU g x H Q = ∃ i, x = .int i ∧ Q (g i) H) ∧
    (∀ x y H Q, L2.rEq x y H Q = (scal x y = true ∧ Q (.bl (decide (x = y))) H)) ∧ (∀ x y H Q, L2.rNe x y H Q = (scal x y = true ∧ Q (.bl (!decide (x = y))) H)) ∧
    (∀ t σ H Q, tTest t σ H Q = t σ H fun x H1 => ∃ k, x = .bl k ∧ Q k H1) ∧ (∀ t σ H Q, tB t σ H Q = t σ H fun x H1 => ∃ k, x = .bl k ∧ Q k H1) ∧
    (∀ t u σ H Q, tAnd t u σ H Q = t σ H fun c H1 => Be c (fun H2 => u σ H2 Q) (Q false) H1) ∧ (∀ t u σ H Q, tOr t u σ H Q = t σ H fun c H1 => Be c (Q true) (fun H2 => u σ H2 Q) H1) ∧ (∀ t σ H Q, tNot t σ H Q = t σ H fun c H1 => Q (!c) H1) ∧
    (∀ ta tb σ H Q, tAndV ta tb σ H Q = ta σ H fun x H1 => ∃ c, x = .bl c ∧ Be c (fun H2 => tb σ H2 Q) (Q (.bl false)) H1) ∧ (∀ ta tb σ H Q, tOrV ta tb σ H Q = ta σ H fun x H1 => ∃ c, x = .bl c ∧ Be c (Q (.bl true)) (fun H2 => tb σ H2 Q) H1) ∧
    (∀ ta σ H Q, tNotV ta σ H Q = ta σ H fun x H1 => ∃ c, x = .bl c ∧ Q (.bl (!c)) H1) ∧ (∀ t ta tb σ H Q, tIf t ta tb σ H Q = t σ H fun c H1 => Be c (fun H2 => ta σ H2 Q) (fun H2 => tb σ H2 Q) H1) ∧
    (∀ r r' ta tb tc σ H Q, tChain r r' ta tb tc σ H Q = ta σ H fun x H1 => tb σ H1 fun y H2 => r x y H2 fun z H3 => ∃ k, z = .bl k ∧ Be k (fun H4 => tc σ H4 fun w' H5 => r' y w' H5 Q) (Q (.bl false)) H3) := by
  refine ⟨?_, ?_, ?_, ?_, ?_, ?_, ?_, ?_, ?_, ?_, ?_, ?_, ?_, ?_, ?_, ?_, ?_, ?_, ?_⟩ <;> intros <;> rfl
theorem ra : (∀ σ H Q, tNil σ H Q = Q [] H) ∧ (∀ ta tr σ H Q, tCons ta tr σ H Q = ta σ H fun x H1 => tr σ H1 fun xs H2 => Q (x :: xs) H2) ∧ (∀ t σ H Q, tTup t σ H Q = t σ H fun xs H1 => xs.length ≤ sizeLine ∧ ∀ p, H1 p = none → Q (.ref p) (upd H1 p (.tup xs))) ∧
    (∀ t σ H Q, tLst t σ H Q = t σ H fun xs H1 => xs.length ≤ sizeLine ∧ ∀ p, H1 p = none → Q (.ref p) (upd H1 p (.lst xs))) ∧ (∀ sp dvs E t σ H Q, tCall sp dvs E t σ H Q = t σ H fun vs H1 => sp (vs ++ dvs) H1 Q E) ∧
    (∀ sp E t σ H Q, tCallS sp E t σ H Q = t σ H fun vs H1 => sp vs H1 Q (E σ)) ∧ (∀ r t σ H Q, tCB r t σ H Q = t σ H fun vs H1 => r vs H1 Q) ∧
    (∀ σ H Q, tNoPart σ H Q = Q none H) ∧ (∀ t σ H Q, tPart t σ H Q = t σ H fun x H1 => ∃ i, x = .int i ∧ Q (some i) H1) ∧ (∀ r te tl th σ H Q, tSl r te tl th σ H Q = te σ H fun x H1 => tl σ H1 fun l H2 => th σ H2 fun u H3 => r x l u H3 Q) ∧
    (∀ K T r to σ H Q, tBM0 K T r to σ H Q = to σ H fun x H1 => tyV K T x H1 ∧ r x [] H1 Q) ∧ (∀ K T r to t σ H Q, tBM K T r to t σ H Q = to σ H fun x H1 => tyV K T x H1 ∧ t σ H1 fun xs H2 => r x xs H2 Q) ∧
    (∀ K ta σ H Q, tVeI K ta σ H Q = ta σ H fun vs H1 => ∃ (a C : Addr) (ws : List V), vs = .ref a :: ws ∧ ws.length ≤ 1000 ∧ OexC K C ∧ H1 a = some (exo a C none) ∧ Q .non H1) := by
  refine ⟨?_, ?_, ?_, ?_, ?_, ?_, ?_, ?_, ?_, ?_, ?_, ?_, ?_⟩ <;> intros <;> rfl
/-! ### sequences by their place -/
def seqO : HO → Option (List V)
  | .lst xs => some xs
  | .tup xs => some xs
  | .frz _ (.lst xs) => some xs
  | .frz _ (.tup xs) => some xs
  | _ => none
theorem seqO_sq {K : Fg} {H : Hp} {p : Addr} {o : HO} {xs : List V} (h : H p = some o) (e : seqO o = some xs) : SqL K H p xs ∨ SqT K H p xs := by
  unfold seqO at e
  split at e <;> first
    | (cases e; exact .inl (.inl (.inl h)))
    | (cases e; exact .inr (.inl (.inl h)))
    | (cases e; exact .inl (.inl (.inr ⟨_, h⟩)))
    | (cases e; exact .inr (.inl (.inr ⟨_, h⟩)))
    | cases e
def rIxQ : R2 := fun x y H Q => ∃ p o xs i v, x = .ref p ∧ H p = some o ∧ seqO o = some xs ∧ y = .int i ∧ atI xs i = some v ∧ Q v H
theorem ix_q {X : Cx} : IxR X rIxQ := fun value slice pins s σ H x y v u Q I rx ry h hp => by
  obtain ⟨p, o, xs, i, z, rfl, ho, hs, rfl, ha, q⟩ := h
  rcases seqO_sq (K := X.K) ho hs with l | l
  · exact ix_list value slice pins s σ H _ _ v u Q I rx ry ⟨p, xs, i, z, rfl, rfl, l, ha, q⟩ hp
  · exact ix_tup value slice pins s σ H _ _ v u Q I rx ry ⟨p, xs, i, z, rfl, rfl, l, ha, q⟩ hp
def rLenQ : List V → Hp → VK → Prop := fun vs H Q => ∃ p o xs, vs = [.ref p] ∧ H p = some o ∧ seqO o = some xs ∧ Q (.int (xs.length : Nat)) H
theorem len_q {X : Cx} : CallR X (.builtin "len") rLenQ := fun pins s σ H xs us Q I r h => by
  obtain ⟨p, o, ys, rfl, ho, hs, q⟩ := h
  exact call_len_seq pins s σ H _ us Q I r ⟨p, ys, rfl, seqO_sq ho hs, q⟩
/-- list(t), a new list -/
def rLstQ : List V → Hp → VK → Prop := fun vs H Q => ∃ p o xs, vs = [.ref p] ∧ H p = some o ∧ seqO o = some xs ∧ ∀ l, H l = none → Q (.ref l) (upd H l (.lst xs))
theorem lst_q {X : Cx} : CallR X (.type "list") rLstQ := fun pins s σ H xs us Q I r h => by
  obtain ⟨p, o, ys, rfl, ho, hs, q⟩ := h
  exact call_list_of pins s σ H _ us Q I r ⟨p, ys, rfl, seqO_sq ho hs, q⟩
/-- tuple(l) of a list -/
def rTupQ : List V → Hp → VK → Prop := fun vs H Q => ∃ p xs, vs = [.ref p] ∧ H p = some (.lst xs) ∧ ∀ l, H l = none → Q (.ref l) (upd H l (.tup xs))
theorem tup_q {X : Cx} : CallR X (.type "tuple") rTupQ := fun pins s σ H xs us Q I r h => by
  obtain ⟨p, ys, rfl, ho, q⟩ := h
  exact call_tuple_of pins s σ H _ us Q I r ⟨p, ys, rfl, .inl ⟨SqL.of ho, q⟩⟩
/-! ### products -/
def MulOk (i j : Int) : Prop := CMul i j ∨ CMulW i j
theorem op_mulA {X : Cx} : OpR X (binaryOp .Mult) (rI MulOk fun i j => .int (i * j)) := fun pins s σ H x y v u Q I rx ry h => by
  obtain ⟨i, j, rfl, rfl, c, q⟩ := h
  rcases c with c | c
  · exact op_mul pins s σ H _ _ v u Q I rx ry ⟨i, j, rfl, rfl, c, q⟩
  · exact op_mulW pins s σ H _ _ v u Q I rx ry ⟨i, j, rfl, rfl, c, q⟩
theorem rq : (∀ x y H Q, rIxQ x y H Q = ∃ p o xs i v, x = .ref p ∧ H p = some o ∧ seqO o = some xs ∧ y = .int i ∧ atI xs i = some v ∧ Q v H) ∧ (∀ vs H Q, rLenQ vs H Q = ∃ p o xs, vs = [.ref p] ∧ H p = some o ∧ seqO o = some xs ∧ Q (.int (xs.length : Nat)) H) ∧
    (∀ vs H Q, rLstQ vs H Q = ∃ p o xs, vs = [.ref p] ∧ H p = some o ∧ seqO o = some xs ∧ ∀ l, H l = none → Q (.ref l) (upd H l (.lst xs))) ∧ (∀ vs H Q, rTupQ vs H Q = ∃ p xs, vs = [.ref p] ∧ H p = some (.lst xs) ∧ ∀ l, H l = none → Q (.ref l) (upd H l (.tup xs))) ∧
    (∀ xs, seqO (.lst xs) = some xs) ∧ (∀ xs, seqO (.tup xs) = some xs) ∧ (∀ o xs, seqO (.frz o (.lst xs)) = some xs) ∧ (∀ o i v H Q, rSetL o i v H Q = ∃ p xs k j, o = .ref p ∧ i = .int k ∧ H p = some (.lst xs) ∧ ixN xs.length k = some j ∧ Q (upd H p (.lst (xs.set j v)))) ∧
    (∀ x vs H Q, rAppend x vs H Q = ∃ l xs y, x = .ref l ∧ vs = [y] ∧ H l = some (.lst xs) ∧ xs.length < sizeLine ∧ Q .non (upd H l (.lst (xs ++ [y])))) ∧ (∀ x vs H Q, rClear x vs H Q = ∃ l xs, x = .ref l ∧ vs = [] ∧ H l = some (.lst xs) ∧ Q .non (upd H l (.lst []))) := by
  refine ⟨?_, ?_, ?_, ?_, ?_, ?_, ?_, ?_, ?_, ?_⟩ <;> intros <;> rfl
theorem at0 {a : V} {l : List V} : atI (a :: l) 0 = some a := by simp [atI, ixN]
theorem at1 {a b : V} {l : List V} : atI (a :: b :: l) 1 = some b := by
  have : (1 : Int) < (l.length : Int) + 1 + 1 := by omega
  simp [atI, ixN, this]
theorem at2 {a b c : V} {l : List V} : atI (a :: b :: c :: l) 2 = some c := by
  have : (2 : Int) < (l.length : Int) + 1 + 1 + 1 := by omega
  simp [atI, ixN, this]
theorem at3 {a b c d : V} {l : List V} : atI (a :: b :: c :: d :: l) 3 = some d := by
  have : (3 : Int) < (l.length : Int) + 1 + 1 + 1 + 1 := by omega
  simp [atI, ixN, this]
/-- what simp opens besides -/
theorem rx : (∀ (v : V) l, some v = some l ↔ v = l) ∧ (∀ (a b : Int), V.int a = V.int b ↔ a = b) ∧ (∀ (a b : Bool), V.bl a = V.bl b ↔ a = b) ∧ (∀ (a b : Addr), V.ref a = V.ref b ↔ a = b) ∧ (∀ (a b : Str), V.str a = V.str b ↔ a = b) := by
  refine ⟨?_, ?_, ?_, ?_, ?_⟩ <;> intros <;> simp
theorem rst : (∀ x N v vs, L2.start (x :: N) (v :: vs) = some v :: L2.start N vs) ∧ (∀ x N, L2.start (x :: N) [] = none :: L2.start N []) ∧ (L2.start [] [] = []) := by
  refine ⟨?_, ?_, ?_⟩ <;> intros <;> simp [L2.start, List.replicate_succ]
theorem rg : (∀ (a : V) (l : List V), ([] : List V) = a :: l ↔ False) ∧ (∀ (a : V) (l : List V), a :: l = ([] : List V) ↔ False) ∧ (∀ o u : HO, some o = some u ↔ o = u) := by
  refine ⟨?_, ?_, ?_⟩ <;> intros <;> simp
end Sw

/-! Errors of the program's own: a class over SeedError (over ValueError) whose __init__ says SeedError.__init__(self, text) and keeps one thing. -/
namespace PySem.W
open PySem.Calls PyProof.Rows
section
variable {prog : Program} {w : World} {A : Around} {E : Value → Shared → Prop} {s : Shared} {K : Frag} {x D : Addr} {ox : Obj} {od : Option Obj}
theorem sw_findData {C : Addr} {name : Str} {a g : Value} (hc : (clsIn K C).isSome = true) (ha : findIn K (.ref C) name = some (some a)) (hg : specialIn K a "__get__" = some (some g)) (ht : takesIn K a = some true) : findObj K C od name = some (.bind g a) := by
  obtain ⟨cd, q⟩ := Option.isSome_iff_exists.mp hc
  unfold findObj
  rw [q]
  simp [ha, hg, ht]
/-- the class of an exception that may have its own dict -/
theorem sw_classE {Q : Option Value → Shared → Prop} (hga : findIn K (.ref D) "__getattribute__" = some (some (.builtin "BaseException.__getattribute__"))) (hgt : findIn K (.ref D) "__getattr__" = some none) (hsub : subIn K (.ref D) (.type "BaseException") = some true)
    (hdct : hasDictIn K D = true) (ha : findIn K (.ref D) "__class__" = some (some (.builtin "object.__class__")))
    (hn : specialIn K (.builtin "object.__class__") "__get__" = some (some (.builtin "getset_descriptor.__get__"))) (htk : takesIn K (.builtin "object.__class__") = some true) (hm : mroIn K D (.type "object") = some true)
    (X : K.In s.heap) (I : InstAt s.heap x ox D od) (h : Q (some (.ref D)) { s with toks := s.toks + 1 }) : wpAny (model prog w) A (getAttr? (.ref x) "__class__") Q E s := by
  have hfo : findObj K D od "__class__" = some (.bind (.builtin "getset_descriptor.__get__") (.builtin "object.__class__")) := sw_findData (by obtain ⟨cd, hc, _⟩ := any_some hdct; rw [hc] <;> rfl) ha hn htk
  obtain ⟨hp, g, d, t, os⟩ := s
  have la := I.type (M := model prog w)
  have lb := looks_findIn (M := model prog w) X hga
  have lc := looks_findIn (M := model prog w) X hgt
  have ld := looks_find (M := model prog w) X I hfo
  have ls : Looks (model prog w) hp (isInstance (.ref x) (.type "BaseException")) true := la.andThen (looks_subIn X hsub)
  have k2 : (Value.builtin "BaseException.__getattribute__" == Value.builtin "object.__getattribute__") = false := by decide +kernel
  have k1 : (onTheHeap (Value.ref D) && Value.builtin "BaseException.__getattribute__" == Value.builtin "object.__getattribute__") = false := by rw [k2] <;> rfl
  unfold getAttr? getAttrBy? getAttrBy
  refine wpAny_bind (wpAny_mkText (wpAny_bind (wpAny_attempt (wpAny_holding (wpAny_bind (la.at (wpAny_bind (lb.at ?_))))))))
  show wpAny _ _ (if (onTheHeap (Value.ref D) && Value.builtin "BaseException.__getattribute__" == Value.builtin "object.__getattribute__") = true then _ else _) _ _ _
  rw [k1, if_neg (by decide)]
  unfold getAttrByItsOwn hookBefore
  refine wpAny_bind ?_
  rw [if_pos (by rfl : onTheHeap (Value.ref D) = true)]
  refine lc.at ?_
  refine wpAny_bind (wpAny_attempt (wpAny_holding ?_))
  unfold callGetattribute
  rw [show (false && onTheHeap (Value.builtin "BaseException.__getattribute__")) = false from rfl, if_neg (by decide)]
  unfold boundAndCalled
  rw [PySem.F.excAttr_ValueError.ga.bind (.ref x)]
  refine wpAny_bind (wpAny_pure ?_)
  show wpAny _ _ (call (.builtin "BaseException.__getattribute__") [.ref x, .str "__class__" t]) _ _ _
  refine wpAny_call (codeAny_call_builtin PySem.F.excAttr_ValueError.ga.plain PySem.F.entry_bexc_ga ?_)
  refine @check_slot (model prog w) _ _ ⟨hp, g, d, t + 1, os⟩ "BaseException.__getattribute__" "BaseException" "__getattribute__" (.ref x) [.str "__class__" t] [] _ (by decide +kernel) (by decide +kernel) ls (PySem.F.args_bexc_ga (.ref x) (.str "__class__" t)) ?_
  unfold Builtin.«object.__getattribute__»
  refine wpAny_bind (wpAny_of_eq (a := ((Value.ref x : Value), [Value.str "__class__" t])) (by first | rfl | (simp only [slotArgs] <;> rfl)) ?_)
  refine wpAny_bind (wpAny_pure (wpAny_bind (la.at (wpAny_bind (ld.at ?_)))))
  show wpAny _ _ (holding [Value.builtin "object.__class__"] (call (.builtin "getset_descriptor.__get__") [.builtin "object.__class__", .ref x, .ref D]) >>= ret) _ _ _
  refine wpAny_bind (wpAny_holding (wpAny_call (class_get (s := ⟨hp, g, d, t + 1, os⟩) (ox := ox) (od := od) X I hm ?_)))
  refine wpAny_pure ?_
  show wpAny _ _ (handedOut (.ref D)) _ _ _
  rw [handedOut_of (v := .ref D) rfl]
  first
    | exact wpAny_pure (wpAny_pure h)
    | exact wpAny_pure h
    | exact wpAny_pure (wpAny_bind (wpAny_pure (wpAny_pure h)))
theorem sw_kitE (hga : findIn K (.ref D) "__getattribute__" = some (some (.builtin "BaseException.__getattribute__"))) (hgt : findIn K (.ref D) "__getattr__" = some none) (hsub : subIn K (.ref D) (.type "BaseException") = some true)
    (hdct : hasDictIn K D = true) (ha : findIn K (.ref D) "__class__" = some (some (.builtin "object.__class__")))
    (hn : specialIn K (.builtin "object.__class__") "__get__" = some (some (.builtin "getset_descriptor.__get__"))) (htk : takesIn K (.builtin "object.__class__") = some true) (hm : mroIn K D (.type "object") = some true) :
    KitX K (.ref x) (.ref D) (fun h => InstAt h x ox D od) where
  ty := fun _ _ _ I => I.type
  it := fun _ _ X _ => by
    obtain ⟨cd, hc, _⟩ := any_some hdct
    unfold clsIn at hc
    split at hc
    · rename_i e1 e2 e3 e4 ho
      intro A' Q' E' s' k q
      unfold isType loadHead
      exact wpAny_bind (wpAny_loadPart (k _ _ (X _ _ ho)) (wpAny_pure q))
    · cases hc
  ne := fun h tp dd its n sl X htp => by
    obtain ⟨cd, hc, _⟩ := any_some hdct
    refine Bool.eq_false_iff.mpr fun q => ?_
    have e : D = tp := Value.ref.inj (beq_iff_eq.mp q)
    subst e
    unfold clsIn at hc
    split at hc
    · rename_i e1 e2 e3 e4 ho
      have z := (X _ _ ho).symm.trans htp
      cases z
    · cases hc
  ca := fun X I k => sw_classE hga hgt hsub hdct ha hn htk hm X I k
end
end PySem.W
namespace Sw
open PySem PySem.Spec PyProof.Rows L2
/-! ### what the head says of such a class, as one Bool -/
def excB (K : Fg) (C : Addr) : Bool := match K.lookup C with
  | some ⟨.type "type", _, .cls cd, sl⟩ => (match cd.mro, sl.toList with
    | .ref C' :: bm, [_, _, _, _, some (.builtin n), _] => decide (C' = C) && (decide (n = "ValueError.__new__") && (!cd.hasDel && (cd.hasDict && PySem.HandSPX.refsVE bm)))
    | _, _ => false)
  | _ => false
def exB (K : Fg) (C : Addr) : Bool := excB K C && (decide (PySem.W.findIn K (.ref C) "__setattr__" = some (some (.builtin "object.__setattr__"))) && (xfB K C && (decide (PySem.W.typeIn K (.ref C) = some (.type "type")) && (PySem.W.keepIn K (.ref C) &&
  (decide (PySem.W.findIn K (.ref C) "__class__" = some (some (.builtin "object.__class__"))) && (decide (PySem.W.mroIn K C (.type "object") = some true) &&
  (decide (PySem.W.specialIn K (.builtin "object.__class__") "__get__" = some (some (.builtin "getset_descriptor.__get__"))) && decide (PySem.W.takesIn K (.builtin "object.__class__") = some true))))))))
structure ExC (K : Fg) (C : Addr) : Prop where
  ox : OexC K C
  xf : XfC K C
  cc : PySem.W.findIn K (.ref C) "__class__" = some (some (.builtin "object.__class__"))
  mo : PySem.W.mroIn K C (.type "object") = some true
  gs : PySem.W.specialIn K (.builtin "object.__class__") "__get__" = some (some (.builtin "getset_descriptor.__get__"))
  tk : PySem.W.takesIn K (.builtin "object.__class__") = some true
theorem excB_ok {K : Fg} {C : Addr} (h : excB K C = true) : ∃ nm q N bs bm sn sub ab col dd k0 k1 k2 k3 k5, K.lookup C = some (excClassObj nm q C N bs bm true sn sub ab col dd k0 k1 k2 k3 k5 "ValueError.__new__") ∧ PySem.HandSPX.refsVE bm = true := by
  unfold excB at h
  split at h
  · rename_i dd cd sl ho
    split at h
    · rename_i C' bm k0 k1 k2 k3 n k5 hm hs
      simp only [Bool.and_eq_true, decide_eq_true_eq, Bool.not_eq_true'] at h
      obtain ⟨rfl, rfl, h3, h4, h5⟩ := h
      obtain ⟨nm, bs, mro, ns, qn, hd, sn, sub, ab, col, dl⟩ := cd
      dsimp only at hm h3 h4
      subst hm h3 h4
      obtain ⟨sl⟩ := sl
      dsimp only at hs
      subst hs
      exact ⟨nm, qn, ns, bs, bm, sn, sub, ab, col, dd, k0, k1, k2, k3, k5, ho, h5⟩
    · cases h
  · cases h
theorem exB_ok {K : Fg} {C : Addr} (h : exB K C = true) : ExC K C := by
  unfold exB at h
  simp only [Bool.and_eq_true, decide_eq_true_eq] at h
  obtain ⟨h1, h2, h3, h4, h5, h6, h7, h8, h9⟩ := h
  have xf := xfB_ok h3
  exact ⟨⟨excB_ok h1, h2, xf.exC, h4, h5⟩, xf, h6, h7, h8, h9⟩
/-- SeedError.__init__: the base's, read off the class at C -/
def iniB (K : Fg) (C : Addr) : Bool := decide (PySem.W.specialIn K (.ref C) "__getattribute__" = some (some (.builtin "type.__getattribute__"))) && (PySem.W.readsIn K C (.type "type") &&
  (match PySem.W.findCls K (.ref C) (.type "type") "__init__" with
  | some (.val (.builtin n)) => decide (n = "ValueError.__init__")
  | _ => false))
structure IniC (K : Fg) (C : Addr) : Prop where
  sp : PySem.W.specialIn K (.ref C) "__getattribute__" = some (some (.builtin "type.__getattribute__"))
  rd : PySem.W.readsIn K C (.type "type") = true
  fc : PySem.W.findCls K (.ref C) (.type "type") "__init__" = some (.val (.builtin "ValueError.__init__"))
theorem iniB_ok {K : Fg} {C : Addr} (h : iniB K C = true) : IniC K C := by
  unfold iniB at h
  simp only [Bool.and_eq_true, decide_eq_true_eq] at h
  obtain ⟨h1, h2, h3⟩ := h
  refine ⟨h1, h2, ?_⟩
  split at h3
  · rename_i n q
    have e : n = "ValueError.__init__" := of_decide_eq_true h3
    rw [q, e]
  · cases h3
section
variable {X : Cx} {o e : Expr} {es : List Expr} {ta : TA} {S : Str} {p1 p2 pos : Pos} {Cs : Addr}
/-- S.__init__(self, ..), S a class of the program whose __init__ is ValueError's -/
theorem pe_sinit (I0 : IniC X.K Cs) (hg : Gl X S) (hm : X.mg S = some (.ref Cs)) (ha : PA X (e :: es) ta) (hl : (p2.endLine == pos.line) = true := by rfl) (hf : methodCallForm ((e :: es).length + ([] : List Keyword).length) (backTo pos (starEach (e :: es) X.env)) (backToKw pos (keywordEach [] X.env)) = true := by rfl)
    (hdb : (S == ("__debug__" : Str)) = false := by decide)
    (he : starEach (e :: es) X.env = (false, eval e X.env) :: starEach es X.env := by rfl) (hpl : (backTo pos (starEach es X.env)).any (·.1) = false := by rfl) :
    PE X (.Call (.Attribute (.Name S p1) "__init__" p2) (e :: es) [] pos) (tVeI X.K ta) := by
  refine ⟨fun pins s σ H Q I h => ?_⟩
  have hc : eval (.Call (.Attribute (.Name S p1) "__init__" p2) (e :: es) [] pos) X.env = (do
      let ov ← eval (.Name S p1) X.env
      standAt p2.atName
      let (f, first) ← holding [ov] (getMethod ov "__init__" (plainOf (.Name S p1) X.env))
      callWith pos f first (backTo pos (starEach (e :: es) X.env)) (backToKw pos (keywordEach [] X.env))) := by
    show (do let ov ← eval (.Name S p1) X.env; standAt p2.atName; methodCall (.Name S p1) "__init__" p2 pos X.env ov _ _ _) = _
    simp only [mcall_line hf hl]
  refine PySem.W.methodCall_KW (ld_glob I hg hm ?_ hdb) hc
  refine PySem.W.method_cls I.kIn I0.sp (PySem.W.cls_value I.kIn I0.rd I0.fc (by decide +kernel) ?_)
  show wpAny _ _ (callWith pos (Value.builtin "ValueError.__init__") [] (backTo pos (starEach (e :: es) X.env)) []) _ _ _
  refine PyProof.Rows.callWith_method1 (thn (ha.run pos pins _ σ H _ (I.tok _) h) fun us s1 ⟨vs, H1, I1, r1, a, C, ws, ev, hl, T, ea, q⟩ => ?_) he hpl
  subst ev
  cases r1 with
  | @cons _ u0 _ ur ra rr =>
    obtain rfl : u0 = Value.ref a := ra
    have hlen : ur.length ≤ sizeLine := by
      rw [← Paired.length rr, sizeLine_eq]
      omega
    exact oinit_ok T I1 ea hlen fun s' J => ⟨.non, H1, J, rfl, q⟩
end
theorem ro : (∀ K f to te D σ H, tOst K f to te D σ H = te σ H fun y H1 => to σ H1 fun x H2 => ∃ a C : Addr, x = .ref a ∧ OexC K C ∧ PySem.W.findIn K (.ref C) f = some none ∧
      ((H2 a = some (exo a C none) ∧ ∀ dx, H2 dx = none → dx ≠ a → D.nx σ (upd (upd H2 dx (exd dx [(f, y)])) a (exo a C (some dx)))) ∨
        ∃ (dx : Addr) (fs : List (Str × V)), H2 a = some (exo a C (some dx)) ∧ H2 dx = some (exd dx fs) ∧ fs.length ≤ 900 ∧ D.nx σ (upd H2 dx (exd dx ((f, y) :: fs))))) ∧
    (∀ a cls d C f te σ H Q, tXf a cls d C f te σ H Q = te σ H fun x H1 => x = .ref a ∧ cls = .ref C ∧ ∃ (dd : Addr) (fs : List (Str × V)) (v : V), d = some dd ∧ H1 dd = some (.xd fs) ∧ fs.lookup f = some v ∧ Q v H1) := by
  refine ⟨?_, ?_⟩ <;> intros <;> rfl
/-! ### the __init__ of such a class with one field -/
def ini1 (m f : Str) (p1 p2 p3 p4 p5 p6 p7 p8 p9 p10 : Pos) (j : Nat) : List Stmt :=
  [.Expr (.Call (.Attribute (.Name "SeedError" p1) "__init__" p2) [.Name "self" p3, .Constant (.str m) j p4] [] p5) p6, .Assign [.Attribute (.Name "self" p7) f p8] (.Name f p9) p10]
def spIni1 (C : Addr) (f : Str) : Sp := fun vs H Q _ => ∃ (a : Addr) (v : V), vs = [.ref a, v] ∧ H a = some (exo a C none) ∧ ∀ d, H d = none → d ≠ a → Q .non (upd (upd H d (exd d [(f, v)])) a (exo a C (some d)))
theorem ok_ini1 {P : Program} {w : World} {K : Fg} {mg : Str → Option Value} {base : Heap} {C Cs fI : Addr} {f m qual : Str} {params : Arguments} {body : List Stmt} {scope : Scope} {fd : FuncData}
    {p1 p2 p3 p4 p5 p6 p7 p8 p9 p10 : Pos} {j : Nat} (F : FunD K "__init__" qual params body scope [] [] fI fd) (S : FnScope ["self", f] ["self", f] scope) (hb : body = ini1 m f p1 p2 p3 p4 p5 p6 p7 p8 p9 p10 j)
    (l1 : scope.names.lookup ("self" : Str) = some .local) (l2 : scope.names.lookup f = some .local) (l3 : scope.names.lookup ("SeedError" : Str) = some .globalImplicit) (hdb : (f == ("__debug__" : Str)) = false) (hcd : (f == ("__classdict__" : Str)) = false)
    (hl : (p2.endLine == p5.line) = true)
    (T : ExC K C) (I0 : IniC K Cs) (gS : mg "SeedError" = some (.ref Cs)) (hno : PySem.W.findIn K (.ref C) f = some none) : FnOk P w K mg base (L2.CX P w) 2 fI fd ["self", f] (spIni1 C f) := by
  subst hb
  refine F.ok S (fun vs H Q E h => ?_) (fun cdv A outer s H vs Q E hr h => ?_)
  · obtain ⟨a, v, rfl, _⟩ := h
    rfl
  · obtain ⟨a, v, rfl, ha, k⟩ := h
    refine ⟨_, pss_cons (ps_expr (pe_sinit I0 l3 gS (pa_cons (pv 0 (hv := .inl l1)) (pa_cons pe_str pa_nil)) (hl := hl))) (pss_one (ps_ost (pv 0 (hv := .inl l1)) (pv 1 (hv := .inl l2) (hd := hdb) (hcd := hcd)))), ?_⟩
    simp only [rst, rs, re, ra, ro, List.getElem?_cons_zero, List.getElem?_cons_succ, Option.some.injEq, exists_eq_left', exists_eq_left, exists_and_left, exists_eq, exists_eq', List.cons.injEq, V.ref.injEq]
    exact ⟨a, C, [.str m], ⟨rfl, rfl⟩, (by show 1 ≤ 1000; decide), T.ox, ha, C, T.ox, hno, .inl ⟨ha, k⟩⟩
/-- C(e): such an error is made; it is kept away but for its own dict -/
def tMk1 (C : Addr) (f : Str) (ta : TA) : L2.St → Hp → XK → Prop := fun σ H Q => ta σ H fun vs H1 => ∃ v, vs = [v] ∧ ∀ d, H1 d = none → Q (.ref C) (some d) (upd H1 d (.xd [(f, v)]))
/-- raise C(e) -/
def tRs1 (C : Addr) (f : Str) (W : WX) (ta : TA) : TS := fun _ σ H => tMk1 C f ta σ H fun cls d H' => W cls d σ H'
/-- the class x: where it stands, its __init__ -/
structure Exn (P : Program) (w : World) (K : Fg) (mg : Str → Option Value) (base : Heap) (x f : Str) : Prop where
  at_ : mg x = some (.ref (He.ga K x))
  c : ExC K (He.ga K x)
  no : PySem.W.findIn K (.ref (He.ga K x)) f = some none
  ini : ∃ (fI : Addr) (fd : FuncData), PySem.W.findIn K (.ref (He.ga K x)) "__init__" = some (some (.ref fI)) ∧ PySem.W.typeIn K (.ref fI) = some (.type "function") ∧ FnOk P w K mg base (L2.CX P w) 2 fI fd ["self", f] (spIni1 (He.ga K x) f) ∧ Binds K fd ["self", f] []
section
variable {X : Cx} {k : Nat} {x f : Str} {e : Expr} {es : List Expr} {ta : TA} {p pos : Pos} {W : WX}
theorem pa_mono {t : TA} {es : List Expr} (h : PA X es t) : PA X es (fun σ H Q => ∃ R : List V → Hp → Prop, t σ H R ∧ ∀ vs H1, R vs H1 → Q vs H1) := ⟨fun pos pins s σ H Q I ⟨R, h1, h2⟩ =>
  thn (h.run pos pins s σ H R I h1) fun us s1 ⟨vs, H1, I1, r, q⟩ => ⟨vs, H1, I1, r, h2 _ _ q⟩⟩
theorem pmk_1 (T : Exn X.prog X.w X.K X.mg X.base x f) (hr : Room k X.A) (hk : 3 ≤ k) (hg : Gl X x) (ha : PA X (e :: es) ta)
    (hdb : (x == ("__debug__" : Str)) = false := by decide) (he : starEach (e :: es) X.env = (false, eval e X.env) :: starEach es X.env := by rfl) (hpl : (backTo pos (starEach es X.env)).any (·.1) = false := by rfl) :
    PMk X (.Call (.Name x p) (e :: es) [] pos) (tMk1 (He.ga X.K x) f ta) := by
  obtain ⟨fI, fd, iC, tI, F, b⟩ := T.ini
  intro pins s σ H Q I h
  refine pmk_oex (CX := L2.CX X.prog X.w) (k := 2) (ds := []) (dvs := []) T.c.ox iC tI F (hr.mono hk) b .nil passL hg T.at_ (pa_mono ha) hdb he hpl pins s σ H Q I ⟨_, h, fun vs H1 q => ?_⟩
  obtain ⟨v, rfl, q⟩ := q
  refine ⟨by show 1 ≤ 1000; decide, fun a na => ⟨a, v, rfl, upd_same, fun d nd ne => ?_⟩⟩
  rw [upd_ne ne] at nd
  refine ⟨rfl, d, [(f, v)], upd_same, by rw [upd_ne ne, upd_same], nd, ?_⟩
  have e : upd (del (upd (upd (upd H1 a (exo a (He.ga X.K x) none)) d (exd d [(f, v)])) a (exo a (He.ga X.K x) (some d))) a) d (.xd [(f, v)]) = upd H1 d (.xd [(f, v)]) := by
    funext b
    by_cases hd : b = d
    · rw [hd, upd_same, upd_same]
    · rw [upd_ne hd, upd_ne hd]
      by_cases hb : b = a
      · rw [hb, del_same, na]
      · rw [del_ne hb, upd_ne hb, upd_ne hd, upd_ne hb]
  rw [e]
  exact q d nd
/-- raise x(e) -/
theorem ps_rs1 {pos' : Pos} (T : Exn X.prog X.w X.K X.mg X.base x f) (hc : X.calm = true) (tk : Takes X W) (hr : Room k X.A) (hk : 3 ≤ k) (hg : Gl X x) (ha : PA X (e :: es) ta)
    (hdb : (x == ("__debug__" : Str)) = false := by decide) (he : starEach (e :: es) X.env = (false, eval e X.env) :: starEach es X.env := by rfl) (hpl : (backTo pos (starEach es X.env)).any (·.1) = false := by rfl) :
    PS X (.Raise (some (.Call (.Name x p) (e :: es) [] pos)) none pos') (tRs1 (He.ga X.K x) f W ta) := ps_raise hc tk (pmk_1 T hr hk hg ha hdb he hpl)
/-! ### in an except suite -/
/-- e.f -/
theorem pe_exf {a : Addr} {oe : Obj} {cls : Value} {d : Option Addr} {pn : List (Addr × Obj)} {e : Expr} {te : TE} {C : Addr} (T : ExC X.K C) (hno : PySem.W.findIn X.K (.ref C) f = some none) (hz : Zc cls d oe) (hf : ∃ vs, oe.data = .fields vs) (he : PE (X.suite a ((a, oe) :: pn)) e te)
    (hb : attributeBase e f X.env (eval e X.env) = eval e X.env := by rfl) : PE (X.suite a ((a, oe) :: pn)) (.Attribute e f pos) (tXf a cls d C f te) := pe_xf T.xf hno hz hf he hb
/-- isinstance(e, c), e the error in the suite, with a dict of its own -/
def rIsD (K : Fg) (D a : Addr) (cls : Value) (d : Option Addr) : List V → Hp → VK → Prop := fun xs H Q => ∃ (c : V) (cv : Value) (dd : Addr) (fs : List (Str × V)) (b : Bool), xs = [.ref a, c] ∧ ClsV c cv ∧ cls = .ref D ∧ d = some dd ∧ H dd = some (.xd fs) ∧ PySem.W.kitOne K (.ref D) cv = some b ∧ Q (.bl b) H
theorem call_isD {a D : Addr} {cls : Value} {d : Option Addr} {oe : Obj} {pn : List (Addr × Obj)} (C : ExC X.K D) (hz : Zc cls d oe) (hf : ∃ vs, oe.data = .fields vs) : CallR (X.suite a ((a, oe) :: pn)) (.builtin "isinstance") (rIsD X.K D a cls d) := by
  intro pins s σ H xs us Q I r h
  obtain ⟨c, cv, dd, fs, b, rfl, hcv, rfl, rfl, hd, e, q⟩ := h
  cases r with
  | cons r1 r2 =>
    cases r2 with
    | cons r3 r4 =>
      cases r4
      cases r1
      have ec := hcv.eq r3
      subst ec
      obtain ⟨hget, _⟩ := I.pin (a, oe) (List.mem_append.mpr (.inl List.mem_cons_self))
      obtain ⟨vs, hv⟩ := hf
      obtain ⟨mA, hns, _⟩ := (show ObjOk X.prog X.w H s.heap dd (.xd fs) from I.hok dd _ hd)
      obtain ⟨od, ho, _⟩ := lookIn_ns hns
      have J : PySem.W.InstAt s.heap a oe D (some od) := ⟨hget, hz.1, by unfold PySem.W.notCls; rw [hv] <;> rfl, by rw [hz.2]; exact ho⟩
      exact PySem.W.kia_one (PySem.W.sw_kitE C.xf.ga C.xf.gg C.xf.exC C.xf.hdC C.cc C.gs C.tk C.mo) I.kIn J e (fun z => nomatch z) fun tk => ⟨.bl b, H, I.kept (t' := tk) fun _ _ z => z, rfl, q⟩
end
end Sw

/-! Loops and comprehensions, over a list or a tuple alike; unpacking; isinstance by kinds. -/
namespace Sw
open PySem PySem.Spec PyProof.Rows L2
/-- what a for still asks behind its iterator -/
def FI (J : It) (g : TG) (tb : TS) (D : Ends) (σ : L2.St) (H1 : Hp) : Prop := ∃ W : Nat → Nat → L2.St → Hp → Prop, (∃ m, W 0 m σ H1) ∧ ∀ i m σ H, W i m σ H →
  (J.stop i H ∧ D.nx σ H) ∨ (J.go i H ∧ ∃ N : L2.St → Hp → Prop, (∀ σ' H', N σ' H' → ∃ m', m' < m ∧ W (i + 1) m' σ' H') ∧ ∀ x H', J.yld i H x H' → g x σ H' fun σ2 H2 => tb { D with nx := N, ct := N, bk := D.nx } σ2 H2)
/-- .. a comprehension -/
def LC (J : It) (g : TG) (tt : TT) (te : TE) (vs : List Nat) (σ : L2.St) (Q : VK) (H1 : Hp) : Prop := ∀ D, H1 D = none → ∃ W : Nat → Nat → Hp → Prop, (∃ m, W 0 m (upd H1 D (.lst []))) ∧ ∀ i m H, W i m H →
  (J.stop i H ∧ Q (.ref D) H) ∨ (J.go i H ∧ ∃ Nx : Hp → Prop, (∀ H', Nx H' → ∃ m', m' < m ∧ W (i + 1) m' H') ∧ ∀ x H', J.yld i H x H' → g x (wipe σ vs) H' fun σ2 H2 => wipe σ2 vs = wipe σ vs ∧ tt σ2 H2 fun b H3 =>
    if b = true then te σ2 H3 fun y H4 => ∃ acc, H4 D = some (.lst acc) ∧ acc.length < sizeLine ∧ Nx (upd H4 D (.lst (acc ++ [y]))) else Nx H3)
def isT : HO → Bool
  | .tup _ => true
  | .frz _ (.tup _) => true
  | _ => false
theorem seqO_L {K : Fg} {H : Hp} {p : Addr} {o : HO} {xs : List V} (h : H p = some o) (e : seqO o = some xs) (t : isT o = false) : SqL K H p xs := by
  unfold seqO at e
  split at e <;> first
    | exact Bool.noConfusion (show _ = _ from t)
    | (cases e; exact .inl (.inl h))
    | (cases e; exact .inl (.inr ⟨_, h⟩))
    | cases e
theorem seqO_T {K : Fg} {H : Hp} {p : Addr} {o : HO} {xs : List V} (h : H p = some o) (e : seqO o = some xs) (t : isT o = true) : SqT K H p xs := by
  unfold seqO at e
  split at e <;> first
    | exact Bool.noConfusion (show _ = _ from t)
    | (cases e; exact .inl (.inl h))
    | (cases e; exact .inl (.inr ⟨_, h⟩))
    | cases e
/-! ### for x in s -/
def ItQ (K : Fg) (a : Addr) (o : HO) : It := if isT o = true then Itt K a else Itl K a
def iSeq (K : Fg) (tl : TE) : TI := fun σ H R => tl σ H fun x H1 => ∃ a o xs, x = .ref a ∧ H1 a = some o ∧ seqO o = some xs ∧ R (ItQ K a o) H1
theorem pi_q {X : Cx} {tg e : Expr} {tl : TE} (he : PE X e tl) : PI X tg e (iSeq X.K tl) := by
  refine ⟨fun pins s σ H R I h => ?_⟩
  refine thn (he.run pins s σ H _ I h) fun u s1 ⟨v, H1, I1, r1, a, o, xs, ev, ho, hs, q⟩ => ?_
  subst ev
  cases r1
  unfold ItQ at q
  have new : ∀ b ∈ [s1.heap.objs.size], FpOk X pins H1 b := fun b hb => by
    rw [List.mem_singleton.mp hb]
    exact I1.fpOk (Nat.le_refl _) (I1.hok.fresh (Nat.le_refl _))
  cases t : isT o with
  | true =>
    rw [t, if_pos rfl] at q
    obtain ⟨its, rv, p, hz⟩ := I1.tuple (seqO_T (K := X.K) ho hs t)
    exact wpAny_pyIter_tuple (show s1.heap.IsTuple a its.toArray from p) ⟨_, [s1.heap.objs.size], _, _, H1, rfl, I1.kept (t' := s1.toks) fun b o e => Heap.get?_push_of_some _ e, turn_tuple a _, ⟨_, Heap.get?_push_size _ rfl, rfl, rfl⟩, new, q⟩
  | false =>
    rw [t, if_neg (by decide)] at q
    obtain ⟨its, rv, p, hz⟩ := I1.list (seqO_L (K := X.K) ho hs t)
    exact wpAny_pyIter_list p.isList ⟨_, [s1.heap.objs.size], _, _, H1, rfl, I1.kept (t' := s1.toks) fun b o e => Heap.get?_push_of_some _ e, turn_list a _, ⟨_, Heap.get?_push_size _ rfl, rfl, rfl⟩, new, q⟩
theorem FI.seq {K : Fg} {a : Addr} {o : HO} {xs : List V} {g : TG} {tb : TS} {D : Ends} {σ : L2.St} {H : Hp} (hs : seqO o = some xs) (Pv : Nat → L2.St → Hp → Prop) (h0 : Pv 0 σ H) (hl : ∀ i σ H, i ≤ xs.length → Pv i σ H → H a = some o)
    (ht : ∀ i x σ H, xs[i]? = some x → Pv i σ H → g x σ H fun σ2 H2 => tb ⟨Pv (i + 1), D.rt, D.nx, Pv (i + 1)⟩ σ2 H2) (hd : ∀ σ H, Pv xs.length σ H → D.nx σ H) : FI (ItQ K a o) g tb D σ H := by
  unfold ItQ
  cases t : isT o with
  | true =>
    rw [if_pos rfl]
    exact for_tup (K := K) Pv h0 (fun i σ H hi p => seqO_T (hl i σ H hi p) hs t) ht hd
  | false =>
    rw [if_neg (by decide)]
    exact for_list (K := K) Pv h0 (fun i σ H hi p => seqO_L (hl i σ H hi p) hs t) ht hd
/-- the script's own list: it may stand in the written part -/
theorem FI.lst {K : Fg} {a : Addr} {xs : List V} {g : TG} {tb : TS} {D : Ends} {σ : L2.St} {H : Hp} (Pv : Nat → L2.St → Hp → Prop) (h0 : Pv 0 σ H) (hl : ∀ i σ H, i ≤ xs.length → Pv i σ H → SqL K H a xs)
    (ht : ∀ i x σ H, xs[i]? = some x → Pv i σ H → g x σ H fun σ2 H2 => tb ⟨Pv (i + 1), D.rt, D.nx, Pv (i + 1)⟩ σ2 H2) (hd : ∀ σ H, Pv xs.length σ H → D.nx σ H) : FI (Itl K a) g tb D σ H := for_list (K := K) Pv h0 hl ht hd
theorem FI.rng {lo : Int} {n : Nat} {g : TG} {tb : TS} {D : Ends} {σ : L2.St} {H : Hp} (Pv : Nat → L2.St → Hp → Prop) (h0 : Pv 0 σ H)
    (ht : ∀ i σ H, i < n → Pv i σ H → g (.int (lo + (i : Nat))) σ H fun σ2 H2 => tb ⟨Pv (i + 1), D.rt, D.nx, Pv (i + 1)⟩ σ2 H2) (hd : ∀ σ H, Pv n σ H → D.nx σ H) : FI (Itr lo n) g tb D σ H := for_range Pv h0 ht hd
theorem FI.rngC {lo c : Int} {n : Nat} {g : TG} {tb : TS} {D : Ends} {σ : L2.St} {H : Hp} (Pv : Nat → L2.St → Hp → Prop) (h0 : Pv 0 σ H)
    (ht : ∀ i σ H, i < n → Pv i σ H → g (.int (lo + (i : Nat) * c)) σ H fun σ2 H2 => tb ⟨Pv (i + 1), D.rt, D.nx, Pv (i + 1)⟩ σ2 H2) (hd : ∀ σ H, Pv n σ H → D.nx σ H) : FI (Itc lo c n) g tb D σ H := for_rangeC Pv h0 ht hd
/-! ### zip of two of one kind -/
def ItZ (K : Fg) (a b : Addr) (o : HO) : It := if isT o = true then RZ.ItzT K a b else Itz K a b
def iZipQ (K : Fg) (ta : TA) : TI := fun σ H R => ta σ H fun vs H1 => ∃ a b oa ob xs ys, vs = [.ref a, .ref b] ∧ H1 a = some oa ∧ seqO oa = some xs ∧ H1 b = some ob ∧ seqO ob = some ys ∧ isT ob = isT oa ∧ R (ItZ K a b oa) H1
theorem pi_zipQ {X : Cx} {e e2 : Expr} {ta : TA} {p pos tpos : Pos} {elts : List Expr} {kk : Nat} (hg : Gl X "zip") (hm : X.mg "zip" = none) (ha : PA X [e, e2] ta)
    (hs : starEach [e, e2] X.env = (false, eval e X.env) :: starEach [e2] X.env := by rfl) (hpl : (backTo pos (starEach [e2] X.env)).any (·.1) = false := by rfl) :
    PI X (.Tuple elts kk tpos) (.Call (.Name "zip" p) [e, e2] [] pos) (iZipQ X.K ta) := by
  refine ⟨fun pins s σ H R I h => (RZ.pi_zipA hg hm (pa_mono ha) hs hpl).run pins s σ H R I ⟨_, h, fun vs H1 q => ?_⟩⟩
  obtain ⟨a, b, oa, ob, xs, ys, ev, h1, h2, h3, h4, h5, q⟩ := q
  refine ⟨a, b, xs, ys, ev, ?_⟩
  unfold ItZ at q
  cases t : isT oa with
  | true =>
    rw [t, if_pos rfl] at q
    exact .inr ⟨seqO_T h1 h2 t, seqO_T h3 h4 (h5.trans t), q⟩
  | false =>
    rw [t, if_neg (by decide)] at q
    exact .inl ⟨seqO_L h1 h2 t, seqO_L h3 h4 (h5.trans t), q⟩
/-- for x, y in zip(..), x in slot i, y in slot j -/
theorem FI.zip {K : Fg} {a b : Addr} {oa ob : HO} {xs ys : List V} {i j : Nat} {tb : TS} {D : Ends} {σ : L2.St} {H : Hp} (hx : seqO oa = some xs) (hy : seqO ob = some ys) (ht : isT ob = isT oa) (hl : xs.length = ys.length) (Pv : Nat → L2.St → Hp → Prop) (h0 : Pv 0 σ H)
    (hq : ∀ i σ H, Pv i σ H → H a = some oa ∧ H b = some ob)
    (hs : ∀ (n : Nat) (x y : V) (T : Addr) (σ : L2.St) (H : Hp), xs[n]? = some x → ys[n]? = some y → Pv n σ H → H T = none → tb ⟨Pv (n + 1), D.rt, D.nx, Pv (n + 1)⟩ ((σ.set i (some x)).set j (some y)) (upd H T (.tup [x, y]))) (hd : ∀ σ H, Pv xs.length σ H → D.nx σ H) :
    FI (ItZ K a b oa) (gTup K 2 (gCons (gName i) (gCons (gName j) gNil))) tb D σ H := by
  have turn : ∀ (n : Nat) (x y : V) (T : Addr) (σ : L2.St) (H : Hp), xs[n]? = some x → ys[n]? = some y → Pv n σ H → H T = none →
      gTup K 2 (gCons (gName i) (gCons (gName j) gNil)) (.ref T) σ (upd H T (.tup [x, y])) fun σ2 H2 => tb ⟨Pv (n + 1), D.rt, D.nx, Pv (n + 1)⟩ σ2 H2 := fun n x y T σ H h1 h2 p hT =>
    ⟨T, [x, y], rfl, SqT.of upd_same, rfl, x, [y], rfl, y, [], rfl, rfl, hs n x y T σ H h1 h2 p hT⟩
  unfold ItZ
  cases t : isT oa with
  | true =>
    rw [if_pos rfl]
    exact RZ.for_zipT (K := K) hl Pv h0 (fun i σ H p => ⟨seqO_T (hq i σ H p).1 hx t, seqO_T (hq i σ H p).2 hy (ht.trans t)⟩) turn hd
  | false =>
    rw [if_neg (by decide)]
    exact RZ.for_zipL (K := K) hl Pv h0 (fun i σ H p => ⟨seqO_L (hq i σ H p).1 hx t, seqO_L (hq i σ H p).2 hy (ht.trans t)⟩) turn hd
/-! ### reversed of a list or a tuple -/
def ItR (K : Fg) (a : Addr) (o : HO) (n : Nat) : It := if isT o = true then RT.ItvT K a n else Itv K a n
def iRevQ (K : Fg) (te : TE) : TI := fun σ H R => te σ H fun v H1 => ∃ a o xs, v = .ref a ∧ H1 a = some o ∧ seqO o = some xs ∧ R (ItR K a o xs.length) H1
theorem pe_mono {X : Cx} {e : Expr} {te : TE} (h : PE X e te) : PE X e (fun σ H Q => ∃ R : VK, te σ H R ∧ ∀ v H1, R v H1 → Q v H1) := ⟨fun pins s σ H Q I ⟨R, h1, h2⟩ => thn (h.run pins s σ H R I h1) fun u s1 ⟨v, H1, I1, r, q⟩ => ⟨v, H1, I1, r, h2 _ _ q⟩⟩
theorem pi_revQ {X : Cx} {tg e : Expr} {te : TE} {p pos : Pos} (hg : Gl X "reversed") (hm : X.mg "reversed" = none) (he : PE X e te) (hs : starEach [e] X.env = (false, eval e X.env) :: starEach [] X.env := by rfl) :
    PI X tg (.Call (.Name "reversed" p) [e] [] pos) (iRevQ X.K te) := by
  refine ⟨fun pins s σ H R I h => (RT.pi_revA hg hm (pe_mono he) hs).run pins s σ H R I ⟨_, h, fun v H1 q => ?_⟩⟩
  obtain ⟨a, o, xs, ev, h1, h2, q⟩ := q
  refine ⟨a, xs, ev, ?_⟩
  unfold ItR at q
  cases t : isT o with
  | true =>
    rw [t, if_pos rfl] at q
    exact .inr ⟨seqO_T h1 h2 t, q⟩
  | false =>
    rw [t, if_neg (by decide)] at q
    exact .inl ⟨seqO_L h1 h2 t, q⟩
theorem FI.rev {K : Fg} {a : Addr} {o : HO} {xs : List V} {g : TG} {tb : TS} {D : Ends} {σ : L2.St} {H : Hp} (hs : seqO o = some xs) (Pv : Nat → L2.St → Hp → Prop) (h0 : Pv 0 σ H) (hl : ∀ i σ H, Pv i σ H → H a = some o)
    (ht : ∀ (i : Nat) (x : V) (σ : L2.St) (H : Hp), i < xs.length → xs[xs.length - 1 - i]? = some x → Pv i σ H → g x σ H fun σ2 H2 => tb ⟨Pv (i + 1), D.rt, D.nx, Pv (i + 1)⟩ σ2 H2) (hd : ∀ σ H, Pv xs.length σ H → D.nx σ H) : FI (ItR K a o xs.length) g tb D σ H := by
  unfold ItR
  cases t : isT o with
  | true =>
    rw [if_pos rfl]
    exact RT.for_ItvT (K := K) Pv h0 (fun i σ H p => seqO_T (hl i σ H p) hs t) ht hd
  | false =>
    rw [if_neg (by decide)]
    exact RT.for_Itv (K := K) Pv h0 (fun i σ H p => seqO_L (hl i σ H p) hs t) ht hd
/-! ### comprehensions -/
theorem LC.rng {lo : Int} {n : Nat} {g : TG} {tt : TT} {te : TE} {vs : List Nat} {σ : L2.St} {H1 : Hp} {Q : VK} (Pv : Addr → Nat → Hp → Prop) (h0 : ∀ D, H1 D = none → Pv D 0 (upd H1 D (.lst [])))
    (hs : ∀ D i H, H1 D = none → i < n → Pv D i H → g (.int (lo + (i : Nat))) (wipe σ vs) H fun σ2 H2 => wipe σ2 vs = wipe σ vs ∧ tt σ2 H2 fun b H3 => Be b (fun H3 => te σ2 H3 fun y H4 => ∃ acc, H4 D = some (.lst acc) ∧ acc.length < sizeLine ∧ Pv D (i + 1) (upd H4 D (.lst (acc ++ [y])))) (Pv D (i + 1)) H3)
    (hd : ∀ D H, H1 D = none → Pv D n H → Q (.ref D) H) : LC (Itr lo n) g tt te vs σ Q H1 := fun D nD => lc_range (Pv D) (h0 D nD) (fun i H hi p => hs D i H nD hi p) fun H p => hd D H nD p
theorem LC.seq {K : Fg} {a : Addr} {o : HO} {xs : List V} {g : TG} {tt : TT} {te : TE} {vs : List Nat} {σ : L2.St} {H1 : Hp} {Q : VK} (hx : seqO o = some xs) (Pv : Addr → Nat → Hp → Prop) (h0 : ∀ D, H1 D = none → Pv D 0 (upd H1 D (.lst [])))
    (hl : ∀ D i H, H1 D = none → i ≤ xs.length → Pv D i H → H a = some o)
    (hs : ∀ D i x H, H1 D = none → xs[i]? = some x → Pv D i H → g x (wipe σ vs) H fun σ2 H2 => wipe σ2 vs = wipe σ vs ∧ tt σ2 H2 fun b H3 => Be b (fun H3 => te σ2 H3 fun y H4 => ∃ acc, H4 D = some (.lst acc) ∧ acc.length < sizeLine ∧ Pv D (i + 1) (upd H4 D (.lst (acc ++ [y])))) (Pv D (i + 1)) H3)
    (hd : ∀ D H, H1 D = none → Pv D xs.length H → Q (.ref D) H) : LC (ItQ K a o) g tt te vs σ Q H1 := fun D nD => by
  unfold ItQ
  cases t : isT o with
  | true =>
    rw [if_pos rfl]
    exact lc_tup (K := K) (Pv D) (h0 D nD) (fun i H hi p => seqO_T (hl D i H nD hi p) hx t) (fun i x H hi p => hs D i x H nD hi p) fun H p => hd D H nD p
  | false =>
    rw [if_neg (by decide)]
    exact lc_list (K := K) (Pv D) (h0 D nD) (fun i H hi p => seqO_L (hl D i H nD hi p) hx t) (fun i x H hi p => hs D i x H nD hi p) fun H p => hd D H nD p
theorem rl : (∀ wi g tb D σ H, tFor wi g tb D σ H = wi σ H fun J H1 => FI J g tb D σ H1) ∧ (∀ wi g tt te vs σ H Q, tLc wi g tt te vs σ H Q = wi σ H fun J H1 => LC J g tt te vs σ Q H1) ∧
    (∀ K tl σ H R, iSeq K tl σ H R = tl σ H fun x H1 => ∃ a o xs, x = .ref a ∧ H1 a = some o ∧ seqO o = some xs ∧ R (ItQ K a o) H1) ∧
    (∀ K ta σ H R, iZipQ K ta σ H R = ta σ H fun vs H1 => ∃ a b oa ob xs ys, vs = [.ref a, .ref b] ∧ H1 a = some oa ∧ seqO oa = some xs ∧ H1 b = some ob ∧ seqO ob = some ys ∧ isT ob = isT oa ∧ R (ItZ K a b oa) H1) ∧
    (∀ K te σ H R, iRevQ K te σ H R = te σ H fun v H1 => ∃ a o xs, v = .ref a ∧ H1 a = some o ∧ seqO o = some xs ∧ R (ItR K a o xs.length) H1) ∧
    (∀ ta σ H R, iRng1 ta σ H R = ta σ H fun vs H1 => ∃ j : Int, vs = [.int j] ∧ -(2 ^ 62) ≤ j ∧ j < 2 ^ 62 ∧ R (Itr 0 j.toNat) H1) ∧
    (∀ ta σ H R, iRng2 ta σ H R = ta σ H fun vs H1 => ∃ i j : Int, vs = [.int i, .int j] ∧ (-(2 ^ 62) ≤ i ∧ i < 2 ^ 62 ∧ -(2 ^ 62) ≤ j ∧ j < 2 ^ 62) ∧ R (Itr i (j - i).toNat) H1) ∧
    (∀ tr σ H R, iRevR tr σ H R = tr σ H fun a b H1 => -(2 ^ 62) ≤ a ∧ a < 2 ^ 62 ∧ -(2 ^ 62) ≤ b ∧ b < 2 ^ 62 ∧ R (Itc (a + (((b - a).toNat : Nat) : Int) - 1) (-1) (b - a).toNat) H1) ∧
    (∀ ta σ H Q, tRg1 ta σ H Q = ta σ H fun x H1 => ∃ n, x = .int n ∧ Q 0 n H1) ∧ (∀ σ H Q, tYes σ H Q = Q true H) ∧ (∀ xs, isT (.lst xs) = false) ∧ (∀ xs, isT (.tup xs) = true) := by
  refine ⟨?_, ?_, ?_, ?_, ?_, ?_, ?_, ?_, ?_, ?_, ?_, ?_⟩ <;> intros <;> rfl
/-! ### unpacking -/
def gTupQ (t : TGs) : TG := fun v σ H Q => ∃ a o xs, v = .ref a ∧ H a = some o ∧ isT o = true ∧ seqO o = some xs ∧ t xs σ H Q
theorem pg_tupQ {X : Cx} {es : List Expr} {k : Nat} {t : TGs} {n : Nat} {pos : Pos} (hc : X.calm = true) (h : PGs X es t) (hlen : ∀ xs σ H Q, t xs σ H Q → xs.length = n)
    (hn : (assignEach es X.env).length = n := by rfl) (hst : (assignEach es X.env).findIdx? (·.1) = none := by rfl) : PG X (.Tuple es k pos) (gTupQ t) :=
  ⟨fun pins s σ H v u Q I r ⟨a, o, xs, ev, ho, ht, hs, q⟩ => (pg_tup hc h hn hst).run pins s σ H v u Q I r ⟨a, xs, ev, seqO_T ho hs ht, hlen _ _ _ _ q, q⟩⟩
theorem gnil_len {xs : List V} {σ : L2.St} {H : Hp} {Q : L2.St → Hp → Prop} (h : gNil xs σ H Q) : xs.length = 0 := by rw [h.1] <;> rfl
theorem gname_len {n i : Nat} {t : TGs} (ht : ∀ xs σ H Q, t xs σ H Q → xs.length = n) (xs : List V) (σ : L2.St) (H : Hp) (Q : L2.St → Hp → Prop) (h : gCons (gName i) t xs σ H Q) : xs.length = n + 1 := by
  obtain ⟨v, r, rfl, h⟩ := h
  rw [List.length_cons, ht r _ _ _ h]
theorem rl2 : (∀ t v σ H Q, gTupQ t v σ H Q = ∃ a o xs, v = .ref a ∧ H a = some o ∧ isT o = true ∧ seqO o = some xs ∧ t xs σ H Q) ∧ (∀ K te σ H Q, tRevL K te σ H Q = te σ H fun x H1 => ∃ a xs, x = .ref a ∧ SqL K H1 a xs ∧ ∀ p, H1 p = none → Q (.ref p) (upd H1 p (.lst xs.reverse))) ∧
    (∀ C f ta D W σ H, tRs1 C f W ta D σ H = ta σ H fun vs H1 => ∃ v, vs = [v] ∧ ∀ d, H1 d = none → W (.ref C) (some d) σ (upd H1 d (.xd [(f, v)]))) := by
  refine ⟨?_, ?_, ?_⟩ <;> intros <;> rfl
end Sw

/-! Promises by arity, facts by Bools, kinds of things, things that equal themselves, methods of lists. -/
namespace Sw
open PySem PySem.Spec PyProof.Rows L2
/-! ### promises -/
def sp1 (f : V → Hp → VK → XK → Prop) : Sp := fun vs H Q E => ∃ a, vs = [a] ∧ f a H Q E
def sp2 (f : V → V → Hp → VK → XK → Prop) : Sp := fun vs H Q E => ∃ a b, vs = [a, b] ∧ f a b H Q E
def sp3 (f : V → V → V → Hp → VK → XK → Prop) : Sp := fun vs H Q E => ∃ a b c, vs = [a, b, c] ∧ f a b c H Q E
def sp4 (f : V → V → V → V → Hp → VK → XK → Prop) : Sp := fun vs H Q E => ∃ a b c d, vs = [a, b, c, d] ∧ f a b c d H Q E
theorem len1 (f : V → Hp → VK → XK → Prop) {x : Str} (vs : List V) (H : Hp) (Q : VK) (E : XK) (h : sp1 f vs H Q E) : vs.length = [x].length := by obtain ⟨a, rfl, _⟩ := h; rfl
theorem len2 (f : V → V → Hp → VK → XK → Prop) {x y : Str} (vs : List V) (H : Hp) (Q : VK) (E : XK) (h : sp2 f vs H Q E) : vs.length = [x, y].length := by obtain ⟨a, b, rfl, _⟩ := h; rfl
theorem len3 (f : V → V → V → Hp → VK → XK → Prop) {x y z : Str} (vs : List V) (H : Hp) (Q : VK) (E : XK) (h : sp3 f vs H Q E) : vs.length = [x, y, z].length := by obtain ⟨a, b, c, rfl, _⟩ := h; rfl
theorem len4 (f : V → V → V → V → Hp → VK → XK → Prop) {x y z u : Str} (vs : List V) (H : Hp) (Q : VK) (E : XK) (h : sp4 f vs H Q E) : vs.length = [x, y, z, u].length := by obtain ⟨a, b, c, d, rfl, _⟩ := h; rfl
theorem rsp : (∀ f a H Q E, sp1 f [a] H Q E = f a H Q E) ∧ (∀ f a b H Q E, sp2 f [a, b] H Q E = f a b H Q E) ∧ (∀ f a b c H Q E, sp3 f [a, b, c] H Q E = f a b c H Q E) ∧ (∀ f a b c d H Q E, sp4 f [a, b, c, d] H Q E = f a b c d H Q E) := by
  refine ⟨fun f a H Q E => propext ⟨fun ⟨_, e, h⟩ => ?_, fun h => ⟨_, rfl, h⟩⟩, fun f a b H Q E => propext ⟨fun ⟨_, _, e, h⟩ => ?_, fun h => ⟨_, _, rfl, h⟩⟩, fun f a b c H Q E => propext ⟨fun ⟨_, _, _, e, h⟩ => ?_, fun h => ⟨_, _, _, rfl, h⟩⟩,
    fun f a b c d H Q E => propext ⟨fun ⟨_, _, _, _, e, h⟩ => ?_, fun h => ⟨_, _, _, _, rfl, h⟩⟩⟩ <;> (cases e; exact h)
/-! ### facts by Bools -/
def allB : List Bool → Bool
  | [] => true
  | b :: r => b && allB r
theorem allB_ok : ∀ {l : List Bool}, allB l = true → ∀ (i : Nat) {b : Bool}, l[i]? = some b → b = true
  | [], _, i, b, h => by simp at h
  | c :: r, e, 0, b, h => by
    have h2 : c = b := by simpa using h
    rw [← h2]
    exact (Bool.and_eq_true_iff.mp e).1
  | c :: r, e, i + 1, b, h => allB_ok (Bool.and_eq_true_iff.mp e).2 i (by simpa using h)
/-- an error class by what the head says of it -/
theorem exn_mk {P : Program} {w : World} {K : Fg} {mg : Str → Option Value} {base : Heap} {x f m qual : Str} {params : Arguments} {body : List Stmt} {scope : Scope} {fd : FuncData} {Cs : Addr}
    {p1 p2 p3 p4 p5 p6 p7 p8 p9 p10 : Pos} {j : Nat} (at_ : mg x = some (.ref (He.ga K x))) (c : ExC K (He.ga K x)) (no : PySem.W.findIn K (.ref (He.ga K x)) f = some none) (M : Meth K (He.ga K x) "__init__" (He.ma K (He.ga K x) "__init__"))
    (F : FunD K "__init__" qual params body scope [] [] (He.ma K (He.ga K x) "__init__") fd) (S : FnScope ["self", f] ["self", f] scope) (hb : body = ini1 m f p1 p2 p3 p4 p5 p6 p7 p8 p9 p10 j)
    (l1 : scope.names.lookup ("self" : Str) = some .local) (l2 : scope.names.lookup f = some .local) (l3 : scope.names.lookup ("SeedError" : Str) = some .globalImplicit) (hdb : (f == ("__debug__" : Str)) = false) (hcd : (f == ("__classdict__" : Str)) = false)
    (hl : (p2.endLine == p5.line) = true) (I0 : IniC K Cs) (gS : mg "SeedError" = some (.ref Cs))
    (hbd : ∀ (kV doc pm : Value) (an : Option Addr) (cdv ct : Value) (us : List Value), us.length = (["self", f] : List Str).length → bindArgs (PySem.W.fnOf "__init__" qual params body scope .none kV doc pm an cdv ct) ⟨us, []⟩ = pure ((["self", f] : List Str).zip us)) :
    Exn P w K mg base x f := ⟨at_, c, no, _, fd, M.at_, beq_iff_eq.mp M.fn, ok_ini1 F S hb l1 l2 l3 hdb hcd hl c I0 gS no, F.bindsN hbd⟩
/-! ### kinds -/
def tyO : HO → Option String
  | .lst _ => some "list"
  | .frz _ (.lst _) => some "list"
  | .tup _ => some "tuple"
  | .frz _ (.tup _) => some "tuple"
  | .dK _ => some "dict"
  | .dT _ => some "dict"
  | _ => none
def tyN (H : Hp) : V → Option String
  | .non => some "NoneType"
  | .bl _ => some "bool"
  | .int _ => some "int"
  | .str _ => some "str"
  | .ref p => (H p).bind tyO
  | _ => none
theorem tyN_ok {K : Fg} {H : Hp} {x : V} {n : String} (h : tyN H x = some n) : TyX K H x (.type n) := by
  cases x with
  | non => cases h; exact .base .non
  | bl b => cases h; exact .base (.bl b)
  | int i => cases h; exact .base (.int i)
  | str z => cases h; exact .base (.str z)
  | ref p =>
    obtain ⟨o, e, h⟩ := Option.bind_eq_some_iff.mp h
    unfold tyO at h
    split at h <;> first
      | (cases h; exact .base (.lst e))
      | (cases h; exact .base (.frz e))
      | (cases h; exact .base (.tup e))
      | (cases h; exact .fTuple e)
      | (cases h; exact .base (.dK e))
      | (cases h; exact .base (.dT e))
      | cases h
  | byt b => cases h
  | flt b => cases h
  | ty n => cases h
theorem tyN_cases {H : Hp} {x : V} {n : String} (h : tyN H x = some n) : n = "NoneType" ∨ n = "bool" ∨ n = "int" ∨ n = "str" ∨ n = "list" ∨ n = "tuple" ∨ n = "dict" := by
  cases x with
  | ref p =>
    obtain ⟨o, e, h⟩ := Option.bind_eq_some_iff.mp h
    unfold tyO at h
    split at h <;> cases h <;> simp
  | _ => cases h <;> simp
theorem tyN_same {H H' : Hp} (s : Same H H') {x : V} {n : String} (h : tyN H x = some n) : tyN H' x = some n := by
  cases x with
  | ref p =>
    obtain ⟨o, e, h⟩ := Option.bind_eq_some_iff.mp h
    exact Option.bind_eq_some_iff.mpr ⟨o, s p o e, h⟩
  | _ => exact h
def isB (H : Hp) (x : V) (T : String) : Option Bool := (tyN H x).bind fun n => kitB n T
/-- isinstance(x, T), T built in -/
def rIsQ : List V → Hp → VK → Prop := fun vs H Q => ∃ x T b, vs = [x, .ty T] ∧ isB H x T = some b ∧ Q (.bl b) H
theorem is_q {X : Cx} : CallR X (.builtin "isinstance") rIsQ := fun pins s σ H xs us Q I r h => by
  obtain ⟨x, T, b, rfl, e, q⟩ := h
  obtain ⟨n, e1, e2⟩ := Option.bind_eq_some_iff.mp e
  exact call_isi pins s σ H _ us Q I r ⟨x, .ty T, .type n, .type T, b, rfl, .ty T, tyN_ok e1, kit_ty e2, q⟩
theorem kitB_all : kitB "NoneType" "int" = some false ∧ kitB "bool" "int" = some true ∧ kitB "int" "int" = some true ∧ kitB "str" "int" = some false ∧ kitB "list" "int" = some false ∧ kitB "tuple" "int" = some false ∧ kitB "dict" "int" = some false ∧
    kitB "NoneType" "bool" = some false ∧ kitB "bool" "bool" = some true ∧ kitB "int" "bool" = some false ∧ kitB "str" "bool" = some false ∧ kitB "list" "bool" = some false ∧ kitB "tuple" "bool" = some false ∧ kitB "dict" "bool" = some false ∧
    kitB "NoneType" "list" = some false ∧ kitB "bool" "list" = some false ∧ kitB "int" "list" = some false ∧ kitB "str" "list" = some false ∧ kitB "list" "list" = some true ∧ kitB "tuple" "list" = some false ∧ kitB "dict" "list" = some false ∧
    kitB "NoneType" "tuple" = some false ∧ kitB "bool" "tuple" = some false ∧ kitB "int" "tuple" = some false ∧ kitB "str" "tuple" = some false ∧ kitB "list" "tuple" = some false ∧ kitB "tuple" "tuple" = some true ∧ kitB "dict" "tuple" = some false ∧
    kitB "NoneType" "str" = some false ∧ kitB "bool" "str" = some false ∧ kitB "int" "str" = some false ∧ kitB "str" "str" = some true ∧ kitB "list" "str" = some false ∧ kitB "tuple" "str" = some false ∧ kitB "dict" "str" = some false ∧
    kitB "NoneType" "dict" = some false ∧ kitB "bool" "dict" = some false ∧ kitB "int" "dict" = some false ∧ kitB "str" "dict" = some false ∧ kitB "list" "dict" = some false ∧ kitB "tuple" "dict" = some false ∧ kitB "dict" "dict" = some true := by
  decide +kernel
def whole : V → Bool
  | .int _ => true
  | _ => false
def within (x : V) (lo hi : Int) : Bool := match x with
  | .int i => decide (lo ≤ i ∧ i ≤ hi)
  | _ => false
def bool? : V → Bool
  | .bl _ => true
  | _ => false
theorem isB_bool {H : Hp} {x : V} {n : String} (h : tyN H x = some n) : isB H x "bool" = some (bool? x) := by
  have e : isB H x "bool" = kitB n "bool" := by rw [isB, h, Option.bind_some]
  rw [e]
  cases x with
  | ref p =>
    obtain ⟨o, eo, h⟩ := Option.bind_eq_some_iff.mp h
    unfold tyO at h
    split at h <;> cases h <;> simp only [kitB_all, bool?]
  | _ => cases h <;> simp only [kitB_all, bool?]
theorem isB_int {H : Hp} {x : V} {n : String} (h : tyN H x = some n) : isB H x "int" = some (whole x || bool? x) := by
  have e : isB H x "int" = kitB n "int" := by rw [isB, h, Option.bind_some]
  rw [e]
  cases x with
  | ref p =>
    obtain ⟨o, eo, h⟩ := Option.bind_eq_some_iff.mp h
    unfold tyO at h
    split at h <;> cases h <;> simp only [kitB_all, bool?, whole, Bool.or_self, Bool.or_true, Bool.true_or, Bool.or_false]
  | _ => cases h <;> simp only [kitB_all, bool?, whole, Bool.or_self, Bool.or_true, Bool.true_or, Bool.or_false]
theorem isB_list {H : Hp} {p : Addr} {xs : List V} (h : H p = some (.lst xs)) : isB H (.ref p) "list" = some true := by
  have e : tyN H (.ref p) = some "list" := by rw [tyN, h] <;> rfl
  rw [isB, e, Option.bind_some]
  decide +kernel
theorem isB_tup {H : Hp} {p : Addr} {xs : List V} (h : H p = some (.tup xs)) : isB H (.ref p) "tuple" = some true := by
  have e : tyN H (.ref p) = some "tuple" := by rw [tyN, h] <;> rfl
  rw [isB, e, Option.bind_some]
  decide +kernel
theorem whole_is (x : V) : ((whole x || bool? x) && !bool? x) = whole x := by cases x <;> rfl
/-! ### methods of lists -/
def tML (r : V → List V → Hp → VK → Prop) (to : TE) (t : TA) : TE := fun σ H Q => to σ H fun x H1 => ∃ p xs, x = .ref p ∧ H1 p = some (.lst xs) ∧ t σ H1 fun vs H2 => r x vs H2 Q
section
variable {X : Cx} {name : Str} {id : String} {r : V → List V → Hp → VK → Prop} {o e : Expr} {es : List Expr} {to : TE} {t : TA} {apos cpos : Pos}
theorem pe_ml (slot : Slot "list" name id) (hty : typeOf (.builtin id) = pure (.type "method_descriptor")) (hm : MtR X id r) (ho : PE X o to) (ha : PA X (e :: es) t)
    (hb : attributeBase o name X.env (eval o X.env) = eval o X.env := by rfl)
    (hw : ((backTo cpos (starEach (e :: es) X.env)).all (fun x => !x.1) && (backToKw cpos (keywordEach [] X.env)).all (fun x => x.1.isSome) && decide ((e :: es).length + ([] : List Keyword).length + (if ([] : List Keyword).isEmpty then 0 else 1) < 30)) = true := by rfl)
    (hl : (apos.endLine == cpos.line) = true := by rfl) (he : starEach (e :: es) X.env = (false, eval e X.env) :: starEach es X.env := by rfl) (hpl : (backTo cpos (starEach es X.env)).any (·.1) = false := by rfl) :
    PE X (.Call (.Attribute o name apos) (e :: es) [] cpos) (tML r to t) := ⟨fun pins s σ H Q I h =>
  (pe_bm PySem.F.plainAttrs_list slot hty hm (pe_mono ho) ha hb hw hl he hpl).run pins s σ H Q I ⟨_, h, fun x H1 ⟨p, xs, e, hp, q⟩ => ⟨by rw [e]; exact .inl ⟨rfl, xs, SqL.of hp⟩, q⟩⟩⟩
theorem pe_ml0 (slot : Slot "list" name id) (hty : typeOf (.builtin id) = pure (.type "method_descriptor")) (hm : MtR X id r) (ho : PE X o to)
    (hb : attributeBase o name X.env (eval o X.env) = eval o X.env := by rfl) (hl : (apos.endLine == cpos.line) = true := by rfl) :
    PE X (.Call (.Attribute o name apos) [] [] cpos) (tML r to tNil) := ⟨fun pins s σ H Q I h =>
  (pe_bm0 PySem.F.plainAttrs_list slot hty hm (pe_mono ho) hb hl).run pins s σ H Q I ⟨_, h, fun x H1 ⟨p, xs, e, hp, q⟩ => ⟨by rw [e]; exact .inl ⟨rfl, xs, SqL.of hp⟩, q⟩⟩⟩
end
theorem rz : (∀ vs H Q, rIsQ vs H Q = ∃ x T b, vs = [x, .ty T] ∧ isB H x T = some b ∧ Q (.bl b) H) ∧ (∀ r to t σ H Q, tML r to t σ H Q = to σ H fun x H1 => ∃ p xs, x = .ref p ∧ H1 p = some (.lst xs) ∧ t σ H1 fun vs H2 => r x vs H2 Q) ∧
    (∀ a b : String, V.ty a = V.ty b ↔ a = b) := by
  refine ⟨?_, ?_, ?_⟩ <;> intros <;> first | rfl | simp
theorem rix : (∀ (a : V) l, ixN (a :: l).length 0 = some 0) ∧ (∀ (a b : V) l, ixN (a :: b :: l).length 1 = some 1) ∧ (∀ (a b c : V) l, ixN (a :: b :: c :: l).length 2 = some 2) ∧ (∀ (a b c d : V) l, ixN (a :: b :: c :: d :: l).length 3 = some 3) := by
  refine ⟨?_, ?_, ?_, ?_⟩ <;> intros <;> simp only [ixN, List.length_cons] <;> rw [if_pos (by decide), if_pos (by omega)] <;> rfl
theorem rln : (([] : List V).length ≤ sizeLine ↔ True) ∧ (∀ a : V, [a].length ≤ sizeLine ↔ True) ∧ (∀ a b : V, [a, b].length ≤ sizeLine ↔ True) ∧ (∀ a b c : V, [a, b, c].length ≤ sizeLine ↔ True) ∧ (∀ a b c d : V, [a, b, c, d].length ≤ sizeLine ↔ True) ∧
    (∀ a b c d e : V, [a, b, c, d, e].length ≤ sizeLine ↔ True) ∧ (∀ a b c d e f : V, [a, b, c, d, e, f].length ≤ sizeLine ↔ True) ∧ (∀ a b c d e f g : V, [a, b, c, d, e, f, g].length ≤ sizeLine ↔ True) := by
  refine ⟨?_, ?_, ?_, ?_, ?_, ?_, ?_, ?_⟩ <;> intros <;> simp only [List.length_cons, List.length_nil, sizeLine_eq] <;> decide
theorem Same.new {H : Hp} {p : Addr} {o : HO} (h : H p = none) : Same H (upd H p o) := fun a u e => by
  rw [upd_ne (ne_of_none e h)]
  exact e
/-- an object that H does not know may change -/
theorem Same.mut {H H' : Hp} {p : Addr} {o : HO} (s : Same H H') (h : H p = none) : Same H (upd H' p o) := fun a u e => by
  rw [upd_ne (ne_of_none e h)]
  exact s a u e
/-! ### equal to themselves -/
/-- scalars; lists, tuples of ints; the empty dict -/
def Plain (H : Hp) : V → Prop
  | .non => True
  | .bl _ => True
  | .int _ => True
  | .str _ => True
  | .ref p => (∃ ns : List Int, H p = some (.lst (ns.map V.int)) ∧ ns.length ≤ 1000) ∨ (∃ ns : List Int, H p = some (.tup (ns.map V.int)) ∧ ns.length ≤ 1000) ∨ H p = some (.dK [])
  | _ => False
theorem Plain.same {H H' : Hp} (s : Same H H') {x : V} (h : Plain H x) : Plain H' x := by
  cases x with
  | ref p =>
    rcases h with ⟨ns, h, l⟩ | ⟨ns, h, l⟩ | h
    · exact .inl ⟨ns, s _ _ h, l⟩
    · exact .inr (.inl ⟨ns, s _ _ h, l⟩)
    · exact .inr (.inr (s _ _ h))
  | _ => exact h
theorem Plain.ty {H : Hp} {x : V} (h : Plain H x) : ∃ n, tyN H x = some n := by
  cases x with
  | ref p =>
    rcases h with ⟨ns, h, _⟩ | ⟨ns, h, _⟩ | h
    · exact ⟨"list", by rw [tyN, h] <;> rfl⟩
    · exact ⟨"tuple", by rw [tyN, h] <;> rfl⟩
    · exact ⟨"dict", by rw [tyN, h] <;> rfl⟩
  | byt _ => exact h.elim
  | flt _ => exact h.elim
  | ty _ => exact h.elim
  | _ => exact ⟨_, rfl⟩
theorem dpI {K : Fg} {H : Hp} : ∀ ns : List Int, DpAll K H (ns.map V.int) (ns.map PyData.int)
  | [] => .nil
  | n :: r => .cons (.int n) (dpI r)
theorem layI : ∀ ns : List Int, PyData.canLayAll0 (ns.map PyData.int) = true
  | [] => rfl
  | n :: r => by
    show (PyData.canLay0 (.int n) && PyData.canLayAll0 (r.map PyData.int)) = true
    rw [layI r, Bool.and_true]
    rfl
theorem depI : ∀ ns : List Int, PyData.depthAll (ns.map PyData.int) ≤ 1
  | [] => by show 0 ≤ 1; decide
  | n :: r => by
    have h := depI r
    simp only [List.map_cons, PyData.depthAll, PyData.depth]
    omega
theorem shapeL {ns : List Int} : SeqAt.shaped (.list (ns.map PyData.int)) = true := by
  have h := depI ns
  have h2 := layI ns
  simp only [SeqAt.shaped, PyData.canLay0, PyData.depth, Bool.and_eq_true, decide_eq_true_eq]
  exact ⟨h2, decide_eq_true (by omega)⟩
theorem shapeT {ns : List Int} : SeqAt.shaped (.tuple (ns.map PyData.int)) = true := by
  have h := depI ns
  have h2 := layI ns
  simp only [SeqAt.shaped, PyData.canLay0, PyData.depth, Bool.and_eq_true, decide_eq_true_eq]
  exact ⟨h2, decide_eq_true (by omega)⟩
theorem eqvI (ns ms : List Int) : PyData.eqv (.list (ns.map PyData.int)) (.list (ms.map PyData.int)) = decide (ns = ms) := by
  show PyData.eqvAll _ _ = _
  induction ns generalizing ms with
  | nil => cases ms with
    | nil => rfl
    | cons m r => rfl
  | cons n r ih => cases ms with
    | nil => rfl
    | cons m s =>
      show ((n == m) && PyData.eqvAll (r.map PyData.int) (s.map PyData.int)) = _
      rw [ih s, Bool.eq_iff_iff]
      simp
def rEqU (K : Fg) : R2 := fun x y H Q => L2.rEqD K x y H Q ∨ L2.rEqV K x y H Q ∨ L2.rEq x y H Q
theorem op_eqU {X : Cx} (hu : X.A.units + 64 < cLine) : OpR X (compareOp .Eq) (rEqU X.K) := OpR.or (op_eqD hu) (OpR.or (op_eqV hu) op_eq)
theorem Plain.eq {K : Fg} {H : Hp} {x : V} (h : Plain H x) {Q : VK} (q : Q (.bl true) H) : rEqU K x x H Q := by
  cases x with
  | ref p =>
    rcases h with ⟨ns, h, l⟩ | ⟨ns, h, l⟩ | h
    · refine .inr (.inl ⟨1, by decide, .inl ⟨p, p, _, _, rfl, rfl, SqL.of h, SqL.of h, ?_⟩, q⟩)
      clear h l
      induction ns with
      | nil => exact .nil
      | cons n r ih => exact .cons (.inl ⟨rfl, rfl⟩) ih
    · refine .inl ⟨_, _, .tup (SqT.of h) (dpI ns), .tup (SqT.of h) (dpI ns), shapeT, shapeT, ?_⟩
      rw [SeqAt.eqv_refl _ (SeqAt.canLay_of_shaped shapeT)]
      exact q
    · exact .inr (.inl ⟨1, by decide, .inr ⟨p, p, [], [], rfl, rfl, h, h, rfl, fun p hp => by cases hp⟩, q⟩)
  | non => exact .inl ⟨_, _, .non, .non, by decide, by decide, q⟩
  | bl b => exact .inl ⟨_, _, .bl b, .bl b, by cases b <;> decide, by cases b <;> decide, by rw [SeqAt.eqv_refl _ (by cases b <;> decide)]; exact q⟩
  | int i => exact .inl ⟨_, _, .int i, .int i, rfl, rfl, by rw [SeqAt.eqv_refl _ rfl]; exact q⟩
  | str s => exact .inr (.inr ⟨rfl, by rw [decide_eq_true rfl]; exact q⟩)
  | byt _ => exact h.elim
  | flt _ => exact h.elim
  | ty _ => exact h.elim
end Sw

/-! A call of a local name that holds one of several defs; small facts. -/
namespace Sw
open PySem PySem.Spec PyProof.Rows L2
structure HeldE (P : Program) (w : World) (K : Fg) (mg : Str → Option Value) (base : Heap) (k : Nat) (f : Addr) (sp : Sp) : Prop where
  ex : ∃ (fd : FuncData) (ps : List Str), FnOk P w K mg base (L2.CX P w) k f fd ps sp ∧ PySem.W.keepIn K (.ref f) = true ∧ Binds K fd ps []
theorem Cal.held {P : Program} {w : World} {K : Fg} {mg : Str → Option Value} {base : Heap} {k : Nat} {x : Str} {ps : List Str} {sp : Sp} (c : Cal P w K mg base k x ps sp) : HeldE P w K mg base k (He.ga K x) sp := by
  obtain ⟨fd, F, b⟩ := c.ex
  exact ⟨fd, ps, F, c.kp, b⟩
inductive Deeds (P : Program) (w : World) (K : Fg) (mg : Str → Option Value) (base : Heap) (j : Nat) : List (Addr × Sp) → Prop
  | nil : Deeds P w K mg base j []
  | cons {k : Nat} {x : Str} {ps : List Str} {sp : Sp} {l : List (Addr × Sp)} : Cal P w K mg base k x ps sp → k ≤ j → Deeds P w K mg base j l → Deeds P w K mg base j ((He.ga K x, sp) :: l)
theorem Deeds.get {P : Program} {w : World} {K : Fg} {mg : Str → Option Value} {base : Heap} {j : Nat} {l : List (Addr × Sp)} {f : Addr} {sp : Sp} (D : Deeds P w K mg base j l) (h : (f, sp) ∈ l) : ∃ k, k ≤ j ∧ HeldE P w K mg base k f sp := by
  induction D with
  | nil => cases h
  | cons c hk _ ih =>
    cases h with
    | head => exact ⟨_, hk, c.held⟩
    | tail _ h => exact ih h
def tDeedS (i : Nat) (l : List (Addr × Sp)) (E : L2.St → XK) (t : TA) : TE := fun σ H Q => ∃ f sp, σ[i]? = some (some (.ref f)) ∧ (f, sp) ∈ l ∧ t σ H fun vs H1 => sp vs H1 Q (E σ)
section
variable {X : Cx} {k i j : Nat} {x : Str} {p pos : Pos} {e : Expr} {es : List Expr} {t : TA} {l : List (Addr × Sp)}
theorem pe_deedS {W : WX} (D : Deeds X.prog X.w X.K X.mg X.base j l) (hr : Room j X.A) (tk : Takes X W) (hN : X.N[i]? = some x) (hv : Vis X.env.scope x) (ha : PA X (e :: es) t)
    (hdb : (x == ("__debug__" : Str)) = false := by decide) (hcd : (x == ("__classdict__" : Str)) = false := by decide)
    (he : starEach (e :: es) X.env = (false, eval e X.env) :: starEach es X.env := by rfl) (hpl : (backTo pos (starEach es X.env)).any (·.1) = false := by rfl) : PE X (.Call (.Name x p) (e :: es) [] pos) (tDeedS i l (WE W) t) := by
  refine ⟨fun pins s σ H Q I h => ?_⟩
  obtain ⟨f, sp, hs, hS, ht⟩ := h
  obtain ⟨k, hk, ⟨fd, ps, F, kp, hb⟩⟩ := D.get hS
  refine wpAny_Call_Name_kw (thn ((pe_var (pos := p) hN hv hdb hcd).run pins s σ H (fun v H1 => v = .ref f ∧ H1 = H) I ⟨.ref f, hs, rfl, rfl⟩) fun u s1 ⟨v, H1, I1, r1, q1⟩ => ?_)
  obtain ⟨rfl, rfl⟩ := q1
  cases r1
  refine PySem.W.callWith_K (h₀ := X.base) I.ok.mod.kin kp (thn (ha.run pos pins s1 σ _ _ I1 ht) fun us s2 ⟨vs, H2, I2, r, q⟩ => ⟨I2.kIn, ?_⟩) he hpl
  exact run_fnS F (hr.mono hk) hb (passAt tk σ) I2 r q
end
theorem rd : (∀ i l E t σ H Q, tDeedS i l E t σ H Q = ∃ f sp, σ[i]? = some (some (.ref f)) ∧ (f, sp) ∈ l ∧ t σ H fun vs H1 => sp vs H1 Q (E σ)) ∧ (∀ σ H Q, tDNewK σ H Q = ∀ p, H p = none → Q (.ref p) (upd H p (.dK []))) := ⟨fun _ _ _ _ _ _ _ => rfl, fun _ _ _ => rfl⟩
theorem rwi : (∀ σ : L2.St, wipe σ [] = σ) ∧ (∀ (σ : L2.St) (i : Nat) (vs : List Nat), wipe σ (i :: vs) = (wipe σ vs).set i none) ∧ (List.map (fun x : Str × Nat => x.snd) [] = []) ∧ (∀ (a : Str × Nat) (l : List (Str × Nat)), List.map (fun x : Str × Nat => x.snd) (a :: l) = a.snd :: List.map (fun x : Str × Nat => x.snd) l) := ⟨fun _ => rfl, fun _ _ _ => rfl, rfl, fun _ _ => rfl⟩
/-! ### a list and its copy -/
theorem Plain.eqV {K : Fg} {H : Hp} {x : V} (h : Plain H x) : EqV K H 1 x x := by
  cases x with
  | ref p => exact .inr (.inl ⟨p, rfl, rfl⟩)
  | non => exact .inl ⟨rfl, rfl⟩
  | bl b => exact .inl ⟨rfl, rfl⟩
  | int i => exact .inl ⟨rfl, rfl⟩
  | str s => exact .inl ⟨rfl, rfl⟩
  | byt _ => exact h.elim
  | flt _ => exact h.elim
  | ty _ => exact h.elim
theorem paired_self {E : V → V → Prop} : ∀ {xs : List V}, (∀ x ∈ xs, E x x) → Paired E xs xs
  | [], _ => .nil
  | x :: r, h => .cons (h x (by simp)) (paired_self fun y hy => h y (List.mem_cons_of_mem _ hy))
theorem copy_eq {K : Fg} {H : Hp} {p q : Addr} {xs : List V} (hp : H p = some (.lst xs)) (hq : H q = some (.lst xs)) (h : ∀ x ∈ xs, Plain H x) {Q : VK} (k : Q (.bl true) H) : rEqU K (.ref p) (.ref q) H Q :=
  .inr (.inl ⟨1, by decide, .inl ⟨p, q, xs, xs, rfl, rfl, SqL.of hp, SqL.of hq, paired_self fun x hx => (h x hx).eqV⟩, k⟩)
theorem isD_ref {K : Fg} {D a C d : Addr} {H : Hp} {fs : List (Str × V)} {b : Bool} {Q : VK} (hd : H d = some (.xd fs)) (e : PySem.W.kitOne K (.ref D) (.ref C) = some b) (q : Q (.bl b) H) : rIsD K D a (.ref D) (some d) [.ref a, .ref C] H Q := ⟨_, _, _, _, _, rfl, .own C, rfl, rfl, hd, e, q⟩
theorem isD_ty {K : Fg} {D a d : Addr} {T : String} {H : Hp} {fs : List (Str × V)} {b : Bool} {Q : VK} (hd : H d = some (.xd fs)) (e : PySem.W.kitOne K (.ref D) (.type T) = some b) (q : Q (.bl b) H) : rIsD K D a (.ref D) (some d) [.ref a, .ty T] H Q := ⟨_, _, _, _, _, rfl, .ty T, rfl, rfl, hd, e, q⟩
theorem eq_ints {K : Fg} {H : Hp} {p q : Addr} {ns ms : List Int} (hp : SqL K H p (ns.map V.int)) (hq : SqL K H q (ms.map V.int)) {Q : VK} (k : Q (.bl (decide (ns = ms))) H) : rEqD K (.ref p) (.ref q) H Q := by
  refine ⟨_, _, .lst hp (dpI ns), .lst hq (dpI ms), shapeL, shapeL, ?_⟩
  rw [eqvI]
  exact k
theorem ne_ints {K : Fg} {H : Hp} {p q : Addr} {ns ms : List Int} (hp : SqL K H p (ns.map V.int)) (hq : SqL K H q (ms.map V.int)) {Q : VK} (k : Q (.bl (!decide (ns = ms))) H) : rNeD K (.ref p) (.ref q) H Q := by
  refine ⟨_, _, .lst hp (dpI ns), .lst hq (dpI ms), shapeL, shapeL, ?_⟩
  rw [eqvI]
  exact k
theorem ite_none {α : Type} {c : Prop} [Decidable c] {o : α} {x : Option α} (h : (if c then some o else x) = none) : ¬ c ∧ x = none := by
  by_cases k : c
  · rw [if_pos k] at h
    cases h
  · rw [if_neg k] at h
    exact ⟨k, h⟩
theorem Plain.move {H H' : Hp} {x : V} (h : Plain H x) (k : ∀ q o, x = .ref q → H q = some o → H' q = some o) : Plain H' x := by
  cases x with
  | ref p =>
    rcases h with ⟨ns, h, l⟩ | ⟨ns, h, l⟩ | h
    · exact .inl ⟨ns, k _ _ rfl h, l⟩
    · exact .inr (.inl ⟨ns, k _ _ rfl h, l⟩)
    · exact .inr (.inr (k _ _ rfl h))
  | _ => exact h
/-- two ways to one place: the place is shown once -/
theorem Be.join {b : Bool} {f g : Hp → Prop} {H : Hp} (S : Hp → Prop) (h0 : S H) (n : ∀ H', S H' → g H') (hf : (∀ H', S H' → g H') → b = true → f H) : Be b f g H := Be.of (hf n) fun _ => n _ h0
theorem Be.joinL {b : Bool} {f g : Hp → Prop} {H : Hp} (S : Hp → Prop) (h0 : S H) (n : ∀ H', S H' → f H') (hg : (∀ H', S H' → f H') → b = false → g H) : Be b f g H := Be.of (fun _ => n _ h0) (hg n)
/-! ### the law's own def, and the end -/
theorem fn_mk {P : Program} {w : World} {K : Fg} {mg : Str → Option Value} {base : Heap} {k : Nat} {x : Str} {N ps : List Str} {sp : Sp} {st : Stmt} {fd : FuncData}
    (F : FunD K x x (defArgs st) (defBody st) (defScope st) [] [] (He.ga K x) fd) (S : FnScope N ps (defScope st)) (len : ∀ vs H Q E, sp vs H Q E → vs.length = ps.length)
    (hbody : ∀ (cdv : Value) (A : Around) (outer : List Env) (s : Shared) (H : Hp) (vs : List V) (Q : VK) (E : XK), Room k (A.deeper (envOfC x (defScope st) s.heap.objs.size (He.ga K x) cdv)) → sp vs H Q E →
      ∃ t, PSs (cxOf (L2.CX P w) P w K mg base N x (defScope st) (He.ga K x) cdv A outer s H E) (defBody st) t ∧ t { nx := fun _ H' => Q .non H', rt := Q } (start N vs) H) : FnOk P w K mg base (L2.CX P w) (k + 1) (He.ga K x) fd ps sp := F.ok S len hbody
theorem fn_closed {P : Program} {w : World} {K : Fg} {mg : Str → Option Value} {base : Heap} {k : Nat} {f : Addr} {fd : FuncData} {ps : List Str} {sp : Sp} (F : FnOk P w K mg base (L2.CX P w) k f fd ps sp) :
    FnOk P w K mg base (fun _ _ _ _ _ _ => False) k f fd ps (fun vs H Q _ => sp vs H Q fun _ _ _ => False) :=
  ⟨fun vs H Q E q => F.len _ _ _ _ q, fun A outer s H args us vs Q E hr he hb hv hs => codeAny_mono (F.run A outer s H args us vs Q (fun _ _ _ => False) hr he hb hv hs) fun r s' h => by
    cases r with
    | error e =>
      obtain ⟨_, _, _, _, _, _, _, _, _, _, _, _, z⟩ := h
      exact z.elim
    | ok fl => cases fl <;> exact h⟩
theorem fin_mk {P : Program} {w : World} {K : Fg} {mg : Str → Option Value} {h : Heap} {n k : Nat} {fa : Addr} {st : Stmt} {sp : Sp} (KX : K.In h) (hf : fa = He.ga K "law")
    (F : ∃ fd, FunD K "law" "law" (defArgs st) (defBody st) (defScope st) [] [] (He.ga K "law") fd)
    (hb : ∀ (kV doc pm : Value) (an : Option Addr) (cdv ct : Value) (us : List Value), us.length = (["script"] : List Str).length → bindArgs (PySem.W.fnOf "law" "law" (defArgs st) (defBody st) (defScope st) .none kV doc pm an cdv ct) ⟨us, []⟩ = pure ((["script"] : List Str).zip us))
    (hsp : ∀ (H : Hp) (a : Addr) (ns : List Int), ns.length ≤ n → SqL K H a (ns.map V.int) → sp [.ref a] H (fun v _ => v = .bl true) fun _ _ _ => False)
    (hF : ∀ (fd : FuncData) (base : Heap), FunD K "law" "law" (defArgs st) (defBody st) (defScope st) [] [] (He.ga K "law") fd → FnOk P w K mg base (L2.CX P w) k (He.ga K "law") fd ["script"] sp) :
    ∃ (K : PySem.W.Frag) (fd : FuncData) (sp : Sp), K.In h ∧ (∀ (s : Shared) (u : Value), BindsTo s fd ⟨[u], []⟩ [("script", u)]) ∧
        (∀ (H : Hp) (a : Addr) (ns : List Int), ns.length ≤ n → Only H → SqL K H a (ns.map V.int) → sp [.ref a] H (fun v _ => v = .bl true) fun _ _ _ => False) ∧
        ∀ base : Heap, K.In base → base.Ns mainGlobals mg → FnOk P w K mg base (fun _ _ _ _ _ _ => False) k fa fd ["script"] sp := by
  obtain ⟨fd, F⟩ := F
  refine ⟨K, fd, fun vs H Q _ => sp vs H Q fun _ _ _ => False, KX, fun s u => F.bindsA (ps := ["script"]) hb s [u] rfl, fun H a ns h1 _ h2 => hsp H a ns h1 h2, fun base _ _ => ?_⟩
  rw [hf]
  exact fn_closed (hF fd base F)
theorem eqv_int (i j : Int) : PyData.eqv (.int i) (.int j) = decide (i = j) := by
  show (i == j) = _
  rw [Bool.eq_iff_iff]
  simp
end Sw

/-! Objects of the program's own classes: methods, making, fields; constants of a module. -/
namespace Sw
open PySem PySem.Spec PyProof.Rows L2
structure CalM (P : Program) (w : World) (K : Fg) (mg : Str → Option Value) (base : Heap) (k : Nat) (C m : Str) (ps : List Str) (sp : Sp) : Prop where
  ex : ∃ fd : FuncData, FnOk P w K mg base (L2.CX P w) k (He.ma K (He.ga K C) m) fd ps sp ∧ Binds K fd ps []
  cls : Cls K (He.ga K C)
  meth : Meth K (He.ga K C) m (He.ma K (He.ga K C) m)
theorem calM_mk {P : Program} {w : World} {K : Fg} {mg : Str → Option Value} {base : Heap} {k : Nat} {C m q : Str} {N ps : List Str} {sp : Sp} {st : Stmt}
    (F : ∃ fd, FunD K m q (defArgs st) (defBody st) (defScope st) [] [] (He.ma K (He.ga K C) m) fd) (cls : Cls K (He.ga K C)) (meth : Meth K (He.ga K C) m (He.ma K (He.ga K C) m)) (S : FnScope N ps (defScope st)) (len : ∀ vs H Q E, sp vs H Q E → vs.length = ps.length)
    (hb : ∀ (kV doc pm : Value) (an : Option Addr) (cdv ct : Value) (us : List Value), us.length = ps.length → bindArgs (PySem.W.fnOf m q (defArgs st) (defBody st) (defScope st) .none kV doc pm an cdv ct) ⟨us, []⟩ = pure (ps.zip us))
    (hbody : ∀ (cdv : Value) (A : Around) (outer : List Env) (s : Shared) (H : Hp) (vs : List V) (Q : VK) (E : XK), Room k (A.deeper (envOfC q (defScope st) s.heap.objs.size (He.ma K (He.ga K C) m) cdv)) → sp vs H Q E →
      ∃ t, PSs (cxOf (L2.CX P w) P w K mg base N q (defScope st) (He.ma K (He.ga K C) m) cdv A outer s H E) (defBody st) t ∧ t { nx := fun _ H' => Q .non H', rt := Q } (start N vs) H) : CalM P w K mg base (k + 1) C m ps sp := by
  obtain ⟨fd, F⟩ := F
  exact ⟨⟨fd, F.ok S len hbody, F.bindsN hb⟩, cls, meth⟩
def tMth (C : Addr) (m : Str) (sp : Sp) (E : XK) (ta : TE) (t : TA) : TE := fun σ H Q => ta σ H fun x H1 => ∃ a dx fs, x = .ref a ∧ H1 a = some (.ins C dx fs) ∧ fs.lookup m = none ∧ t σ H1 fun vs H2 => sp (x :: vs) H2 Q E
def tMthS (C : Addr) (m : Str) (sp : Sp) (E : L2.St → XK) (ta : TE) (t : TA) : TE := fun σ H Q => ta σ H fun x H1 => ∃ a dx fs, x = .ref a ∧ H1 a = some (.ins C dx fs) ∧ fs.lookup m = none ∧ t σ H1 fun vs H2 => sp (x :: vs) H2 Q (E σ)
def tMak (C : Addr) (sp : Sp) (E : XK) (t : TA) : TE := fun σ H Q => t σ H fun vs H1 => ∀ x dx, H1 x = none → H1 dx = none → dx ≠ x → sp (.ref x :: vs) (upd (upd H1 dx (.own x)) x (.ins C dx [])) (fun v H2 => v = .non ∧ Q (.ref x) H2) E
def tMakS (C : Addr) (sp : Sp) (E : L2.St → XK) (t : TA) : TE := fun σ H Q => t σ H fun vs H1 => ∀ x dx, H1 x = none → H1 dx = none → dx ≠ x → sp (.ref x :: vs) (upd (upd H1 dx (.own x)) x (.ins C dx [])) (fun v H2 => v = .non ∧ Q (.ref x) H2) (E σ)
section
variable {X : Cx} {k j : Nat} {C m x : Str} {ps : List Str} {sp : Sp} {E : XK} {o e : Expr} {es : List Expr} {ta : TE} {t : TA} {p apos pos : Pos} {pl : Sem Bool} {W : WX}
theorem pe_mth (c : CalM X.prog X.w X.K X.mg X.base k C m ps sp) (hr : Room j X.A) (hk : k ≤ j) (hx : Passes (L2.CX X.prog X.w) X E) (he : PE X o ta) (ha : PA X (e :: es) t)
    (hst : starEach (e :: es) X.env = (false, eval e X.env) :: starEach es X.env := by rfl) (hpl : (backTo pos (starEach es X.env)).any (·.1) = false := by rfl)
    (ht : eval (.Call (.Attribute o m apos) (e :: es) [] pos) X.env = (do
      let ov ← eval o X.env
      standAt apos.atName
      let (f, first) ← holding [ov] (getMethod ov m pl)
      callWith pos f first (backTo pos (starEach (e :: es) X.env)) (backToKw pos (keywordEach [] X.env))) := by rfl) :
    PE X (.Call (.Attribute o m apos) (e :: es) [] pos) (tMth (He.ga X.K C) m sp E ta t) := by
  obtain ⟨fd, F, b⟩ := c.ex
  refine ⟨fun pins s σ H Q I h => (pe_meth (pl := pl) he c.cls c.meth F (hr.mono hk) b .nil hx ha hst hpl ht).run pins s σ H Q I ?_⟩
  have e2 : (fun (x : V) (vs : List V) (H2 : Hp) => sp (x :: (vs ++ [])) H2 Q E) = fun x vs H2 => sp (x :: vs) H2 Q E := by
    funext x vs H2
    rw [List.append_nil]
  show ta σ H fun x H1 => ∃ a dx fs, x = .ref a ∧ H1 a = some (.ins (He.ga X.K C) dx fs) ∧ fs.lookup m = none ∧ t σ H1 ((fun (x : V) (vs : List V) (H2 : Hp) => sp (x :: (vs ++ [])) H2 Q E) x)
  rw [e2]
  exact h
theorem pe_mth0 (c : CalM X.prog X.w X.K X.mg X.base k C m ps sp) (hr : Room j X.A) (hk : k ≤ j) (hx : Passes (L2.CX X.prog X.w) X E) (he : PE X o ta)
    (ht : eval (.Call (.Attribute o m apos) [] [] pos) X.env = (do
      let ov ← eval o X.env
      standAt apos.atName
      let (f, first) ← holding [ov] (getMethod ov m pl)
      callWith pos f first (backTo pos (starEach [] X.env)) (backToKw pos (keywordEach [] X.env))) := by rfl) :
    PE X (.Call (.Attribute o m apos) [] [] pos) (tMth (He.ga X.K C) m sp E ta tNil) := by
  obtain ⟨fd, F, b⟩ := c.ex
  exact ⟨fun pins s σ H Q I h => (pe_meth0 (pl := pl) he c.cls c.meth F (hr.mono hk) b .nil hx ht).run pins s σ H Q I h⟩
theorem pe_mthS (c : CalM X.prog X.w X.K X.mg X.base k C m ps sp) (hr : Room j X.A) (hk : k ≤ j) (tk : Takes X W) (he : PE X o ta) (ha : PA X (e :: es) t)
    (hst : starEach (e :: es) X.env = (false, eval e X.env) :: starEach es X.env := by rfl) (hpl : (backTo pos (starEach es X.env)).any (·.1) = false := by rfl)
    (ht : eval (.Call (.Attribute o m apos) (e :: es) [] pos) X.env = (do
      let ov ← eval o X.env
      standAt apos.atName
      let (f, first) ← holding [ov] (getMethod ov m pl)
      callWith pos f first (backTo pos (starEach (e :: es) X.env)) (backToKw pos (keywordEach [] X.env))) := by rfl) :
    PE X (.Call (.Attribute o m apos) (e :: es) [] pos) (tMthS (He.ga X.K C) m sp (WE W) ta t) := by
  obtain ⟨fd, F, b⟩ := c.ex
  refine ⟨fun pins s σ H Q I h => ?_⟩
  refine PySem.W.methodCall_KW (pl := pl) (thn (he.run pins s σ H _ I h) fun u s1 ⟨x, H1, I1, rx, a, dx, fs, ex, ea, l, q⟩ => ?_) ht
  subst ex
  obtain rfl : u = Value.ref a := rx
  refine getmeth_ok I1 ea c.cls c.meth l ?_
  refine PySem.W.callWith_K (first := [.ref a]) (h₀ := X.base) I.ok.mod.kin c.meth.kp (thn (ha.run pos pins s1 σ H1 _ I1 q) fun us s2 ⟨vs, H2, I2, r, q2⟩ => ⟨I2.kIn, ?_⟩) hst hpl
  exact run_fnS (us := .ref a :: us) (vs := .ref a :: vs) F (hr.mono hk) b (passAt tk σ) I2 (.cons rfl r) q2
theorem pe_mth0S (c : CalM X.prog X.w X.K X.mg X.base k C m ps sp) (hr : Room j X.A) (hk : k ≤ j) (tk : Takes X W) (he : PE X o ta)
    (ht : eval (.Call (.Attribute o m apos) [] [] pos) X.env = (do
      let ov ← eval o X.env
      standAt apos.atName
      let (f, first) ← holding [ov] (getMethod ov m pl)
      callWith pos f first (backTo pos (starEach [] X.env)) (backToKw pos (keywordEach [] X.env))) := by rfl) :
    PE X (.Call (.Attribute o m apos) [] [] pos) (tMthS (He.ga X.K C) m sp (WE W) ta tNil) := by
  obtain ⟨fd, F, b⟩ := c.ex
  refine ⟨fun pins s σ H Q I h => ?_⟩
  refine PySem.W.methodCall_KW (pl := pl) (thn (he.run pins s σ H _ I h) fun u s1 ⟨x, H1, I1, rx, a, dx, fs, ex, ea, l, q⟩ => ?_) ht
  subst ex
  obtain rfl : u = Value.ref a := rx
  refine getmeth_ok I1 ea c.cls c.meth l ?_
  exact PySem.W.callWith_K0 (first := [.ref a]) I1.kIn c.meth.kp (run_fnS (us := [.ref a]) (vs := [.ref a]) F (hr.mono hk) b (passAt tk σ) I1 (.cons rfl .nil) q)
theorem run_makS {C f : Addr} {fd : FuncData} {E : L2.St → XK} {pins : List (Addr × Obj)} {σ : L2.St} {H : Hp} {s : Shared} {Q : VK} {us : List Value} {vs : List V} (M : Mk X.K C f) (F : FnOk X.prog X.w X.K X.mg X.base (L2.CX X.prog X.w) k f fd ps sp) (hr : Room (k + 1) X.A) (hb : Binds X.K fd ps [])
    (hx : PassesAt (L2.CX X.prog X.w) X σ (E σ)) (I : Inv X pins σ H s) (r : Vals vs us)
    (h : ∀ x dx, H x = none → H dx = none → dx ≠ x → sp (.ref x :: vs) (upd (upd H dx (.own x)) x (.ins C dx [])) (fun v H2 => v = .non ∧ Q (.ref x) H2) (E σ)) :
    wpAny (model X.prog X.w) X.A (call (.ref C) us) (EP X pins σ Q) X.xe s := by
  have hq := h (s.heap.objs.size + 1) s.heap.objs.size (I.hok.fresh (Nat.le_succ _)) (I.hok.fresh (Nat.le_refl _)) (Nat.ne_of_lt (Nat.lt_succ_self _))
  have I2 := Inv.made (C := C) I
  have r2 : Vals (V.ref (s.heap.objs.size + 1) :: vs) (Value.ref (s.heap.objs.size + 1) :: us) := .cons rfl r
  have hl : (Value.ref (s.heap.objs.size + 1) :: us).length = ps.length := by
    have e := r2.length
    rw [F.len _ _ _ _ hq] at e
    exact e.symm
  refine wpAny_call (make_map (f := f) I.kIn M.makes M.init (beq_iff_eq.mp M.fn) (codeAny_mono (F.run _ X.stack _ _ ⟨Value.ref (s.heap.objs.size + 1) :: us, []⟩ (Value.ref (s.heap.objs.size + 1) :: us) _ _ (E σ) (hr.make C us [])
    (I2.env0.make C us []) (by have := hb _ (Value.ref (s.heap.objs.size + 1) :: us) I2.kIn (by rw [List.append_nil]; exact hl); rw [List.append_nil] at this; exact this) r2 hq) fun r s' hq' => ?_))
  cases r with
  | error e => exact hx pins _ _ e s' I2 hq'
  | ok fl =>
    cases fl with
    | ret u =>
      obtain ⟨v, H', I3, rv, ev, q3⟩ := I2.after hq'
      subst ev
      exact ⟨rv, ⟨V.ref (s.heap.objs.size + 1), H', I3, rfl, q3⟩⟩
    | next => exact False.elim hq'
    | brk => exact False.elim hq'
    | cont => exact False.elim hq'
theorem pe_mk (c : CalM X.prog X.w X.K X.mg X.base k C "__init__" ps sp) (M : Mk X.K (He.ga X.K C) (He.ma X.K (He.ga X.K C) "__init__")) (hm : X.mg C = some (.ref (He.ga X.K C))) (hr : Room j X.A) (hk : k + 1 ≤ j) (hx : Passes (L2.CX X.prog X.w) X E) (hg : Gl X C) (ha : PA X (e :: es) t)
    (hdb : (C == ("__debug__" : Str)) = false := by decide) (he : starEach (e :: es) X.env = (false, eval e X.env) :: starEach es X.env := by rfl) (hpl : (backTo pos (starEach es X.env)).any (·.1) = false := by rfl) :
    PE X (.Call (.Name C p) (e :: es) [] pos) (tMak (He.ga X.K C) sp E t) := by
  obtain ⟨fd, F, b⟩ := c.ex
  refine ⟨fun pins s σ H Q I h => (pe_make M F (hr.mono hk) hg hm b .nil hx ha hdb he hpl).run pins s σ H Q I ?_⟩
  have e2 : (fun (vs : List V) (H1 : Hp) => ∀ x dx, H1 x = none → H1 dx = none → dx ≠ x → sp (.ref x :: (vs ++ [])) (upd (upd H1 dx (.own x)) x (.ins (He.ga X.K C) dx [])) (fun v H2 => v = .non ∧ Q (.ref x) H2) E) = fun vs H1 => ∀ x dx, H1 x = none → H1 dx = none → dx ≠ x → sp (.ref x :: vs) (upd (upd H1 dx (.own x)) x (.ins (He.ga X.K C) dx [])) (fun v H2 => v = .non ∧ Q (.ref x) H2) E := by
    funext vs H1
    rw [List.append_nil]
  show t σ H fun vs H1 => ∀ x dx, H1 x = none → H1 dx = none → dx ≠ x → sp (.ref x :: (vs ++ [])) (upd (upd H1 dx (.own x)) x (.ins (He.ga X.K C) dx [])) (fun v H2 => v = .non ∧ Q (.ref x) H2) E
  rw [e2]
  exact h
theorem pe_mkS (c : CalM X.prog X.w X.K X.mg X.base k C "__init__" ps sp) (M : Mk X.K (He.ga X.K C) (He.ma X.K (He.ga X.K C) "__init__")) (hm : X.mg C = some (.ref (He.ga X.K C))) (hr : Room j X.A) (hk : k + 1 ≤ j) (tk : Takes X W) (hg : Gl X C) (ha : PA X (e :: es) t)
    (hdb : (C == ("__debug__" : Str)) = false := by decide) (he : starEach (e :: es) X.env = (false, eval e X.env) :: starEach es X.env := by rfl) (hpl : (backTo pos (starEach es X.env)).any (·.1) = false := by rfl) :
    PE X (.Call (.Name C p) (e :: es) [] pos) (tMakS (He.ga X.K C) sp (WE W) t) := by
  obtain ⟨fd, F, b⟩ := c.ex
  refine ⟨fun pins s σ H Q I h => ?_⟩
  refine wpAny_Call_Name_kw (ld_glob I hg hm ?_ hdb)
  refine PySem.W.callWith_K (h₀ := X.base) I.ok.mod.kin M.kp (thn (ha.run pos pins s σ H _ I h) fun us s1 ⟨vs, H1, I1, r, q⟩ => ⟨I1.kIn, ?_⟩) he hpl
  exact run_makS M F (hr.mono hk) b (passAt tk σ) I1 r q
/-! ### fields -/
def tFldC (C : Addr) (ta : TE) (f : Str) : TE := fun σ H Q => ta σ H fun x H1 => ∃ a dx fs v, x = .ref a ∧ H1 a = some (.ins C dx fs) ∧ fs.lookup f = some v ∧ Q v H1
def sFldC (C : Addr) (ta tv : TE) (f : Str) : TS := fun D σ H => tv σ H fun y H1 => ta σ H1 fun x H2 => ∃ a dx fs, x = .ref a ∧ H2 a = some (.ins C dx fs) ∧ fs.length < 1000 ∧ D.nx σ (upd H2 a (.ins C dx (putF f y fs)))
theorem pe_fldC {f : Str} {D : Addr} (c : Cls X.K D) (n : NoAttr X.K D f) (he : PE X e ta) (hb : attributeBase e f X.env (eval e X.env) = eval e X.env := by rfl) : PE X (.Attribute e f pos) (tFldC D ta f) :=
  ⟨fun pins s σ H Q I h => (pe_fld (pe_mono he) hb).run pins s σ H Q I ⟨_, h, fun x H1 ⟨a, dx, fs, v, e1, e2, e3, q⟩ => ⟨a, D, dx, fs, v, e1, e2, c, n, e3, q⟩⟩⟩
theorem ps_fldC {f : Str} {tv : TE} {D : Addr} {value : Expr} {pos' : Pos} (c : Cls X.K D) (n : NoAttr X.K D f) (ha : PE X o ta) (hv : PE X value tv) (hs : swapsWith value (some (.Attribute o f pos')) pos.line X.env = pure false := by rfl) :
    PS X (.Assign [.Attribute o f pos'] value pos) (sFldC D ta tv f) :=
  ⟨fun pins s σ H D' I h => (ps_fld (pe_mono ha) (pe_mono hv) hs).run pins s σ H D' I ⟨_, h, fun y H1 q => ⟨_, q, fun x H2 ⟨a, dx, fs, e1, e2, e3, q⟩ => ⟨a, D, dx, fs, e1, e2, c, n, e3, q⟩⟩⟩⟩
/-! ### the head with tables -/
abbrev AlX : Type := He.AlD × List (Option (List (Option (Str × Int))))
def obT (p : Fg → Bool) (fn : List He.DefD) (ts : List He.Tab) (K : Fg) : AlX := (obX p fn K, ts.map fun t => He.dicW K (t.1 K))
def vaT (fn : List He.DefD) (ts : List He.Tab) (w : World) : AlX := (He.valD fn, ts.map fun t => some (He.keysIn w.params t.2))
def sayT (p : Fg → Bool) (fn : List He.DefD) (ts : List He.Tab) (w : World) (K : Fg) : Prop := obT p fn ts K = vaT fn ts w
def hkT (n : Nat) (p : Fg → Bool) (fn : List He.DefD) (ts : List He.Tab) : PySem.W.Hook where
  α := AlX
  obs := fun s => obT p fn ts (He.frG s.heap.get? (asX s.heap.get? n))
  val := fun w => vaT fn ts w
  says := fun w h => ∃ K : Fg, K.In h ∧ sayT p fn ts w K
  of := fun _ _ e => ⟨_, He.frG_in, e⟩
  keeps := fun _ _ _ ⟨K, hK, c⟩ k => ⟨K, PySem.W.Frag.In.keeps hK k, c⟩
theorem obT_eq {n : Nat} {p : Fg → Bool} {fn : List He.DefD} {ts : List He.Tab} {g : Addr → Option Obj} {s : Shared} (h : ∀ a, g a = s.heap.get? a) : obT p fn ts (He.frG g (asX g n)) = (hkT n p fn ts).obs s := by
  rw [show g = s.heap.get? from funext h] <;> rfl
theorem sayT.bas {p : Fg → Bool} {fn : List He.DefD} {ts : List He.Tab} {w : World} {K : Fg} (c : sayT p fn ts w K) : sayX p fn K := congrArg (fun z : AlX => z.1) c
theorem sayT.tab {p : Fg → Bool} {fn : List He.DefD} {ts : List He.Tab} {w : World} {K : Fg} (c : sayT p fn ts w K) (i : Nat) {t : He.Tab} (h : ts[i]? = some t := by rfl) : ∃ es n, KDict K w (t.1 K) es n := by
  have e : ts.map (fun t => He.dicW K (t.1 K)) = ts.map fun t => some (He.keysIn w.params t.2) := congrArg (fun z : AlX => z.2) c
  have e2 : (ts.map fun t => He.dicW K (t.1 K))[i]? = (ts.map fun t => some (He.keysIn w.params t.2))[i]? := by rw [e]
  rw [List.getElem?_map, List.getElem?_map, h] at e2
  exact He.dicW_ok (Option.some.inj e2)
/-- a value of such a table -/
theorem kdct_of {K : Fg} {w : World} {a : Addr} {kvs : List (Str × He.Dv)} (h : ∃ es n, KDict K w a es n) (v : He.valsB K a kvs = true) : ∀ q ∈ kvs, KDct K w a q.1 (q.2.v K) := fun q hq => by
  obtain ⟨es, n, D⟩ := h
  obtain ⟨u, e, r⟩ := He.valsB_ok v hq
  exact ⟨es, n, u, D.at_, D.lit, e, r⟩
/-! ### constants of a module -/
theorem pe_gint {i : Int} (hg : Gl X x) (hm : ∃ t, X.mg x = some (.int i t)) (hd : (x == ("__debug__" : Str)) = false := by decide) : PE X (.Name x pos) (tC (.int i)) := by
  obtain ⟨t, hm⟩ := hm
  exact pe_glob hg hm ⟨t, rfl⟩ hd
theorem pe_gstr {z : Str} (hg : Gl X x) (hm : ∃ t, X.mg x = some (.str z t)) (hd : (x == ("__debug__" : Str)) = false := by decide) : PE X (.Name x pos) (tC (.str z)) := by
  obtain ⟨t, hm⟩ := hm
  exact pe_glob hg hm ⟨t, rfl⟩ hd
end
/-! ### xs[i] op= e, the read by value -/
def rGetL : V → V → Hp → VK → Prop := fun o i H Q => ∃ p xs k v, o = .ref p ∧ i = .int k ∧ H p = some (.lst xs) ∧ (0 ≤ k ∧ k < 2 ^ 62) ∧ xs[k.toNat]? = some v ∧ Q v H
theorem get_list {X : Cx} : PGet X rGetL := by
  intro pins s σ H o i ov iv Q I r1 r2 ⟨p, xs, k, v, e1, e2, e3, ⟨k0, k1⟩, e4, q⟩
  subst e1 e2
  cases r1
  obtain ⟨t, rfl⟩ := r2
  obtain ⟨its, r, pl, hz⟩ := I.list (SqL.of e3)
  obtain ⟨u, ew, rw'⟩ := r.get e4
  exact wpAny_getItem_list pl.isList k0 (by omega) (by simpa using ew) ⟨v, H, I, rw', q⟩
theorem ri : (∀ C m sp E ta t σ H Q, tMth C m sp E ta t σ H Q = ta σ H fun x H1 => ∃ a dx fs, x = .ref a ∧ H1 a = some (.ins C dx fs) ∧ fs.lookup m = none ∧ t σ H1 fun vs H2 => sp (x :: vs) H2 Q E) ∧
    (∀ C m sp E ta t σ H Q, tMthS C m sp E ta t σ H Q = ta σ H fun x H1 => ∃ a dx fs, x = .ref a ∧ H1 a = some (.ins C dx fs) ∧ fs.lookup m = none ∧ t σ H1 fun vs H2 => sp (x :: vs) H2 Q (E σ)) ∧
    (∀ C sp E t σ H Q, tMak C sp E t σ H Q = t σ H fun vs H1 => ∀ x dx, H1 x = none → H1 dx = none → dx ≠ x → sp (.ref x :: vs) (upd (upd H1 dx (.own x)) x (.ins C dx [])) (fun v H2 => v = .non ∧ Q (.ref x) H2) E) ∧
    (∀ C sp E t σ H Q, tMakS C sp E t σ H Q = t σ H fun vs H1 => ∀ x dx, H1 x = none → H1 dx = none → dx ≠ x → sp (.ref x :: vs) (upd (upd H1 dx (.own x)) x (.ins C dx [])) (fun v H2 => v = .non ∧ Q (.ref x) H2) (E σ)) ∧
    (∀ C ta f σ H Q, tFldC C ta f σ H Q = ta σ H fun x H1 => ∃ a dx fs v, x = .ref a ∧ H1 a = some (.ins C dx fs) ∧ fs.lookup f = some v ∧ Q v H1) ∧
    (∀ C ta tv f D σ H, sFldC C ta tv f D σ H = tv σ H fun y H1 => ta σ H1 fun x H2 => ∃ a dx fs, x = .ref a ∧ H2 a = some (.ins C dx fs) ∧ fs.length < 1000 ∧ D.nx σ (upd H2 a (.ins C dx (putF f y fs)))) ∧
    (∀ to ti te tg tp ts D σ H, tAugS to ti te tg tp ts D σ H = to σ H fun o H1 => ti σ H1 fun i H2 => tg o i H2 fun x H3 => te σ H3 fun y H4 => tp x y H4 fun z H5 => ts o i z H5 fun H6 => D.nx σ H6) ∧
    (∀ f i y H Q, ipI f (.int i) y H Q = ∃ j, y = .int j ∧ Q (.int (f i j)) H) ∧
    (∀ p i H Q, rGetL (.ref p) (.int i) H Q = ∃ xs v, H p = some (.lst xs) ∧ (0 ≤ i ∧ i < 2 ^ 62) ∧ xs[i.toNat]? = some v ∧ Q v H) := by
  refine ⟨?_, ?_, ?_, ?_, ?_, ?_, ?_, ?_, ?_⟩
  iterate 7 (intros; rfl)
  · intro f i y H Q
    exact propext ⟨fun ⟨_, j, e1, e2, q⟩ => ⟨j, e2, by cases e1; exact q⟩, fun ⟨j, e, q⟩ => ⟨i, j, rfl, e, q⟩⟩
  · intro p i H Q
    exact propext ⟨fun ⟨_, xs, _, v, e1, e2, e3, e4, e5, q⟩ => (by cases e1; cases e2; exact ⟨xs, v, e3, e4, e5, q⟩), fun ⟨xs, v, e3, e4, e5, q⟩ => ⟨p, xs, i, v, rfl, rfl, e3, e4, e5, q⟩⟩
end Sw

/-! Errors of the program's own as values: made, asked for their class, for a field. -/
namespace Sw
open PySem PySem.Spec PyProof.Rows L2
/-- C(e, ..): the error stays a value -/
def tMkV (C : Addr) (sp : Sp) (ta : TA) : TE := fun σ H Q => ta σ H fun vs H1 => vs.length ≤ 1000 ∧ ∀ a, H1 a = none → sp (.ref a :: vs) (upd H1 a (exo a C none)) (fun v H2 => v = .non ∧ Q (.ref a) H2) (fun _ _ _ => False)
section
variable {X : Cx} {k : Nat} {x f : Str} {e : Expr} {es : List Expr} {ta : TA} {te : TE} {p pos : Pos}
theorem run_mkV {C fI : Addr} {fd : FuncData} {ps : List Str} {sp : Sp} {pins : List (Addr × Obj)} {σ : L2.St} {H1 : Hp} {s1 : Shared} {Q : VK} {us : List Value} {vs : List V} (T : OexC X.K C) (iC : PySem.W.findIn X.K (.ref C) "__init__" = some (some (.ref fI))) (tI : PySem.W.typeIn X.K (.ref fI) = some (.type "function"))
    (F1 : FnOk X.prog X.w X.K X.mg X.base (L2.CX X.prog X.w) k fI fd ps sp) (hr : Room (k + 1) X.A) (hb : Binds X.K fd ps []) (I1 : Inv X pins σ H1 s1) (r1 : Vals vs us) (hz : vs.length ≤ 1000)
    (q1 : ∀ a, H1 a = none → sp (.ref a :: vs) (upd H1 a (exo a C none)) (fun v H2 => v = .non ∧ Q (.ref a) H2) (fun _ _ _ => False)) :
    wpAny (model X.prog X.w) X.A (call (.ref C) us) (EP X pins σ Q) X.xe s1 := by
  obtain ⟨nm, q, N, bs, bm, sn, sub, ab, col, dd, k0, k1, k2, k3, k5, hC, hbm⟩ := T.cls
  obtain ⟨hp, g, dr, tk, os⟩ := s1
  have hsz : hp.objs.size ≤ hp.objs.size + 1 := Nat.le_succ _
  have hn : H1 (hp.objs.size + 1) = none := I1.hok.fresh hsz
  have hq := q1 (hp.objs.size + 1) hn
  have kk : ∀ b o, hp.get? b = some o → ((hp.push (PySem.W.kdv_tup us)).push (PySem.HandSPX.excO C hp.objs.size)).get? b = some o := fun b o e => Heap.get?_push_of_some _ (Heap.get?_push_of_some _ e)
  have hget : ((hp.push (PySem.W.kdv_tup us)).push (PySem.HandSPX.excO C hp.objs.size)).get? (hp.objs.size + 1) = some (PySem.HandSPX.excO C hp.objs.size) := by heap_get
  have I2 : Inv X pins σ (upd H1 (hp.objs.size + 1) (exo (hp.objs.size + 1) C none)) ⟨(hp.push (PySem.W.kdv_tup us)).push (PySem.HandSPX.excO C hp.objs.size), g, dr, tk, os⟩ :=
    I1.laid (t' := tk) (a := hp.objs.size + 1) (o := exo (hp.objs.size + 1) C none) (h' := (hp.push (PySem.W.kdv_tup us)).push (PySem.HandSPX.excO C hp.objs.size)) kk hsz (exo_ok hget)
  have r2 : Vals (V.ref (hp.objs.size + 1) :: vs) (Value.ref (hp.objs.size + 1) :: us) := .cons rfl r1
  have hl : (Value.ref (hp.objs.size + 1) :: us).length = ps.length := by
    have e := r2.length
    rw [F1.len _ _ _ _ hq] at e
    exact e.symm
  have hus : us.length ≤ sizeLine := by
    rw [← Paired.length r1, sizeLine_eq]
    omega
  refine wpAny_call (PySem.HandSPX.call_own F.excBase_ValueError (fun Y => PySem.HandSPX.refsVE_contains Y bm hbm) (I1.kIn _ _ hC) (PySem.W.looks_findIn I1.kIn iC) (fun self => PySem.W.bind_fn I1.kIn self tI) hus
    (codeAny_mono (F1.run _ X.stack _ _ ⟨Value.ref (hp.objs.size + 1) :: us, []⟩ (Value.ref (hp.objs.size + 1) :: us) _ _ (fun _ _ _ => False) (hr.make C us []) (I2.env0.make C us [])
      (by have := hb _ (Value.ref (hp.objs.size + 1) :: us) I2.kIn (by rw [List.append_nil]; exact hl); rw [List.append_nil] at this; exact this) r2 hq) fun r s' hq' => ?_))
  cases r with
  | error er => exact passL pins σ _ _ er s' I2 hq'
  | ok fl =>
    cases fl with
    | ret u =>
      obtain ⟨v, H', I3, rv, ev, q3⟩ := I2.after hq'
      subst ev
      exact ⟨rv, ⟨V.ref (hp.objs.size + 1), H', I3, rfl, q3⟩⟩
    | next => exact False.elim hq'
    | brk => exact False.elim hq'
    | cont => exact False.elim hq'
/-- C(e), one field -/
def tMk1V (C : Addr) (f : Str) (ta : TA) : TE := fun σ H Q => ta σ H fun vs H1 => ∃ v, vs = [v] ∧ ∀ a d, H1 a = none → H1 d = none → d ≠ a → Q (.ref a) (upd (upd H1 d (exd d [(f, v)])) a (exo a C (some d)))
theorem pe_mk1V (T : Exn X.prog X.w X.K X.mg X.base x f) (hr : Room k X.A) (hk : 3 ≤ k) (hg : Gl X x) (ha : PA X (e :: es) ta)
    (hdb : (x == ("__debug__" : Str)) = false := by decide) (he : starEach (e :: es) X.env = (false, eval e X.env) :: starEach es X.env := by rfl) (hpl : (backTo pos (starEach es X.env)).any (·.1) = false := by rfl) :
    PE X (.Call (.Name x p) (e :: es) [] pos) (tMk1V (He.ga X.K x) f ta) := by
  obtain ⟨fI, fd, iC, tI, F, b⟩ := T.ini
  refine ⟨fun pins s σ H Q I h => ?_⟩
  refine wpAny_Call_Name_kw (ld_glob I hg T.at_ ?_ hdb)
  refine PySem.W.callWith_K (h₀ := X.base) I.ok.mod.kin T.c.ox.kC (thn (ha.run pos pins s σ H _ I h) fun us s1 ⟨vs, H1, I1, r1, v, ev, q⟩ => ⟨I1.kIn, ?_⟩) he hpl
  subst ev
  refine run_mkV T.c.ox iC tI F (hr.mono hk) b I1 r1 (by show 1 ≤ 1000; decide) fun a na => ⟨a, v, rfl, upd_same, fun d nd ne => ⟨rfl, ?_⟩⟩
  rw [upd_ne ne] at nd
  have e2 : upd (upd (upd H1 a (exo a (He.ga X.K x) none)) d (exd d [(f, v)])) a (exo a (He.ga X.K x) (some d)) = upd (upd H1 d (exd d [(f, v)])) a (exo a (He.ga X.K x) (some d)) := by
    funext c
    by_cases h1 : c = a
    · rw [h1, upd_same, upd_same]
    · rw [upd_ne h1, upd_ne h1]
      by_cases h2 : c = d
      · rw [h2, upd_same, upd_same]
      · rw [upd_ne h2, upd_ne h2, upd_ne h1]
  rw [e2]
  exact q a d na nd ne
/-! ### isinstance, of such a value -/
def Xo (H : Hp) (a C : Addr) : Prop := H a = some (exo a C none) ∨ H a = some (ExO (.ref C) a) ∨ ∃ dx fs, H a = some (exo a C (some dx)) ∧ H dx = some (exd dx fs)
def rIsV (K : Fg) : List V → Hp → VK → Prop := fun xs H Q => ∃ (a D : Addr) (c : V) (cv : Value) (b : Bool), xs = [.ref a, c] ∧ ClsV c cv ∧ ExC K D ∧ Xo H a D ∧ PySem.W.kitOne K (.ref D) cv = some b ∧ Q (.bl b) H
theorem call_isV : CallR X (.builtin "isinstance") (rIsV X.K) := by
  intro pins s σ H xs us Q I r h
  obtain ⟨a, D, c, cv, b, rfl, hcv, C, hx, e, q⟩ := h
  cases r with
  | cons r1 r2 =>
    cases r2 with
    | cons r3 r4 =>
      cases r4
      cases r1
      have ec := hcv.eq r3
      subst ec
      rcases hx with ha | ha | ⟨dx, fs, ha, hd⟩
      · obtain ⟨t1, hget⟩ := exo_at I.hok ha
        have J : PySem.W.InstAt s.heap a _ D none := ⟨hget, rfl, rfl, trivial⟩
        exact PySem.W.kia_one (PySem.W.sw_kitE C.xf.ga C.xf.gg C.xf.exC C.xf.hdC C.cc C.gs C.tk C.mo) I.kIn J e (fun z => nomatch z) fun tk => ⟨.bl b, H, I.kept (t' := tk) fun _ _ z => z, rfl, q⟩
      · obtain ⟨⟨oe, vs, hget, hz, hv, _⟩, _, _⟩ := I.hok a _ ha
        have J : PySem.W.InstAt s.heap a oe D none := by
          obtain ⟨oc, od, oda, osl⟩ := oe
          obtain ⟨h1, h2⟩ := hz
          dsimp only at h1 h2 hv
          subst h1 h2 hv
          exact ⟨hget, rfl, rfl, trivial⟩
        exact PySem.W.kia_one (PySem.W.sw_kitE C.xf.ga C.xf.gg C.xf.exC C.xf.hdC C.cc C.gs C.tk C.mo) I.kIn J e (fun z => nomatch z) fun tk => ⟨.bl b, H, I.kept (t' := tk) fun _ _ z => z, rfl, q⟩
      · obtain ⟨t1, hget⟩ := exo_at I.hok ha
        obtain ⟨mA, hns, _⟩ := exd_at I.hok hd
        obtain ⟨od, ho, _⟩ := lookIn_ns hns
        have J : PySem.W.InstAt s.heap a _ D (some od) := ⟨hget, rfl, rfl, ho⟩
        exact PySem.W.kia_one (PySem.W.sw_kitE C.xf.ga C.xf.gg C.xf.exC C.xf.hdC C.cc C.gs C.tk C.mo) I.kIn J e (fun z => nomatch z) fun tk => ⟨.bl b, H, I.kept (t' := tk) fun _ _ z => z, rfl, q⟩
/-- isinstance of such a value, or of any other kind -/
theorem is_qv : CallR X (.builtin "isinstance") (fun xs H Q => rIsQ xs H Q ∨ rIsV X.K xs H Q) := fun pins s σ H xs us Q I r h => h.elim (is_q pins s σ H xs us Q I r) (call_isV pins s σ H xs us Q I r)
/-! ### its fields -/
def tXfV (K : Fg) (te : TE) (f : Str) : TE := fun σ H Q => te σ H fun x H1 => ∃ (a D dx : Addr) (fs : List (Str × V)) (v : V), x = .ref a ∧ ExC K D ∧ PySem.W.findIn K (.ref D) f = some none ∧ H1 a = some (exo a D (some dx)) ∧ H1 dx = some (exd dx fs) ∧ fs.lookup f = some v ∧ Q v H1
theorem pe_xfV (he : PE X e te) (hb : attributeBase e f X.env (eval e X.env) = eval e X.env := by rfl) : PE X (.Attribute e f pos) (tXfV X.K te f) := by
  refine ⟨fun pins s σ H Q I h => ?_⟩
  refine attr_of hb (thn (he.run pins s σ H _ I h) fun u s1 ⟨x, H1, I1, rx, a, D, dx, fs, v, ex, T, hno, ha, hd, l, q⟩ => ?_)
  subst ex
  obtain rfl : u = Value.ref a := rx
  obtain ⟨t1, hget⟩ := exo_at I1.hok ha
  obtain ⟨mA, hns, hr⟩ := exd_at I1.hok hd
  obtain ⟨od, ho, hl⟩ := lookIn_ns hns
  obtain ⟨u, hu, ru⟩ := RelO.some_of (v := v) (o := mA f) (by rw [← l]; exact hr f)
  have J : PySem.W.InstAt s1.heap a _ D (some od) := ⟨hget, rfl, rfl, ho⟩
  exact HandSPX.exc_get I1.kIn J T.xf.ga T.xf.gg T.xf.exC (PySem.W.findObj_own T.xf.hdC hno rfl (by rw [hl, hu])) (handed_of ru) ⟨v, H1, I1.tok _, ru, q⟩
/-! ### classes with two fields, with none -/
structure ExnG (P : Program) (w : World) (K : Fg) (mg : Str → Option Value) (base : Heap) (j : Nat) (x : Str) (ps : List Str) (sp : Sp) : Prop where
  at_ : mg x = some (.ref (He.ga K x))
  c : ExC K (He.ga K x)
  ini : ∃ (fI : Addr) (fd : FuncData), PySem.W.findIn K (.ref (He.ga K x)) "__init__" = some (some (.ref fI)) ∧ PySem.W.typeIn K (.ref fI) = some (.type "function") ∧ FnOk P w K mg base (L2.CX P w) j fI fd ps sp ∧ Binds K fd ps []
theorem pe_mkG {j : Nat} {ps : List Str} {sp : Sp} (T : ExnG X.prog X.w X.K X.mg X.base j x ps sp) (hr : Room k X.A) (hk : j + 1 ≤ k) (hg : Gl X x) (ha : PA X (e :: es) ta)
    (hdb : (x == ("__debug__" : Str)) = false := by decide) (he : starEach (e :: es) X.env = (false, eval e X.env) :: starEach es X.env := by rfl) (hpl : (backTo pos (starEach es X.env)).any (·.1) = false := by rfl) :
    PE X (.Call (.Name x p) (e :: es) [] pos) (tMkV (He.ga X.K x) sp ta) := by
  obtain ⟨fI, fd, iC, tI, F, b⟩ := T.ini
  refine ⟨fun pins s σ H Q I h => ?_⟩
  refine wpAny_Call_Name_kw (ld_glob I hg T.at_ ?_ hdb)
  exact PySem.W.callWith_K (h₀ := X.base) I.ok.mod.kin T.c.ox.kC (thn (ha.run pos pins s σ H _ I h) fun us s1 ⟨vs, H1, I1, r1, hz, q⟩ => ⟨I1.kIn, run_mkV T.c.ox iC tI F (hr.mono hk) b I1 r1 hz q⟩) he hpl
theorem pe_mkG0 {j : Nat} {ps : List Str} {sp : Sp} (T : ExnG X.prog X.w X.K X.mg X.base j x ps sp) (hr : Room k X.A) (hk : j + 1 ≤ k) (hg : Gl X x)
    (hdb : (x == ("__debug__" : Str)) = false := by decide) : PE X (.Call (.Name x p) [] [] pos) (tMkV (He.ga X.K x) sp tNil) := by
  obtain ⟨fI, fd, iC, tI, F, b⟩ := T.ini
  refine ⟨fun pins s σ H Q I h => ?_⟩
  refine wpAny_Call_Name_kw (ld_glob I hg T.at_ ?_ hdb)
  exact PySem.W.callWith_K0 I.kIn T.c.ox.kC (run_mkV (us := []) T.c.ox iC tI F (hr.mono hk) b I .nil h.1 h.2)
end
def ini0 (m : Str) (p1 p2 p3 p4 p5 p6 : Pos) (j : Nat) : List Stmt := [.Expr (.Call (.Attribute (.Name "SeedError" p1) "__init__" p2) [.Name "self" p3, .Constant (.str m) j p4] [] p5) p6]
def spIni0 (C : Addr) : Sp := fun vs H Q _ => ∃ a : Addr, vs = [.ref a] ∧ H a = some (exo a C none) ∧ Q .non H
def ini2 (m f g : Str) (p1 p2 p3 p4 p5 p6 p7 p8 p9 p10 q7 q8 q9 q10 : Pos) (j : Nat) : List Stmt :=
  [.Expr (.Call (.Attribute (.Name "SeedError" p1) "__init__" p2) [.Name "self" p3, .Constant (.str m) j p4] [] p5) p6, .Assign [.Attribute (.Name "self" p7) f p8] (.Name f p9) p10, .Assign [.Attribute (.Name "self" q7) g q8] (.Name g q9) q10]
def spIni2 (C : Addr) (f g : Str) : Sp := fun vs H Q _ => ∃ (a : Addr) (v u : V), vs = [.ref a, v, u] ∧ H a = some (exo a C none) ∧ ∀ d, H d = none → d ≠ a → Q .non (upd (upd H d (exd d [(g, u), (f, v)])) a (exo a C (some d)))
section
variable {P : Program} {w : World} {K : Fg} {mg : Str → Option Value} {base : Heap} {C Cs fI : Addr} {f g m qual : Str} {params : Arguments} {body : List Stmt} {scope : Scope} {fd : FuncData} {p1 p2 p3 p4 p5 p6 p7 p8 p9 p10 q7 q8 q9 q10 : Pos} {j : Nat}
theorem ok_ini0 (F : FunD K "__init__" qual params body scope [] [] fI fd) (S : FnScope ["self"] ["self"] scope) (hb : body = ini0 m p1 p2 p3 p4 p5 p6 j)
    (l1 : scope.names.lookup ("self" : Str) = some .local) (l3 : scope.names.lookup ("SeedError" : Str) = some .globalImplicit) (hl : (p2.endLine == p5.line) = true)
    (T : ExC K C) (I0 : IniC K Cs) (gS : mg "SeedError" = some (.ref Cs)) : FnOk P w K mg base (L2.CX P w) 2 fI fd ["self"] (spIni0 C) := by
  subst hb
  refine F.ok S (fun vs H Q E h => ?_) (fun cdv A outer s H vs Q E hr h => ?_)
  · obtain ⟨a, rfl, _⟩ := h
    rfl
  · obtain ⟨a, rfl, ha, k⟩ := h
    refine ⟨_, pss_one (ps_expr (pe_sinit I0 l3 gS (pa_cons (pv 0 (hv := .inl l1)) (pa_cons pe_str pa_nil)) (hl := hl))), ?_⟩
    simp only [rst, rs, re, ra, ro, List.getElem?_cons_zero, List.getElem?_cons_succ, Option.some.injEq, exists_eq_left', exists_eq_left, exists_and_left, exists_eq, exists_eq', List.cons.injEq, V.ref.injEq]
    exact ⟨a, C, [.str m], ⟨rfl, rfl⟩, (by show 1 ≤ 1000; decide), T.ox, ha, k⟩
theorem ok_ini2 (F : FunD K "__init__" qual params body scope [] [] fI fd) (S : FnScope ["self", f, g] ["self", f, g] scope) (hb : body = ini2 m f g p1 p2 p3 p4 p5 p6 p7 p8 p9 p10 q7 q8 q9 q10 j)
    (l1 : scope.names.lookup ("self" : Str) = some .local) (l2 : scope.names.lookup f = some .local) (l4 : scope.names.lookup g = some .local) (l3 : scope.names.lookup ("SeedError" : Str) = some .globalImplicit) (hdb : (f == ("__debug__" : Str)) = false) (hcd : (f == ("__classdict__" : Str)) = false)
    (hdb2 : (g == ("__debug__" : Str)) = false) (hcd2 : (g == ("__classdict__" : Str)) = false) (hl : (p2.endLine == p5.line) = true)
    (T : ExC K C) (I0 : IniC K Cs) (gS : mg "SeedError" = some (.ref Cs)) (hno : PySem.W.findIn K (.ref C) f = some none) (hno2 : PySem.W.findIn K (.ref C) g = some none) : FnOk P w K mg base (L2.CX P w) 2 fI fd ["self", f, g] (spIni2 C f g) := by
  subst hb
  refine F.ok S (fun vs H Q E h => ?_) (fun cdv A outer s H vs Q E hr h => ?_)
  · obtain ⟨a, v, u, rfl, _⟩ := h
    rfl
  · obtain ⟨a, v, u, rfl, ha, k⟩ := h
    refine ⟨_, pss_cons (ps_expr (pe_sinit I0 l3 gS (pa_cons (pv 0 (hv := .inl l1)) (pa_cons pe_str pa_nil)) (hl := hl))) (pss_cons (ps_ost (pv 0 (hv := .inl l1)) (pv 1 (hv := .inl l2) (hd := hdb) (hcd := hcd))) (pss_one (ps_ost (pv 0 (hv := .inl l1)) (pv 2 (hv := .inl l4) (hd := hdb2) (hcd := hcd2))))), ?_⟩
    simp only [rst, rs, re, ra, ro, List.getElem?_cons_zero, List.getElem?_cons_succ, Option.some.injEq, exists_eq_left', exists_eq_left, exists_and_left, exists_eq, exists_eq', List.cons.injEq, V.ref.injEq]
    refine ⟨a, C, [.str m], ⟨rfl, rfl⟩, (by show 1 ≤ 1000; decide), T.ox, ha, C, T.ox, hno, .inl ⟨ha, fun d hd hn => ⟨C, T.ox, hno2, .inr ⟨d, upd_same, [(f, v)], by rw [upd_ne hn, upd_same], (by show 1 ≤ 900; decide), ?_⟩⟩⟩⟩
    have e2 : upd (upd (upd H d (exd d [(f, v)])) a (exo a C (some d))) d (exd d [(g, u), (f, v)]) = upd (upd H d (exd d [(g, u), (f, v)])) a (exo a C (some d)) := by
      funext c
      by_cases h1 : c = d
      · rw [h1, upd_same, upd_ne hn, upd_same]
      · rw [upd_ne h1]
        by_cases h2 : c = a
        · rw [h2, upd_same, upd_same]
        · rw [upd_ne h2, upd_ne h2, upd_ne h1, upd_ne h1]
    rw [e2]
    exact k d hd hn
end
theorem rv : (∀ C f ta σ H Q, tMk1V C f ta σ H Q = ta σ H fun vs H1 => ∃ v, vs = [v] ∧ ∀ a d, H1 a = none → H1 d = none → d ≠ a → Q (.ref a) (upd (upd H1 d (exd d [(f, v)])) a (exo a C (some d)))) ∧
    (∀ C sp ta σ H Q, tMkV C sp ta σ H Q = ta σ H fun vs H1 => vs.length ≤ 1000 ∧ ∀ a, H1 a = none → sp (.ref a :: vs) (upd H1 a (exo a C none)) (fun v H2 => v = .non ∧ Q (.ref a) H2) (fun _ _ _ => False)) ∧
    (∀ K te f σ H Q, tXfV K te f σ H Q = te σ H fun x H1 => ∃ (a D dx : Addr) (fs : List (Str × V)) (v : V), x = .ref a ∧ ExC K D ∧ PySem.W.findIn K (.ref D) f = some none ∧ H1 a = some (exo a D (some dx)) ∧ H1 dx = some (exd dx fs) ∧ fs.lookup f = some v ∧ Q v H1) := ⟨fun _ _ _ _ _ _ => rfl, fun _ _ _ _ _ _ => rfl, fun _ _ _ _ _ _ => rfl⟩
/-! ### kinds of plain values, in every heap -/
theorem kb (b : Bool) (H : Hp) : isB H (.bl b) "bool" = some true ∧ isB H (.bl b) "int" = some true ∧ isB H (.bl b) "str" = some false ∧ isB H (.bl b) "list" = some false ∧ isB H (.bl b) "tuple" = some false ∧ isB H (.bl b) "dict" = some false := by
  have e : tyN H (.bl b) = some "bool" := rfl
  simp only [isB, e, Option.bind_some, kitB_all, and_self]
theorem ki (i : Int) (H : Hp) : isB H (.int i) "bool" = some false ∧ isB H (.int i) "int" = some true ∧ isB H (.int i) "str" = some false ∧ isB H (.int i) "list" = some false ∧ isB H (.int i) "tuple" = some false ∧ isB H (.int i) "dict" = some false := by
  have e : tyN H (.int i) = some "int" := rfl
  simp only [isB, e, Option.bind_some, kitB_all, and_self]
theorem ks (z : Str) (H : Hp) : isB H (.str z) "bool" = some false ∧ isB H (.str z) "int" = some false ∧ isB H (.str z) "str" = some true ∧ isB H (.str z) "list" = some false ∧ isB H (.str z) "tuple" = some false ∧ isB H (.str z) "dict" = some false := by
  have e : tyN H (.str z) = some "str" := rfl
  simp only [isB, e, Option.bind_some, kitB_all, and_self]
theorem kn (H : Hp) : isB H .non "bool" = some false ∧ isB H .non "int" = some false ∧ isB H .non "str" = some false ∧ isB H .non "list" = some false ∧ isB H .non "tuple" = some false ∧ isB H .non "dict" = some false := by
  have e : tyN H .non = some "NoneType" := rfl
  simp only [isB, e, Option.bind_some, kitB_all, and_self]
theorem kindB {H : Hp} {p : Addr} {o : HO} {xs : List V} (h : H p = some o) (e : seqO o = some xs) : isB H (.ref p) "bool" = some false ∧ isB H (.ref p) "int" = some false ∧ isB H (.ref p) "str" = some false ∧ isB H (.ref p) "dict" = some false ∧
    isB H (.ref p) "list" = some (!isT o) ∧ isB H (.ref p) "tuple" = some (isT o) := by
  have t : tyN H (.ref p) = some (if isT o = true then "tuple" else "list") := by
    rw [tyN, h, Option.bind_some]
    unfold seqO at e
    split at e <;> first | rfl | cases e
  cases z : isT o with
  | true =>
    rw [z, if_pos rfl] at t
    simp only [isB, t, Option.bind_some, kitB_all, and_self, Bool.not_true]
  | false =>
    rw [z, if_neg (by decide)] at t
    simp only [isB, t, Option.bind_some, kitB_all, and_self, Bool.not_false]
theorem kindD {H : Hp} {p : Addr} {ks : List (Key × V)} (h : H p = some (.dK ks)) : isB H (.ref p) "bool" = some false ∧ isB H (.ref p) "int" = some false ∧ isB H (.ref p) "str" = some false ∧ isB H (.ref p) "dict" = some true ∧
    isB H (.ref p) "list" = some false ∧ isB H (.ref p) "tuple" = some false := by
  have t : tyN H (.ref p) = some "dict" := by rw [tyN, h] <;> rfl
  simp only [isB, t, Option.bind_some, kitB_all, and_self]
/-- one sign of a text -/
theorem cutS_one {z : Str} {i : Nat} {c : Nat} (h : z.cps.toList[i]? = some c) : cutS z (some (i : Int)) (some ((i : Int) + 1)) = ⟨#[c]⟩ := by
  obtain ⟨h1, h2⟩ := List.getElem?_eq_some_iff.mp h
  have hl : z.length = z.cps.toList.length := by rw [Array.length_toList] <;> rfl
  have e1 : ((i : Int) + 1) = ((i + 1 : Nat) : Int) := by omega
  unfold cutS
  rw [e1, HT.sIx_nat, HT.sIx_nat, hl, Nat.min_eq_left (by omega), Nat.min_eq_left (by omega), List.drop_eq_getElem_cons h1, h2, show i + 1 - i = 1 by omega]
  rfl
/-! ### for k in a dict, locked -/
theorem LC.keys {d : Addr} {o : Obj} {kvs : List (Key × V)} {g : TG} {tt : TT} {te : TE} {vs : List Nat} {σ : L2.St} {H1 : Hp} {Q : VK} (Pv : Addr → Nat → Hp → Prop) (h0 : ∀ D, H1 D = none → Pv D 0 (upd H1 D (.lst [])))
    (hl : ∀ D i H, H1 D = none → Pv D i H → H d = some (.frz o (.dK kvs)))
    (hs : ∀ D i k v H, H1 D = none → kvs[i]? = some (k, v) → Pv D i H → g (kV k) (wipe σ vs) H fun σ2 H2 => wipe σ2 vs = wipe σ vs ∧ tt σ2 H2 fun b H3 => Be b (fun H3 => te σ2 H3 fun y H4 => ∃ acc, H4 D = some (.lst acc) ∧ acc.length < sizeLine ∧ Pv D (i + 1) (upd H4 D (.lst (acc ++ [y])))) (Pv D (i + 1)) H3)
    (hd : ∀ D H, H1 D = none → Pv D kvs.length H → Q (.ref D) H) : LC (Itk d o kvs) g tt te vs σ Q H1 := fun D nD => by
  refine ⟨fun i m H => m + i = kvs.length ∧ Pv D i H, ⟨kvs.length, rfl, h0 D nD⟩, fun i m H ⟨e, p⟩ => ?_⟩
  by_cases c : i < kvs.length
  · refine .inr ⟨⟨hl D i H nD p, c⟩, Pv D (i + 1), fun H' p' => ⟨m - 1, by omega, by omega, p'⟩, fun x H' ⟨e1, k, v, e2, e3⟩ => ?_⟩
    subst e1 e3
    exact hs D i k v H' nD e2 p
  · have e2 : i = kvs.length := by omega
    exact .inl ⟨⟨hl D i H nD p, by omega⟩, hd D H nD (e2 ▸ p)⟩
theorem rk : (∀ td σ H R, iKeys td σ H R = td σ H fun x H1 => ∃ d o, x = .ref d ∧ ((∃ kvs, H1 d = some (.frz o (.dK kvs)) ∧ R (Itk d o kvs) H1) ∨ ∃ kvs, H1 d = some (.frz o (.dT kvs)) ∧ R (Itkt d o kvs) H1)) ∧
    (∀ t σ H Q, tLockE t σ H Q = ∃ d u, H d = some u ∧ L2.Mut (some u) ∧ ∀ od, t σ (upd H d (.frz od u)) fun v H' => H' d = some (.frz od u) ∧ Q v (upd H' d u)) ∧
    (∀ td ty σ H Q, tDGet td ty σ H Q = td σ H fun x H1 => ty σ H1 fun y H2 => ∃ a v, x = .ref a ∧ DGet H2 a y (some v) ∧ Q v H2) ∧
    (∀ ty td σ H Q, tDNotIn ty td σ H Q = ty σ H fun y H1 => td σ H1 fun x H2 => ∃ a o, x = .ref a ∧ DGet H2 a y o ∧ Q (.bl (!o.isSome)) H2) ∧
    (∀ ty td σ H Q, tDIn ty td σ H Q = ty σ H fun y H1 => td σ H1 fun x H2 => ∃ a o, x = .ref a ∧ DGet H2 a y o ∧ Q (.bl o.isSome) H2) := ⟨fun _ _ _ _ => rfl, fun _ _ _ _ => rfl, fun _ _ _ _ _ => rfl, fun _ _ _ _ _ => rfl, fun _ _ _ _ _ => rfl⟩
theorem rdd : (∀ trs σ H Q, tDisp trs σ H Q = ∀ p, H p = none → tPairs trs σ (upd H p (.dK [])) fun ps H2 => H2 p = some (.dK []) ∧ ∃ kvs : List (Key × V), ps = kvs.map (fun kv => (kV kv.1, kv.2)) ∧ kvs.length ≤ 15 ∧ Q (.ref p) (upd H2 p (.dK (mergeK [] kvs)))) ∧
    (∀ σ H Q, tPairs [] σ H Q = Q [] H) ∧ (∀ tk tv r σ H Q, tPairs ((tk, tv) :: r) σ H Q = tk σ H fun x H1 => tv σ H1 fun y H2 => tPairs r σ H2 fun ps H3 => Q ((x, y) :: ps) H3) := ⟨fun _ _ _ _ => rfl, fun _ _ _ => rfl, fun _ _ _ _ _ _ => rfl⟩
end Sw

/-! Several clauses 'except C as e', e the same slot in each. -/
namespace Sw
open PySem PySem.Spec PyProof.Rows L2
/-- what the named clauses wish, in their order -/
def wAses (K : Fg) (i : Nat) (Wz : WX) (D : Ends) : List (Value × Bool × (Addr → Value → Option Addr → TS)) → WX
  | [] => Wz
  | (cl, false, t) :: r => fun cls d σ H => ∃ yes, PySem.W.exmOne K cls cl = some yes ∧ (yes = true → ∀ z, H z = none → t z cls d D σ H) ∧ (yes = false → wAses K i Wz D r cls d σ H)
  | (cl, true, t) :: r => fun cls d σ H => ∃ yes, PySem.W.exmOne K cls cl = some yes ∧ (yes = true → ∀ z, H z = none → t z cls d { nx := fun τ G => D.nx (τ.set i none) G, rt := D.rt, bk := fun τ G => D.bk (τ.set i none) G, ct := fun τ G => D.ct (τ.set i none) G } (σ.set i (some (.ref z))) H) ∧ (yes = false → wAses K i Wz D r cls d σ H)
inductive Clauses (X : Cx) (n : Str) : List ExceptHandler → List (Value × Bool × (Addr → Value → Option Addr → TS)) → Prop
  | nil : Clauses X n [] []
  | cons {x : Str} {cl : Value} {t : Addr → Value → Option Addr → TS} {b : Stmt} {bs : List Stmt} {p1 p2 : Pos} {hs : List ExceptHandler} {l : List (Value × Bool × (Addr → Value → Option Addr → TS))} : Names X x cl →
      (∀ (z : Addr) (ob : Obj) (cls : Value) (d : Option Addr) (pn : List (Addr × Obj)), Zc cls d ob → (∃ vs, ob.data = .fields vs) → PSs (X.suite z ((z, ob) :: pn)) (b :: bs) (t z cls d)) → Clauses X n hs l →
      Clauses X n (.ExceptHandler (some (.Name x p1)) (some n) (b :: bs) p2 :: hs) ((cl, true, t) :: l)
  | bare {x : Str} {cl : Value} {t : Addr → Value → Option Addr → TS} {b : Stmt} {bs : List Stmt} {p1 p2 : Pos} {hs : List ExceptHandler} {l : List (Value × Bool × (Addr → Value → Option Addr → TS))} : Names X x cl →
      (∀ (z : Addr) (ob : Obj) (cls : Value) (d : Option Addr) (pn : List (Addr × Obj)), Zc cls d ob → (∃ vs, ob.data = .fields vs) → PSs (X.suite z ((z, ob) :: pn)) (b :: bs) (t z cls d)) → Clauses X n hs l →
      Clauses X n (.ExceptHandler (some (.Name x p1)) none (b :: bs) p2 :: hs) ((cl, false, t) :: l)
section
variable {X : Cx} {n : Str} {i : Nat} {bd : List Stmt} {h1 : ExceptHandler} {hs : List ExceptHandler} {l : List (Value × Bool × (Addr → Value → Option Addr → TS))} {pos : Pos} {tb : WX → TS} {Wz : WX}
theorem ps_try_ases (st : X.stack = X.env :: X.outer) (fr : X.env.frame = some X.env.locals) (nd : X.N.Nodup) (at_ : X.N[i]? = some n) (lo : X.env.kindOf n = some .local) (tk : Takes X Wz)
    (hbd : ∀ (W : WX) (pn : List (Addr × Obj)) (xe : Value → Shared → Prop), Takes (X.tr pn xe) W → PassesOwn (model X.prog X.w) X.A X.env xe → PSs (X.tr pn xe) bd (tb W)) (cs : Clauses X n (h1 :: hs) l) :
    PS X (.Try bd (h1 :: hs) [] [] pos) (fun D σ H => tb (wAses X.K i Wz D l) D σ H) := by
  refine ⟨fun pins s σ H D I0 hyp => ?_⟩
  have okk := I0.ok
  have ffr : X.A.frames = some (X.env :: X.outer) := by rw [okk.frames, st]
  refine wpAny_Try_except (wpAny_mono ((hbd (wAses X.K i Wz D l) (X.pn ++ pins) (fun ev s1 => wpAny (model X.prog X.w) X.A (noteFrame ev X.env) (fun _ s2 => wpAny (model X.prog X.w) X.A (setFlight ev none) (fun _ s3 =>
    wpAny (model X.prog X.w) X.A (handleBy ev X.env (h1 :: hs)) (SP X pins D) X.xe s3) X.xe s2) X.xe s1) (fun ev s1 cought => ?_) PassesOwn.looking).run [] s σ H D (I0.toTry _) hyp) (fun fl s1 endd => ?_) (fun _ _ out => out))
  · obtain ⟨z, B, sI, pins2, τ, G, cls, d, rfl, JJ, nb, up, sky, nz, hos, hag, wish⟩ := cought
    have J := JJ.ofTry (X := X) (pins := pins) okk
    have skyy : Sky B (X.env :: X.outer) z (Zc cls d) X.env.locals s1.heap := by rw [← st]; exact sky
    show wpAny (model X.prog X.w) X.A (noteFrame (.ref z) X.env) _ _ _
    refine Sky.land Zc.steady ffr fr skyy fun g3 fly3 up3 => ?_
    have K3 : Inv X pins τ G { s1 with heap := g3 } := J.landed nb fly3.1 (up.trans up3) hos hag
    obtain ⟨o3, f3, e3, z3, d3⟩ := fly3.there
    have apart : z ∉ frs (X.env :: X.outer) := fun hm => by
      obtain ⟨_, o', e', no⟩ := fly3.2.2.1.mem hm
      rw [e3] at e'
      cases e'
      exact no _ d3
    have zl : z ≠ X.env.locals := fun q => apart (List.mem_filterMap.mpr ⟨X.env, List.mem_cons_self, by rw [fr, q]⟩)
    have zf : z ∉ X.fs := fun hm => by
      obtain ⟨v, hv, q⟩ := List.mem_filterMap.mp hm
      exact apart (List.mem_filterMap.mpr ⟨v, List.mem_cons_of_mem _ hv, q⟩)
    have S3 := K3.suite e3 d3 nz zl zf
    have walk : ∀ {hs' : List ExceptHandler} {l' : List (Value × Bool × (Addr → Value → Option Addr → TS))}, Clauses X n hs' l' → wAses X.K i Wz D l' cls d τ G → wpAny (model X.prog X.w) X.A (handleBy (.ref z) X.env hs') (SP X pins D) X.xe { s1 with heap := g3 } := by
      intro hs' l' hc
      induction hc with
      | nil =>
        intro wish
        refine wpAny_handleBy_nil ?_
        obtain ⟨_, _, _, o, vs, T, oT, _, ho, _, hd, hv, _⟩ := id fly3
        unfold PySem.passOn
        refine wpAny_bind (wpAny_field ho hd hv ?_)
        rw [if_neg (show ¬ ((Value.ref T == Value.none) = true) from by simp)]
        have last : wpAny (model X.prog X.w) X.A (setFlight (.ref z) X.env.frame) (fun _ s4 => wpAny (model X.prog X.w) X.A (throw (.ref z) : Sem Flow) (SP X pins D) X.xe s4) X.xe { s1 with heap := g3 } := by
          rw [fr]
          exact HandSPX.setFlight_upZ fly3 fun g4 hh4 up4 => wpAny_throw (tk _ _ ⟨z, B, sI, pins, τ, G, cls, d, rfl, J, nb, (up.trans up3).trans up4, .inr (.inr (by rw [st]; exact hh4)), nz, hos, hag, wish⟩)
        first
          | exact wpAny_bind (wpAny_pure (wpAny_bind last))
          | exact wpAny_bind last
      | @cons x cl t b bs p1 p2 hs2 l2 nm suite rest ih =>
        intro wish
        obtain ⟨yes, ask, onYes, onNo⟩ := wish
        refine wpAny_handleBy_cons (codeAny_handlers_test ?_) (by intro q; cases q)
        have kind : PySem.W.Looks (model X.prog X.w) g3 (typeOf (.ref z)) cls := fun A Q E s5 k q => wpAny_typeOf_ref (k _ _ e3) (by rw [z3.1]; exact q)
        have met := PySem.W.exm_one (M := model X.prog X.w) K3.kIn kind ask
        have tst : ∀ {Q E : Value → Shared → Prop}, Q cl { s1 with heap := g3 } → wpAny (model X.prog X.w) (X.A.mark (some (.ref z))) (eval (.Name x p1) X.env) Q E { s1 with heap := g3 } := fun {Q E} q => by
          obtain ⟨hg, hdb, hm | ⟨hm, hv, hn⟩⟩ := nm
          · exact ld_glob (X := X.suite z ((z, o3) :: (X.pn ++ pins))) S3 hg hm q hdb
          · exact ld_blt (X := X.suite z ((z, o3) :: (X.pn ++ pins))) S3 hg hm hv q hn hdb
        refine tst (met.here ?_)
        cases yes with
        | false => exact ih (onNo rfl)
        | true =>
          refine codeAny_handlers_suite_as (HandSPX.lands_againZ fly3 fun g4 fly4 up4 => ?_)
          have K4 : Inv X pins τ G { s1 with heap := g4 } := J.landed nb fly4.1 ((up.trans up3).trans up4) hos hag
          obtain ⟨o4, f4, e4, z4, d4⟩ := fly4.there
          have S4 := K4.suite e4 d4 nz zl zf
          refine store_ok (X := X.suite z ((z, o4) :: (X.pn ++ pins))) (v := .ref z) S4 nd at_ (.inl lo) rfl (fun s5 S5 => ?_) (.inr lo)
          refine wpAny_mono ((suite z o4 cls d (X.pn ++ pins) z4 ⟨_, d4⟩).run [] s5 _ G _ S5 (onYes rfl z nz)) (fun fl s6 endd => ?_) (fun _ _ q => q.elim)
          have gone : ∀ {τ6 : L2.St} {G6 : Hp} {Q : Shared → Prop}, Inv (X.suite z ((z, o4) :: (X.pn ++ pins))) [] τ6 G6 s6 → (∀ s7, Inv X pins (τ6.set i none) G6 s7 → Q s7) →
              wpAny (model X.prog X.w) X.A (do bindName X.env n .none; unbindBehindTheSuite X.env n p2) (fun _ s7 => Q s7) X.xe s6 := fun {τ6 G6 Q} S6 hq => gone_ok (S6.unsuite okk) nd at_ lo hq
          cases fl with
          | ret u =>
            obtain ⟨v6, τ6, G6, S6, r6, q6⟩ := endd
            exact gone S6 fun s7 J7 => ⟨_, _, _, J7, r6, q6⟩
          | next =>
            obtain ⟨τ6, G6, S6, q6⟩ := endd
            exact gone S6 fun s7 J7 => ⟨_, _, J7, q6⟩
          | brk =>
            obtain ⟨τ6, G6, S6, q6⟩ := endd
            exact gone S6 fun s7 J7 => ⟨_, _, J7, q6⟩
          | cont =>
            obtain ⟨τ6, G6, S6, q6⟩ := endd
            exact gone S6 fun s7 J7 => ⟨_, _, J7, q6⟩
      | @bare x cl t b bs p1 p2 hs2 l2 nm suite rest ih =>
        intro wish
        obtain ⟨yes, ask, onYes, onNo⟩ := wish
        refine wpAny_handleBy_cons (codeAny_handlers_test ?_) (by intro q; cases q)
        have kind : PySem.W.Looks (model X.prog X.w) g3 (typeOf (.ref z)) cls := fun A Q E s5 k q => wpAny_typeOf_ref (k _ _ e3) (by rw [z3.1]; exact q)
        have met := PySem.W.exm_one (M := model X.prog X.w) K3.kIn kind ask
        have tst : ∀ {Q E : Value → Shared → Prop}, Q cl { s1 with heap := g3 } → wpAny (model X.prog X.w) (X.A.mark (some (.ref z))) (eval (.Name x p1) X.env) Q E { s1 with heap := g3 } := fun {Q E} q => by
          obtain ⟨hg, hdb, hm | ⟨hm, hv, hn⟩⟩ := nm
          · exact ld_glob (X := X.suite z ((z, o3) :: (X.pn ++ pins))) S3 hg hm q hdb
          · exact ld_blt (X := X.suite z ((z, o3) :: (X.pn ++ pins))) S3 hg hm hv q hn hdb
        refine tst (met.here ?_)
        cases yes with
        | false => exact ih (onNo rfl)
        | true =>
          refine codeAny_handlers_suite (HandSPX.lands_againZ fly3 fun g4 fly4 up4 => ?_)
          have K4 : Inv X pins τ G { s1 with heap := g4 } := J.landed nb fly4.1 ((up.trans up3).trans up4) hos hag
          obtain ⟨o4, f4, e4, z4, d4⟩ := fly4.there
          refine wpAny_mono ((suite z o4 cls d (X.pn ++ pins) z4 ⟨_, d4⟩).run [] _ _ G _ (K4.suite e4 d4 nz zl zf) (onYes rfl z nz)) (fun fl s6 endd => ?_) (fun _ _ q => q.elim)
          cases fl with
          | ret u =>
            obtain ⟨v6, τ6, G6, S6, r6, q6⟩ := endd
            exact ⟨_, _, _, S6.unsuite okk, r6, q6⟩
          | next =>
            obtain ⟨τ6, G6, S6, q6⟩ := endd
            exact ⟨_, _, S6.unsuite okk, q6⟩
          | brk =>
            obtain ⟨τ6, G6, S6, q6⟩ := endd
            exact ⟨_, _, S6.unsuite okk, q6⟩
          | cont =>
            obtain ⟨τ6, G6, S6, q6⟩ := endd
            exact ⟨_, _, S6.unsuite okk, q6⟩
    exact walk cs wish
  · cases fl with
    | ret u =>
      obtain ⟨v, τ, G, JJ, r, q⟩ := endd
      exact ⟨v, τ, G, JJ.ofTry okk, r, q⟩
    | next =>
      obtain ⟨τ, G, JJ, q⟩ := endd
      exact wpAny_execs_nil ⟨τ, G, JJ.ofTry okk, q⟩
    | brk =>
      obtain ⟨τ, G, JJ, q⟩ := endd
      exact ⟨τ, G, JJ.ofTry okk, q⟩
    | cont =>
      obtain ⟨τ, G, JJ, q⟩ := endd
      exact ⟨τ, G, JJ.ofTry okk, q⟩
end
/-! ### isinstance(x, (A, B)), two built-in classes -/
def rIs2 : List V → Hp → VK → Prop := fun vs H Q => ∃ (x : V) (t : Addr) (A B : String) (a b : Bool), vs = [x, .ref t] ∧ H t = some (.tup [.ty A, .ty B]) ∧ isB H x A = some a ∧ isB H x B = some b ∧ Q (.bl (a || b)) H
theorem is_2 {X : Cx} : CallR X (.builtin "isinstance") rIs2 := fun pins s σ H xs us Q I r h => by
  obtain ⟨x, t, A, B, a, b, rfl, ht, ea, eb, q⟩ := h
  obtain ⟨n, e1, e2⟩ := Option.bind_eq_some_iff.mp ea
  obtain ⟨n', e3, e4⟩ := Option.bind_eq_some_iff.mp eb
  rw [e1] at e3
  cases e3
  refine call_isiT pins s σ H _ us Q I r ⟨x, t, [.ty A, .ty B], .type n, [.type A, .type B], a || b, rfl, ht, .cons (.ty A) (.cons (.ty B) .nil), tyN_ok e1, ?_, q⟩
  have k1 : PySem.W.kitOne X.K (.type n) (.type A) = some a := kit_ty e2
  have k2 : PySem.W.kitOne X.K (.type n) (.type B) = some b := kit_ty e4
  show (match PySem.W.kitOne X.K (.type n) (.type A) with
    | some true => some true
    | some false => PySem.W.kitAny X.K (.type n) [.type B]
    | none => none) = _
  rw [k1]
  cases a with
  | true => rfl
  | false =>
    show (match PySem.W.kitOne X.K (.type n) (.type B) with
      | some true => some true
      | some false => PySem.W.kitAny X.K (.type n) []
      | none => none) = _
    rw [k2]
    cases b <;> rfl
/-- d[k] = v in a dict; pop of a key -/
theorem rpd : (∀ td ty tv D σ H, sDPut td ty tv D σ H = tv σ H fun v H1 => td σ H1 fun x H2 => ty σ H2 fun y H3 => ∃ a H4, x = .ref a ∧ DPut H3 a y v H4 ∧ D.nx σ H4) := fun _ _ _ _ _ _ => rfl
/-- x != x, the same reference -/
def rNeS : R2 := fun x y H Q => (∃ a, x = .ref a ∧ y = .ref a) ∧ Q (.bl false) H
/-! ### small facts -/
theorem isB_same {H H' : Hp} (s : Same H H') {x : V} {T : String} {b : Bool} (h : isB H x T = some b) : isB H' x T = some b := by
  obtain ⟨n, e1, e2⟩ := Option.bind_eq_some_iff.mp h
  exact Option.bind_eq_some_iff.mpr ⟨n, tyN_same s e1, e2⟩
/-- a rest by a number below 2 ^ 64, times anything -/
theorem mod_mul (i j : Int) {m : Int} (h0 : 0 < m) (h1 : m < 2 ^ 64) : Sw.MulOk i (j % m) :=
  .inl (.inr ⟨Int.lt_of_lt_of_le (by decide) (Int.emod_nonneg j (by omega)), Int.lt_trans (Int.emod_lt_of_pos j h0) h1⟩)
theorem ixN_nat {n j : Nat} (h : j < n) : ixN n (j : Int) = some j := by
  unfold ixN
  rw [if_pos (by omega), if_pos (by omega)]
  rfl
theorem take_snoc {α : Type} : ∀ {l : List α} {i : Nat} {x : α}, l[i]? = some x → l.take (i + 1) = l.take i ++ [x]
  | [], i, x, h => by simp at h
  | a :: l, 0, x, h => by
    have e : a = x := by simpa using h
    rw [e]
    rfl
  | a :: l, i + 1, x, h => by
    show a :: l.take (i + 1) = a :: l.take i ++ [x]
    rw [take_snoc (l := l) (i := i) (by simpa using h)]
    rfl
theorem drop_at {α : Type} {l : List α} {i : Nat} {x : α} (h : l[i]? = some x) : l.drop i = x :: l.drop (i + 1) := by
  obtain ⟨h1, h2⟩ := List.getElem?_eq_some_iff.mp h
  rw [← h2]
  exact List.drop_eq_getElem_cons h1
theorem map_at {ns : List Int} {i : Nat} {x : V} (h : (ns.map V.int)[i]? = some x) : ∃ n, ns[i]? = some n ∧ x = .int n := by
  rw [List.getElem?_map] at h
  obtain ⟨n, e, rfl⟩ := Option.map_eq_some_iff.mp h
  exact ⟨n, e, rfl⟩
theorem small_mul {i j : Int} (h1 : -(2 ^ 64) < j) (h2 : j < 2 ^ 64) : Sw.MulOk i j := .inl (.inr ⟨h1, h2⟩)
theorem small_mul' {i j : Int} (h1 : -(2 ^ 64) < i) (h2 : i < 2 ^ 64) : Sw.MulOk i j := .inl (.inl ⟨h1, h2⟩)
end Sw

/-! A thing beside itself, of any kind; isinstance of a caught error by several classes; dicts. -/
namespace Sw
open PySem PySem.Spec PyProof.Rows L2
def rEqA (K : Fg) : R2 := fun x y H Q => rEqD K x y H Q ∨ rEqDA x y H Q
def rNeA (K : Fg) : R2 := fun x y H Q => rNeD K x y H Q ∨ rNeDA x y H Q
theorem op_eqA {X : Cx} (hu : X.A.units + 64 < cLine) : OpR X (compareOp .Eq) (rEqA X.K) := OpR.or (op_eqD hu) (op_eq_dictA (by omega))
theorem op_neA {X : Cx} (hu : X.A.units + 64 < cLine) : OpR X (compareOp .NotEq) (rNeA X.K) := OpR.or (op_neD hu) (op_ne_dictA (by omega))
/-- isinstance(e, (C1, C2, ..)), e the caught one -/
def rIsDT (K : Fg) (D a : Addr) (cls : Value) (d : Option Addr) : List V → Hp → VK → Prop := fun xs H Q => ∃ (tp : Addr) (cs : List V) (us : List Value) (dd : Addr) (fs : List (Str × V)) (b : Bool), xs = [.ref a, .ref tp] ∧ H tp = some (.tup cs) ∧ Paired ClsV cs us ∧ cls = .ref D ∧ d = some dd ∧ H dd = some (.xd fs) ∧ PySem.W.kitAny K (.ref D) us = some b ∧ Q (.bl b) H
theorem call_isDT {X : Cx} {a D : Addr} {cls : Value} {d : Option Addr} {oe : Obj} {pn : List (Addr × Obj)} (C : ExC X.K D) (hz : Zc cls d oe) (hf : ∃ vs, oe.data = .fields vs) : CallR (X.suite a ((a, oe) :: pn)) (.builtin "isinstance") (rIsDT X.K D a cls d) := by
  intro pins s σ H xs us Q I r h
  obtain ⟨tp, cs, ws, dd, fs, b, rfl, hT, k, rfl, rfl, hd, e, q⟩ := h
  cases r with
  | cons r1 r2 =>
    cases r2 with
    | cons r3 r4 =>
      cases r4
      cases r1
      rename_i u2
      cases (show u2 = Value.ref tp from r3)
      obtain ⟨hget, _⟩ := I.pin (a, oe) (List.mem_append.mpr (.inl List.mem_cons_self))
      obtain ⟨vs, hv⟩ := hf
      obtain ⟨mA, hns, _⟩ := (show ObjOk X.prog X.w H s.heap dd (.xd fs) from I.hok dd _ hd)
      obtain ⟨od, ho, _⟩ := lookIn_ns hns
      have J : PySem.W.InstAt s.heap a oe D (some od) := ⟨hget, hz.1, by unfold PySem.W.notCls; rw [hv] <;> rfl, by rw [hz.2]; exact ho⟩
      obtain ⟨_, its, rv, o, h1, h2, n, h3⟩ := (show ObjOk X.prog X.w H s.heap tp (.tup cs) from I.hok tp _ hT)
      have e3 := ClsV.all k rv
      subst e3
      obtain ⟨oc, od2, dt, sl⟩ := o
      simp only at h2 h3
      subst h2 h3
      exact PySem.W.kia_tup (PySem.W.sw_kitE C.xf.ga C.xf.gg C.xf.exC C.xf.hdC C.cc C.gs C.tk C.mo) I.kIn J h1 e (fun z => nomatch z) fun tk => ⟨.bl b, H, I.kept (t' := tk) fun _ _ z => z, rfl, q⟩
theorem isDT_ref {K : Fg} {D a tp d : Addr} {H : Hp} {fs : List (Str × V)} {Cs : List Addr} {b : Bool} {Q : VK} (hd : H d = some (.xd fs)) (ht : H tp = some (.tup (Cs.map V.ref))) (e : PySem.W.kitAny K (.ref D) (Cs.map Value.ref) = some b) (q : Q (.bl b) H) :
    rIsDT K D a (.ref D) (some d) [.ref a, .ref tp] H Q := ⟨tp, _, _, d, fs, b, rfl, ht, (by clear ht e; induction Cs with | nil => exact .nil | cons c r ih => exact .cons (.own c) ih), rfl, rfl, hd, e, q⟩
theorem rdp : (∀ td ty σ H Q, tDPop1 td ty σ H Q = td σ H fun x H1 => ∃ a, x = .ref a ∧ IsD H1 a ∧ ty σ H1 fun y H2 => ∃ kvs k v, H2 a = some (.dK kvs) ∧ y = kV k ∧ valV kvs k = some v ∧ Q v (upd H2 a (.dK (dropK kvs k)))) := fun _ _ _ _ _ => rfl
theorem rlu : (∀ K ta σ H R, iEnum K ta σ H R = ta σ H fun vs H1 => ∃ a xs, vs = [.ref a] ∧ SqL K H1 a xs ∧ R (Ite K a) H1) ∧ (∀ te σ H Q, tLstRg te σ H Q = te σ H fun a b H1 => RgOk a b ∧ ∀ q, H1 q = none → Q (.ref q) (upd H1 q (.lst (rgV a b)))) ∧
    (∀ x vs H Q, rPopAt x vs H Q = ∃ l xs i k y, x = .ref l ∧ vs = [.int i] ∧ H l = some (.lst xs) ∧ -(2 ^ 63) ≤ i ∧ i < 2 ^ 63 ∧ seqIndex? i xs.length = some k ∧ xs[k]? = some y ∧ Q y (upd H l (.lst (xs.eraseIdx k)))) ∧
    (∀ x vs H Q, rPop x vs H Q = ∃ l xs y, x = .ref l ∧ vs = [] ∧ H l = some (.lst xs) ∧ xs[xs.length - 1]? = some y ∧ Q y (upd H l (.lst xs.dropLast))) ∧
    (∀ x y H Q, rCat x y H Q = ∃ l b xs zs, x = .ref l ∧ y = .ref b ∧ H l = some (.lst xs) ∧ H b = some (.lst zs) ∧ xs.length + zs.length ≤ sizeLine ∧ ∀ p, H p = none → Q (.ref p) (upd H p (.lst (xs ++ zs)))) ∧
    (∀ x y H Q, rRep x y H Q = ∃ l k xs, x = .ref l ∧ y = .int k ∧ H l = some (.lst xs) ∧ -(2 ^ 63) ≤ k ∧ k < 2 ^ 63 ∧ xs.length * k.toNat ≤ sizeLine ∧ ∀ p, H p = none → Q (.ref p) (upd H p (.lst (List.replicate k.toNat xs).flatten))) ∧
    (∀ K x lo hi H Q, rSlL K x lo hi H Q = ∃ a xs, x = .ref a ∧ SqL K H a xs ∧ ∀ p, H p = none → Q (.ref p) (upd H p (.lst (cutV xs lo hi)))) ∧
    (∀ K vs H Q, rSum K vs H Q = ∃ (a : Addr) (ns : List Int), vs = [V.ref a] ∧ SqL K H a (ns.map V.int) ∧ Q (.int ns.sum) H) ∧
    (∀ K vs H Q, rAll K vs H Q = ∃ (a : Addr) (bs : List Bool), vs = [V.ref a] ∧ SqL K H a (bs.map V.bl) ∧ Q (.bl (bs.all id)) H) ∧
    (∀ td ty tv D σ H, sDPut td ty tv D σ H = tv σ H fun v H1 => td σ H1 fun x H2 => ty σ H2 fun y H3 => ∃ a H4, x = .ref a ∧ DPut H3 a y v H4 ∧ D.nx σ H4) := by
  refine ⟨?_, ?_, ?_, ?_, ?_, ?_, ?_, ?_, ?_, ?_⟩ <;> intros <;> rfl
/-- sum of a list or a tuple of ints -/
def rSumQ : List V → Hp → VK → Prop := fun vs H Q => ∃ (p : Addr) (o : HO) (ns : List Int), vs = [.ref p] ∧ H p = some o ∧ seqO o = some (ns.map V.int) ∧ Q (.int ns.sum) H
theorem sum_q {X : Cx} (hc : X.calm = true) : CallR X (.builtin "sum") rSumQ := by
  intro pins s σ H vs us Q I r h
  obtain ⟨p, o, ns, rfl, ho, hs, q⟩ := h
  rcases seqO_sq (K := X.K) ho hs with l | l
  · exact cr_sum hc pins s σ H _ us Q I r ⟨p, ns, rfl, l, q⟩
  · obtain ⟨its, rv, ht, hz⟩ := I.tuple l
    rw [Vals.ref1 r]
    have hi := rv.ints
    obtain ⟨xs, e⟩ := hi.allInts.items
    have hn : numsOf (intItems xs).toList = ns := by rw [← e]; exact hi.numsOf
    rw [nums_intItems] at hn
    have ht2 : s.heap.IsTuple p its.toArray := ht
    rw [e] at ht2
    refine PySem.W.ktm_sumG (I.ok.hd hc) ht2 fun h' tk t' hk => ?_
    rw [preSum_eq, List.take_of_length_le (by simp), hn]
    exact ⟨.int _, H, I.kept hk, ⟨_, rfl⟩, q⟩
theorem rsq : (∀ vs H Q, rSumQ vs H Q = ∃ (p : Addr) (o : HO) (ns : List Int), vs = [.ref p] ∧ H p = some o ∧ seqO o = some (ns.map V.int) ∧ Q (.int ns.sum) H) := fun _ _ _ => rfl
theorem FI.enum {K : Fg} {a : Addr} {xs : List V} {i j : Nat} {tb : TS} {D : Ends} {σ : L2.St} {H : Hp} (Pv : Nat → L2.St → Hp → Prop) (h0 : Pv 0 σ H) (hq : ∀ i σ H, Pv i σ H → SqL K H a xs)
    (hs : ∀ (n : Nat) (x : V) (T : Addr) (σ : L2.St) (H : Hp), xs[n]? = some x → Pv n σ H → H T = none → tb ⟨Pv (n + 1), D.rt, D.nx, Pv (n + 1)⟩ ((σ.set i (some (.int (n : Nat)))).set j (some x)) (upd H T (.tup [.int (n : Nat), x]))) (hd : ∀ σ H, Pv xs.length σ H → D.nx σ H) :
    FI (Ite K a) (gTup K 2 (gCons (gName i) (gCons (gName j) gNil))) tb D σ H := by
  refine ⟨fun i m σ H => Pv i σ H ∧ i + m = xs.length, ⟨xs.length, h0, by omega⟩, ?_⟩
  rintro n m σ H ⟨p, hm⟩
  by_cases h : n < xs.length
  · refine .inr ⟨⟨xs, xs[n], hq _ _ _ p, by rw [List.getElem?_eq_getElem h]⟩, fun σ' H' => Pv (n + 1) σ' H', fun σ' H' p' => ⟨m - 1, by omega, p', by omega⟩, ?_⟩
    rintro v H' ⟨T, x, rfl, hT, rfl, hx⟩
    exact ⟨T, [.int (n : Nat), x], rfl, SqT.of upd_same, rfl, _, _, rfl, _, _, rfl, rfl, hs n x T σ H (hx xs (hq _ _ _ p)) p hT⟩
  · have e : n = xs.length := by omega
    subst e
    exact .inl ⟨⟨xs, hq _ _ _ p, Nat.le_refl _⟩, hd _ _ p⟩
/-- the turn of a while: what holds behind it has a smaller measure -/
def Nx (W : Nat → L2.St → Hp → Prop) (m : Nat) (tb : TS) (D : Ends) (σ : L2.St) (H : Hp) : Prop := ∃ N : L2.St → Hp → Prop, (∀ σ' H', N σ' H' → ∃ m', m' < m ∧ W m' σ' H') ∧ tb { D with nx := N, ct := N, bk := D.nx } σ H
theorem Nx.go {W : Nat → L2.St → Hp → Prop} {m : Nat} {tb : TS} {D : Ends} {σ : L2.St} {H : Hp} (h : tb { nx := fun σ' H' => ∃ m', m' < m ∧ W m' σ' H', rt := D.rt, bk := D.nx, ct := fun σ' H' => ∃ m', m' < m ∧ W m' σ' H' } σ H) : Nx W m tb D σ H := ⟨_, fun _ _ h => h, h⟩
theorem wh {c : TT} {tb : TS} {D : Ends} {σ : L2.St} {H : Hp} (W : Nat → L2.St → Hp → Prop) (m : Nat) (h0 : W m σ H) (ht : ∀ m σ H, W m σ H → c σ H fun b H1 => Br b (Nx W m tb D) D.nx σ H1) : tWhile c tb D σ H := ⟨W, ⟨m, h0⟩, ht⟩
/-! ### things that equal themselves -/
def flat : V → Bool
  | .non => true
  | .bl _ => true
  | .int _ => true
  | .str s => PyData.strOk s
  | _ => false
theorem flat_str (s : String) : flat (.str (s : Str)) = true := by
  show PyData.strOk (Str.ofString s) = true
  unfold PyData.strOk Str.ofString
  rw [cpsOfBytes_string, List.all_toArray, List.all_eq_true]
  intro n hn
  obtain ⟨c, _, rfl⟩ := List.mem_map.mp hn
  have h := c.valid
  have h2 : c.toNat = c.val.toNat := rfl
  simp only [UInt32.isValidChar, Nat.isValidChar] at h
  rw [h2]
  exact decide_eq_true (by omega)
def Nice1 (H : Hp) (v : V) : Prop := flat v = true ∨ ∃ p xs, v = .ref p ∧ (H p = some (.lst xs) ∨ H p = some (.tup xs)) ∧ (∀ x ∈ xs, flat x = true) ∧ xs.length ≤ 1000
def Nice (H : Hp) (v : V) : Prop := Nice1 H v ∨ (∃ p xs, v = .ref p ∧ H p = some (.lst xs) ∧ (∀ x ∈ xs, Nice1 H x) ∧ xs.length ≤ 1000) ∨ ∃ p, v = .ref p ∧ H p = some (.dK [])
theorem Nice1.same {H H' : Hp} (s : Same H H') {v : V} (h : Nice1 H v) : Nice1 H' v := by
  rcases h with h | ⟨p, xs, e, h, f⟩
  · exact .inl h
  · exact .inr ⟨p, xs, e, h.imp (s _ _) (s _ _), f⟩
theorem Nice.same {H H' : Hp} (s : Same H H') {v : V} (h : Nice H v) : Nice H' v := by
  rcases h with h | ⟨p, xs, e, h, f, l⟩ | ⟨p, e, h⟩
  · exact .inl (h.same s)
  · exact .inr (.inl ⟨p, xs, e, s _ _ h, fun x hx => (f x hx).same s, l⟩)
  · exact .inr (.inr ⟨p, e, s _ _ h⟩)
theorem Nice1.ty {H : Hp} {v : V} (h : Nice1 H v) : ∃ n, tyN H v = some n := by
  rcases h with h | ⟨p, xs, rfl, h | h, f⟩
  · cases v <;> first | exact ⟨_, rfl⟩ | exact Bool.noConfusion (show false = true from h)
  · exact ⟨"list", by rw [tyN, h] <;> rfl⟩
  · exact ⟨"tuple", by rw [tyN, h] <;> rfl⟩
theorem Nice.ty {H : Hp} {v : V} (h : Nice H v) : ∃ n, tyN H v = some n := by
  rcases h with h | ⟨p, xs, rfl, h, f, l⟩ | ⟨p, rfl, h⟩
  · exact h.ty
  · exact ⟨"list", by rw [tyN, h] <;> rfl⟩
  · exact ⟨"dict", by rw [tyN, h] <;> rfl⟩
theorem flat_d {K : Fg} {H : Hp} {v : V} (h : flat v = true) : ∃ d, Dp K H v d ∧ PyData.canLay0 d = true ∧ PyData.depth d ≤ 0 := by
  cases v with
  | non => exact ⟨_, .non, rfl, Nat.le_refl _⟩
  | bl b => exact ⟨_, .bl b, rfl, Nat.le_refl _⟩
  | int i => exact ⟨_, .int i, rfl, Nat.le_refl _⟩
  | str s => exact ⟨_, .str s, h, Nat.le_refl _⟩
  | _ => exact Bool.noConfusion (show false = true from h)
theorem all_d {K : Fg} {H : Hp} {n : Nat} : ∀ {xs : List V}, (∀ x ∈ xs, ∃ d, Dp K H x d ∧ PyData.canLay0 d = true ∧ PyData.depth d ≤ n) → ∃ ds, DpAll K H xs ds ∧ PyData.canLayAll0 ds = true ∧ PyData.depthAll ds ≤ n + 1
  | [], _ => ⟨[], .nil, rfl, by show 0 ≤ _; omega⟩
  | x :: r, h => by
    obtain ⟨d, h1, h2, h3⟩ := h x (by simp)
    obtain ⟨ds, k1, k2, k3⟩ := all_d (xs := r) fun y hy => h y (List.mem_cons_of_mem _ hy)
    refine ⟨d :: ds, .cons h1 k1, ?_, ?_⟩
    · show (PyData.canLay0 d && PyData.canLayAll0 ds) = true
      rw [h2, k2]
      rfl
    · simp only [PyData.depthAll]
      omega
theorem Nice1.d {K : Fg} {H : Hp} {v : V} (h : Nice1 H v) : ∃ d, Dp K H v d ∧ PyData.canLay0 d = true ∧ PyData.depth d ≤ 2 := by
  rcases h with h | ⟨p, xs, rfl, h, f, l⟩
  · obtain ⟨d, h1, h2, h3⟩ := flat_d (K := K) (H := H) h
    exact ⟨d, h1, h2, by omega⟩
  · obtain ⟨ds, k1, k2, k3⟩ := all_d (K := K) (H := H) (n := 0) fun x hx => flat_d (f x hx)
    rcases h with h | h
    · refine ⟨_, .lst (SqL.of h) k1, k2, ?_⟩
      simp only [PyData.depth]
      omega
    · refine ⟨_, .tup (SqT.of h) k1, k2, ?_⟩
      simp only [PyData.depth]
      omega
theorem Nice.d {K : Fg} {H : Hp} {v : V} (h : Nice H v) : (∃ d, Dp K H v d ∧ PyData.canLay0 d = true ∧ PyData.depth d ≤ 4) ∨ ∃ p, v = .ref p ∧ H p = some (.dK []) := by
  rcases h with h | ⟨p, xs, rfl, h, f, l⟩ | h
  · obtain ⟨d, h1, h2, h3⟩ := h.d (K := K)
    exact .inl ⟨d, h1, h2, by omega⟩
  · obtain ⟨ds, k1, k2, k3⟩ := all_d (K := K) (H := H) (n := 2) fun x hx => (f x hx).d
    refine .inl ⟨_, .lst (SqL.of h) k1, k2, ?_⟩
    simp only [PyData.depth]
    omega
  · exact .inr h
theorem shaped_of {d : PyData} (h1 : PyData.canLay0 d = true) (h2 : PyData.depth d ≤ 60) : SeqAt.shaped d = true := by
  unfold SeqAt.shaped
  rw [h1, Bool.true_and]
  exact decide_eq_true (by omega)
theorem eqA_self {K : Fg} {H : Hp} {v : V} {Q : VK} (h : (∃ d, Dp K H v d ∧ PyData.canLay0 d = true ∧ PyData.depth d ≤ 60) ∨ ∃ p ks, v = .ref p ∧ H p = some (.dK ks) ∧ ∀ x ∈ ks, valV ks x.1 = some x.2 ∧ flatB x.2 = true) (q : Q (.bl true) H) : rEqA K v v H Q := by
  rcases h with ⟨d, h1, h2, h3⟩ | ⟨p, ks, rfl, h, f⟩
  · refine .inl ⟨d, d, h1, h1, shaped_of h2 h3, shaped_of h2 h3, ?_⟩
    rw [SeqAt.eqv_refl _ h2]
    exact q
  · exact .inr ⟨p, p, ks, ks, rfl, rfl, h, h, rfl, f, q⟩
theorem neA_self {K : Fg} {H : Hp} {v : V} {Q : VK} (h : (∃ d, Dp K H v d ∧ PyData.canLay0 d = true ∧ PyData.depth d ≤ 60) ∨ ∃ p ks, v = .ref p ∧ H p = some (.dK ks) ∧ ∀ x ∈ ks, valV ks x.1 = some x.2 ∧ flatB x.2 = true) (q : Q (.bl false) H) : rNeA K v v H Q := by
  rcases h with ⟨d, h1, h2, h3⟩ | ⟨p, ks, rfl, h, f⟩
  · refine .inl ⟨d, d, h1, h1, shaped_of h2 h3, shaped_of h2 h3, ?_⟩
    rw [SeqAt.eqv_refl _ h2]
    exact q
  · exact .inr ⟨p, p, ks, ks, rfl, rfl, h, h, rfl, f, q⟩
end Sw

/-! New objects, told by what they keep: the heap behind stays a name. -/
namespace Sw
open PySem PySem.Spec PyProof.Rows L2
/-- behind the making of o at p -/
structure Al (H : Hp) (p : Addr) (o : HO) (H2 : Hp) : Prop where
  f : H p = none
  s : Same H H2
  e : H2 p = some o
theorem Al.mk' {H : Hp} {p : Addr} {o : HO} (h : H p = none) : Al H p o (upd H p o) := ⟨h, Same.new h, upd_same⟩
def tLstA (t : TA) : TE := fun σ H Q => t σ H fun xs H1 => xs.length ≤ sizeLine ∧ ∀ p H2, Al H1 p (.lst xs) H2 → Q (.ref p) H2
def tTupA (t : TA) : TE := fun σ H Q => t σ H fun xs H1 => xs.length ≤ sizeLine ∧ ∀ p H2, Al H1 p (.tup xs) H2 → Q (.ref p) H2
def tDNewA : TE := fun _ H Q => ∀ p H2, Al H p (.dK []) H2 → Q (.ref p) H2
def tLstRgA (te : L2.St → Hp → (Int → Int → Hp → Prop) → Prop) : TE := fun σ H Q => te σ H fun a b H1 => RgOk a b ∧ ∀ q H2, Al H1 q (.lst (rgV a b)) H2 → Q (.ref q) H2
def tTupRgA (te : L2.St → Hp → (Int → Int → Hp → Prop) → Prop) : TE := fun σ H Q => te σ H fun a b H1 => RgOk a b ∧ ∀ q H2, Al H1 q (.tup (rgV a b)) H2 → Q (.ref q) H2
section
variable {X : Cx} {es : List Expr} {t : TA} {pos p : Pos}
theorem pe_lstA (h : PA X es t) : PE X (.List es pos) (tLstA t) := ⟨fun pins s σ H Q I h1 => (pe_lst (pos := pos) (pa_mono h)).run pins s σ H Q I ⟨_, h1, fun xs H1 ⟨l, q⟩ => ⟨l, fun p hp => q p _ (Al.mk' hp)⟩⟩⟩
theorem pe_tupA {x1} (h : PA X es t) : PE X (.Tuple es x1 pos) (tTupA t) := ⟨fun pins s σ H Q I h1 => (pe_tup (pos := pos) (pa_mono h)).run pins s σ H Q I ⟨_, h1, fun xs H1 ⟨l, q⟩ => ⟨l, fun p hp => q p _ (Al.mk' hp)⟩⟩⟩
theorem pe_dnewA : PE X (.Dict [] [] pos) tDNewA := ⟨fun pins s σ H Q I q => (pe_dnewK (pos := pos)).run pins s σ H Q I fun p hp => q p _ (Al.mk' hp)⟩
theorem prg_mono {e : Expr} {te : L2.St → Hp → (Int → Int → Hp → Prop) → Prop} (h : PRg X e te) : PRg X e (fun σ H Q => ∃ R : Int → Int → Hp → Prop, te σ H R ∧ ∀ a b H1, R a b H1 → Q a b H1) := fun pins s σ H Q I ⟨R, h1, h2⟩ =>
  thn (h pins s σ H R I h1) fun x s' ⟨r, a, b, t, u, v, H', e1, e2, J, q⟩ => ⟨r, a, b, t, u, v, H', e1, e2, J, h2 _ _ _ q⟩
theorem pe_listRgA {e : Expr} {te : L2.St → Hp → (Int → Int → Hp → Prop) → Prop} (hc : X.calm = true) (hg : Gl X "list") (hm : X.mg "list" = none) (he : PRg X e te) (na : starEach [e] X.env = (false, eval e X.env) :: starEach [] X.env := by rfl) : PE X (.Call (.Name "list" p) [e] [] pos) (tLstRgA te) :=
  ⟨fun pins s σ H Q I h => (pe_listRg hc hg hm (prg_mono he) na).run pins s σ H Q I ⟨_, h, fun a b H1 ⟨l, q⟩ => ⟨l, fun p hp => q p _ (Al.mk' hp)⟩⟩⟩
theorem pe_tupRgA {e : Expr} {te : L2.St → Hp → (Int → Int → Hp → Prop) → Prop} (hc : X.calm = true) (hg : Gl X "tuple") (hm : X.mg "tuple" = none) (he : PRg X e te) (na : starEach [e] X.env = (false, eval e X.env) :: starEach [] X.env := by rfl) : PE X (.Call (.Name "tuple" p) [e] [] pos) (tTupRgA te) :=
  ⟨fun pins s σ H Q I h => (pe_tupRg hc hg hm (prg_mono he) na).run pins s σ H Q I ⟨_, h, fun a b H1 ⟨l, q⟩ => ⟨l, fun p hp => q p _ (Al.mk' hp)⟩⟩⟩
/-- l + m -/
def rCatAl : R2 := fun x y H Q => ∃ l b xs zs, x = .ref l ∧ y = .ref b ∧ H l = some (.lst xs) ∧ H b = some (.lst zs) ∧ xs.length + zs.length ≤ sizeLine ∧ ∀ p H2, Al H p (.lst (xs ++ zs)) H2 → Q (.ref p) H2
theorem op_catAl : OpR X (binaryOp .Add) rCatAl := fun pins s σ H x y v u Q I rx ry ⟨l, b, xs, zs, e1, e2, h1, h2, hl, q⟩ => op_cat pins s σ H x y v u Q I rx ry ⟨l, b, xs, zs, e1, e2, h1, h2, hl, fun p hp => q p _ (Al.mk' hp)⟩
/-- l * n -/
def rRepAl : R2 := fun x y H Q => ∃ l k xs, x = .ref l ∧ y = .int k ∧ H l = some (.lst xs) ∧ -(2 ^ 63) ≤ k ∧ k < 2 ^ 63 ∧ xs.length * k.toNat ≤ sizeLine ∧ ∀ p H2, Al H p (.lst (List.replicate k.toNat xs).flatten) H2 → Q (.ref p) H2
theorem op_repAl : OpR X (binaryOp .Mult) rRepAl := fun pins s σ H x y v u Q I rx ry ⟨l, k, xs, e1, e2, h1, h2, h3, hl, q⟩ => op_rep pins s σ H x y v u Q I rx ry ⟨l, k, xs, e1, e2, h1, h2, h3, hl, fun p hp => q p _ (Al.mk' hp)⟩
/-- t * n of a tuple -/
def rRepTAl (K : Fg) : R2 := fun x y H Q => ∃ l k xs, x = .ref l ∧ y = .int k ∧ SqT K H l xs ∧ xs ≠ [] ∧ 2 ≤ k ∧ k ≤ 1000 ∧ xs.length ≤ 1000 ∧ ∀ p H2, Al H p (.tup (List.replicate k.toNat xs).flatten) H2 → Q (.ref p) H2
theorem op_repTAl : OpR X (binaryOp .Mult) (rRepTAl X.K) := fun pins s σ H x y v u Q I rx ry ⟨l, k, xs, e1, e2, h1, h2, h3, h4, hl, q⟩ => op_repT pins s σ H x y v u Q I rx ry ⟨l, k, xs, e1, e2, h1, h2, h3, h4, hl, fun p hp => q p _ (Al.mk' hp)⟩
/-- xs[lo:hi] of a list -/
def rSlAl (K : Fg) : V → Option Int → Option Int → Hp → VK → Prop := fun x lo hi H Q => ∃ a xs, x = .ref a ∧ SqL K H a xs ∧ ∀ p H2, Al H p (.lst (cutV xs lo hi)) H2 → Q (.ref p) H2
theorem sl_listAl : SlR X (rSlAl X.K) := fun pins s σ H x v vl vu lo hi sl Q I rx hs pl pu ⟨a, xs, e, h, q⟩ => sl_list pins s σ H x v vl vu lo hi sl Q I rx hs pl pu ⟨a, xs, e, h, fun p hp => q p _ (Al.mk' hp)⟩
/-- list(t), tuple(l) -/
def rLstAl : List V → Hp → VK → Prop := fun vs H Q => ∃ p o xs, vs = [.ref p] ∧ H p = some o ∧ seqO o = some xs ∧ ∀ l H2, Al H l (.lst xs) H2 → Q (.ref l) H2
theorem lst_al : CallR X (.type "list") rLstAl := fun pins s σ H xs us Q I r ⟨p, o, ys, e, h1, h2, q⟩ => lst_q pins s σ H xs us Q I r ⟨p, o, ys, e, h1, h2, fun l hl => q l _ (Al.mk' hl)⟩
def rTupAl : List V → Hp → VK → Prop := fun vs H Q => ∃ p xs, vs = [.ref p] ∧ H p = some (.lst xs) ∧ ∀ l H2, Al H l (.tup xs) H2 → Q (.ref l) H2
theorem tup_al : CallR X (.type "tuple") rTupAl := fun pins s σ H xs us Q I r ⟨p, ys, e, h1, q⟩ => tup_q pins s σ H xs us Q I r ⟨p, ys, e, h1, fun l hl => q l _ (Al.mk' hl)⟩
end
theorem ral : (∀ t σ H Q, tLstA t σ H Q = t σ H fun xs H1 => xs.length ≤ sizeLine ∧ ∀ p H2, Al H1 p (.lst xs) H2 → Q (.ref p) H2) ∧ (∀ t σ H Q, tTupA t σ H Q = t σ H fun xs H1 => xs.length ≤ sizeLine ∧ ∀ p H2, Al H1 p (.tup xs) H2 → Q (.ref p) H2) ∧
    (∀ σ H Q, tDNewA σ H Q = ∀ p H2, Al H p (.dK []) H2 → Q (.ref p) H2) ∧ (∀ te σ H Q, tLstRgA te σ H Q = te σ H fun a b H1 => RgOk a b ∧ ∀ q H2, Al H1 q (.lst (rgV a b)) H2 → Q (.ref q) H2) ∧
    (∀ te σ H Q, tTupRgA te σ H Q = te σ H fun a b H1 => RgOk a b ∧ ∀ q H2, Al H1 q (.tup (rgV a b)) H2 → Q (.ref q) H2) ∧
    (∀ x y H Q, rCatAl x y H Q = ∃ l b xs zs, x = .ref l ∧ y = .ref b ∧ H l = some (.lst xs) ∧ H b = some (.lst zs) ∧ xs.length + zs.length ≤ sizeLine ∧ ∀ p H2, Al H p (.lst (xs ++ zs)) H2 → Q (.ref p) H2) ∧
    (∀ x y H Q, rRepAl x y H Q = ∃ l k xs, x = .ref l ∧ y = .int k ∧ H l = some (.lst xs) ∧ -(2 ^ 63) ≤ k ∧ k < 2 ^ 63 ∧ xs.length * k.toNat ≤ sizeLine ∧ ∀ p H2, Al H p (.lst (List.replicate k.toNat xs).flatten) H2 → Q (.ref p) H2) ∧
    (∀ K x y H Q, rRepTAl K x y H Q = ∃ l k xs, x = .ref l ∧ y = .int k ∧ SqT K H l xs ∧ xs ≠ [] ∧ 2 ≤ k ∧ k ≤ 1000 ∧ xs.length ≤ 1000 ∧ ∀ p H2, Al H p (.tup (List.replicate k.toNat xs).flatten) H2 → Q (.ref p) H2) ∧
    (∀ K x lo hi H Q, rSlAl K x lo hi H Q = ∃ a xs, x = .ref a ∧ SqL K H a xs ∧ ∀ p H2, Al H p (.lst (cutV xs lo hi)) H2 → Q (.ref p) H2) ∧
    (∀ vs H Q, rLstAl vs H Q = ∃ p o xs, vs = [.ref p] ∧ H p = some o ∧ seqO o = some xs ∧ ∀ l H2, Al H l (.lst xs) H2 → Q (.ref l) H2) ∧ (∀ vs H Q, rTupAl vs H Q = ∃ p xs, vs = [.ref p] ∧ H p = some (.lst xs) ∧ ∀ l H2, Al H l (.tup xs) H2 → Q (.ref l) H2) := by
  refine ⟨?_, ?_, ?_, ?_, ?_, ?_, ?_, ?_, ?_, ?_, ?_⟩ <;> intros <;> rfl
theorem Al.k {H H2 : Hp} {p a : Addr} {o u : HO} (x : Al H p o H2) (h : H a = some u) : H2 a = some u := x.s _ _ h
theorem Al.ne {H H2 : Hp} {p a : Addr} {o u : HO} (x : Al H p o H2) (h : H a = some u) : p ≠ a := fun e => by
  rw [← e, x.f] at h
  cases h
theorem at_mem {xs : List V} {r : Int} (h0 : 0 ≤ r) (h1 : r < (xs.length : Int)) : ∃ v, atI xs r = some v ∧ v ∈ xs := by
  obtain ⟨k, rfl⟩ : ∃ k : Nat, r = (k : Int) := ⟨r.toNat, by omega⟩
  have h2 : k < xs.length := by omega
  exact ⟨xs[k], atI_nat (List.getElem?_eq_getElem h2), List.getElem_mem h2⟩
/-- the rest of a suite kept shut -/
theorem seqI {t u : TS} {D : Ends} {σ : L2.St} {H : Hp} (h : ∀ r : TS, u = r → tSeq t r D σ H) : tSeq t u D σ H := h u rfl
theorem tst {H H1 H2 H3 H4 : Hp} {p q r t : Addr} {o1 o2 o3 o4 : HO} (a1 : Al H p o1 H1) (a2 : Al H1 q o2 H2) (a3 : Al H2 r o3 H3) (a4 : Al H3 t o4 H4) : ∃ x, H4 p = some x ∧ H4 q = some o2 := by
  exact ⟨_, (Al.k a4 (Al.k a3 (Al.k a2 (Al.e a1)))), (Al.k a4 (Al.k a3 (Al.e a2)))⟩
end Sw

namespace Law
open PySem PySem.Spec PyProof.Rows L2 Sw
def top (i : Nat) : Stmt := PySem.Challenge.pw_splitwide_k58_orders_sets_shares_refused.main.body.getD i (.Pass ⟨0, 0, 0, 0⟩)
abbrev s_is_whole : Stmt := top 7
abbrev nm_is_whole : List Str := ["thing"]
theorem sc_is_whole : FnScope nm_is_whole ["thing"] (defScope s_is_whole) := ⟨rfl, rfl, rfl, by decide +kernel, rfl, by decide +kernel, by decide +kernel⟩
abbrev s_is_within : Stmt := top 8
abbrev nm_is_within : List Str := ["thing", "low", "high"]
theorem sc_is_within : FnScope nm_is_within ["thing", "low", "high"] (defScope s_is_within) := ⟨rfl, rfl, rfl, by decide +kernel, rfl, by decide +kernel, by decide +kernel⟩
abbrev s_is_row : Stmt := top 12
abbrev nm_is_row : List Str := ["thing"]
theorem sc_is_row : FnScope nm_is_row ["thing"] (defScope s_is_row) := ⟨rfl, rfl, rfl, by decide +kernel, rfl, by decide +kernel, by decide +kernel⟩
abbrev s_is_order : Stmt := top 13
abbrev nm_is_order : List Str := ["thing", "seen", "place"]
theorem sc_is_order : FnScope nm_is_order ["thing"] (defScope s_is_order) := ⟨rfl, rfl, rfl, by decide +kernel, rfl, by decide +kernel, by decide +kernel⟩
abbrev s_need_order : Stmt := top 14
abbrev nm_need_order : List Str := ["thing"]
theorem sc_need_order : FnScope nm_need_order ["thing"] (defScope s_need_order) := ⟨rfl, rfl, rfl, by decide +kernel, rfl, by decide +kernel, by decide +kernel⟩
abbrev s_exchange : Stmt := top 15
abbrev nm_exchange : List Str := ["row", "one", "other", "kept"]
theorem sc_exchange : FnScope nm_exchange ["row", "one", "other"] (defScope s_exchange) := ⟨rfl, rfl, rfl, by decide +kernel, rfl, by decide +kernel, by decide +kernel⟩
abbrev s_products_to : Stmt := top 16
abbrev nm_products_to : List Str := ["many", "found", "k"]
theorem sc_products_to : FnScope nm_products_to ["many"] (defScope s_products_to) := ⟨rfl, rfl, rfl, by decide +kernel, rfl, by decide +kernel, by decide +kernel⟩
abbrev s_orders_many : Stmt := top 17
abbrev nm_orders_many : List Str := ["many"]
theorem sc_orders_many : FnScope nm_orders_many ["many"] (defScope s_orders_many) := ⟨rfl, rfl, rfl, by decide +kernel, rfl, by decide +kernel, by decide +kernel⟩
abbrev s_order_at : Stmt := top 18
abbrev nm_order_at : List Str := ["many", "rank", "sizes", "left", "found", "k", "at"]
theorem sc_order_at : FnScope nm_order_at ["many", "rank"] (defScope s_order_at) := ⟨rfl, rfl, rfl, by decide +kernel, rfl, by decide +kernel, by decide +kernel⟩
abbrev s_order_rank : Stmt := top 19
abbrev nm_order_rank : List Str := ["order", "sizes", "rank", "at", "place", "less", "other"]
theorem sc_order_rank : FnScope nm_order_rank ["order"] (defScope s_order_rank) := ⟨rfl, rfl, rfl, by decide +kernel, rfl, by decide +kernel, by decide +kernel⟩
abbrev s_next_order : Stmt := top 20
abbrev nm_next_order : List Str := ["order", "found", "at", "other"]
theorem sc_next_order : FnScope nm_next_order ["order"] (defScope s_next_order) := ⟨rfl, rfl, rfl, by decide +kernel, rfl, by decide +kernel, by decide +kernel⟩
abbrev s_laid : Stmt := top 21
abbrev nm_laid : List Str := ["row", "order", "place"]
theorem sc_laid : FnScope nm_laid ["row", "order"] (defScope s_laid) := ⟨rfl, rfl, rfl, by decide +kernel, rfl, by decide +kernel, by decide +kernel⟩
abbrev s_turned_order : Stmt := top 22
abbrev nm_turned_order : List Str := ["order", "found", "at", "place"]
theorem sc_turned_order : FnScope nm_turned_order ["order"] (defScope s_turned_order) := ⟨rfl, rfl, rfl, by decide +kernel, rfl, by decide +kernel, by decide +kernel⟩
abbrev s_by_numbers : Stmt := top 23
abbrev nm_by_numbers : List Str := ["numbers", "found", "k", "number", "last"]
theorem sc_by_numbers : FnScope nm_by_numbers ["numbers"] (defScope s_by_numbers) := ⟨rfl, rfl, rfl, by decide +kernel, rfl, by decide +kernel, by decide +kernel⟩
abbrev s_numbers_by : Stmt := top 24
abbrev nm_numbers_by : List Str := ["order", "found", "where", "numbers", "last", "number"]
theorem sc_numbers_by : FnScope nm_numbers_by ["order"] (defScope s_numbers_by) := ⟨rfl, rfl, rfl, by decide +kernel, rfl, by decide +kernel, by decide +kernel⟩
abbrev s_need_many : Stmt := top 27
abbrev nm_need_many : List Str := ["many"]
theorem sc_need_many : FnScope nm_need_many ["many"] (defScope s_need_many) := ⟨rfl, rfl, rfl, by decide +kernel, rfl, by decide +kernel, by decide +kernel⟩
abbrev s_ways : Stmt := top 28
abbrev nm_ways : List Str := ["many", "size", "found", "k"]
theorem sc_ways : FnScope nm_ways ["many", "size"] (defScope s_ways) := ⟨rfl, rfl, rfl, by decide +kernel, rfl, by decide +kernel, by decide +kernel⟩
abbrev s_sets_many : Stmt := top 29
abbrev nm_sets_many : List Str := ["many", "size"]
theorem sc_sets_many : FnScope nm_sets_many ["many", "size"] (defScope s_sets_many) := ⟨rfl, rfl, rfl, by decide +kernel, rfl, by decide +kernel, by decide +kernel⟩
abbrev s_set_at : Stmt := top 30
abbrev nm_set_at : List Str := ["many", "size", "rank", "found", "one", "behind"]
theorem sc_set_at : FnScope nm_set_at ["many", "size", "rank"] (defScope s_set_at) := ⟨rfl, rfl, rfl, by decide +kernel, rfl, by decide +kernel, by decide +kernel⟩
abbrev s_is_set : Stmt := top 31
abbrev nm_is_set : List Str := ["many", "thing", "ahead", "one"]
theorem sc_is_set : FnScope nm_is_set ["many", "thing"] (defScope s_is_set) := ⟨rfl, rfl, rfl, by decide +kernel, rfl, by decide +kernel, by decide +kernel⟩
abbrev s_need_set : Stmt := top 32
abbrev nm_need_set : List Str := ["many", "told"]
theorem sc_need_set : FnScope nm_need_set ["many", "told"] (defScope s_need_set) := ⟨rfl, rfl, rfl, by decide +kernel, rfl, by decide +kernel, by decide +kernel⟩
abbrev s_set_rank : Stmt := top 33
abbrev nm_set_rank : List Str := ["many", "told", "rank", "ahead", "at", "one", "other"]
theorem sc_set_rank : FnScope nm_set_rank ["many", "told"] (defScope s_set_rank) := ⟨rfl, rfl, rfl, by decide +kernel, rfl, by decide +kernel, by decide +kernel⟩
abbrev s_next_set : Stmt := top 34
abbrev nm_next_set : List Str := ["many", "told", "size", "at", "k"]
theorem sc_next_set : FnScope nm_next_set ["many", "told"] (defScope s_next_set) := ⟨rfl, rfl, rfl, by decide +kernel, rfl, by decide +kernel, by decide +kernel⟩
abbrev s_need_shares : Stmt := top 38
abbrev nm_need_shares : List Str := ["thing", "share"]
theorem sc_need_shares : FnScope nm_need_shares ["thing"] (defScope s_need_shares) := ⟨rfl, rfl, rfl, by decide +kernel, rfl, by decide +kernel, by decide +kernel⟩
abbrev s_shares_many : Stmt := top 39
abbrev nm_shares_many : List Str := ["shares"]
theorem sc_shares_many : FnScope nm_shares_many ["shares"] (defScope s_shares_many) := ⟨rfl, rfl, rfl, by decide +kernel, rfl, by decide +kernel, by decide +kernel⟩
abbrev s_parted_at : Stmt := top 40
abbrev nm_parted_at : List Str := ["shares", "number", "at"]
theorem sc_parted_at : FnScope nm_parted_at ["shares", "number"] (defScope s_parted_at) := ⟨rfl, rfl, rfl, by decide +kernel, rfl, by decide +kernel, by decide +kernel⟩
abbrev s_share_at : Stmt := top 41
abbrev nm_share_at : List Str := ["shares", "number"]
theorem sc_share_at : FnScope nm_share_at ["shares", "number"] (defScope s_share_at) := ⟨rfl, rfl, rfl, by decide +kernel, rfl, by decide +kernel, by decide +kernel⟩
abbrev s_rest_in : Stmt := top 42
abbrev nm_rest_in : List Str := ["shares", "number"]
theorem sc_rest_in : FnScope nm_rest_in ["shares", "number"] (defScope s_rest_in) := ⟨rfl, rfl, rfl, by decide +kernel, rfl, by decide +kernel, by decide +kernel⟩
abbrev s_first_of : Stmt := top 43
abbrev nm_first_of : List Str := ["shares", "at"]
theorem sc_first_of : FnScope nm_first_of ["shares", "at"] (defScope s_first_of) := ⟨rfl, rfl, rfl, by decide +kernel, rfl, by decide +kernel, by decide +kernel⟩
abbrev s_number_of : Stmt := top 44
abbrev nm_number_of : List Str := ["shares", "at", "rest", "first"]
theorem sc_number_of : FnScope nm_number_of ["shares", "at", "rest"] (defScope s_number_of) := ⟨rfl, rfl, rfl, by decide +kernel, rfl, by decide +kernel, by decide +kernel⟩
abbrev s__law_cell : Stmt := top 46
abbrev nm__law_cell : List Str := ["script", "k"]
theorem sc__law_cell : FnScope nm__law_cell ["script", "k"] (defScope s__law_cell) := ⟨rfl, rfl, rfl, by decide +kernel, rfl, by decide +kernel, by decide +kernel⟩
abbrev s__law_well : Stmt := top 47
abbrev nm__law_well : List Str := ["cell"]
theorem sc__law_well : FnScope nm__law_well ["cell"] (defScope s__law_well) := ⟨rfl, rfl, rfl, by decide +kernel, rfl, by decide +kernel, by decide +kernel⟩
abbrev s__law_draw : Stmt := top 48
abbrev nm__law_draw : List Str := ["well", "many", "number"]
theorem sc__law_draw : FnScope nm__law_draw ["well", "many"] (defScope s__law_draw) := ⟨rfl, rfl, rfl, by decide +kernel, rfl, by decide +kernel, by decide +kernel⟩
abbrev s__law_order : Stmt := top 49
abbrev nm__law_order : List Str := ["well", "many", "left", "found"]
theorem sc__law_order : FnScope nm__law_order ["well", "many"] (defScope s__law_order) := ⟨rfl, rfl, rfl, by decide +kernel, rfl, by decide +kernel, by decide +kernel⟩
abbrev s__law_bad_number : Stmt := top 50
abbrev nm__law_bad_number : List Str := ["well", "last", "some"]
theorem sc__law_bad_number : FnScope nm__law_bad_number ["well", "last"] (defScope s__law_bad_number) := ⟨rfl, rfl, rfl, by decide +kernel, rfl, by decide +kernel, by decide +kernel⟩
abbrev s__law_bad_order : Stmt := top 51
abbrev nm__law_bad_order : List Str := ["well", "many", "order", "at", "ahead", "behind", "some"]
theorem sc__law_bad_order : FnScope nm__law_bad_order ["well"] (defScope s__law_bad_order) := ⟨rfl, rfl, rfl, by decide +kernel, rfl, by decide +kernel, by decide +kernel⟩
abbrev s__law_bad_set : Stmt := top 52
abbrev nm__law_bad_set : List Str := ["well", "many", "some"]
theorem sc__law_bad_set : FnScope nm__law_bad_set ["well", "many"] (defScope s__law_bad_set) := ⟨rfl, rfl, rfl, by decide +kernel, rfl, by decide +kernel, by decide +kernel⟩
abbrev s__law_bad_shares : Stmt := top 53
abbrev nm__law_bad_shares : List Str := ["well", "some"]
theorem sc__law_bad_shares : FnScope nm__law_bad_shares ["well"] (defScope s__law_bad_shares) := ⟨rfl, rfl, rfl, by decide +kernel, rfl, by decide +kernel, by decide +kernel⟩
abbrev s__law_called : Stmt := top 54
abbrev nm__law_called : List Str := ["door", "things"]
theorem sc__law_called : FnScope nm__law_called ["door", "things"] (defScope s__law_called) := ⟨rfl, rfl, rfl, by decide +kernel, rfl, by decide +kernel, by decide +kernel⟩
abbrev s__law_called_else : Stmt := top 55
abbrev nm__law_called_else : List Str := ["door", "things"]
theorem sc__law_called_else : FnScope nm__law_called_else ["door", "things"] (defScope s__law_called_else) := ⟨rfl, rfl, rfl, by decide +kernel, rfl, by decide +kernel, by decide +kernel⟩
abbrev s__law_told : Stmt := top 56
abbrev nm__law_told : List Str := ["door", "things", "e"]
theorem sc__law_told : FnScope nm__law_told ["door", "things"] (defScope s__law_told) := ⟨rfl, rfl, rfl, by decide +kernel, rfl, by decide +kernel, by decide +kernel⟩
abbrev s__law_very : Stmt := top 57
abbrev nm__law_very : List Str := ["found", "thing", "same"]
theorem sc__law_very : FnScope nm__law_very ["found", "thing"] (defScope s__law_very) := ⟨rfl, rfl, rfl, by decide +kernel, rfl, by decide +kernel, by decide +kernel⟩
abbrev s__law_is : Stmt := top 58
abbrev nm__law_is : List Str := ["door", "things", "word", "thing", "found"]
theorem sc__law_is : FnScope nm__law_is ["door", "things", "word", "thing"] (defScope s__law_is) := ⟨rfl, rfl, rfl, by decide +kernel, rfl, by decide +kernel, by decide +kernel⟩
abbrev s__law_orders_right : Stmt := top 59
abbrev nm__law_orders_right : List Str := ["well", "many", "bad", "behind", "door", "long", "row", "short", "first", "none"]
theorem sc__law_orders_right : FnScope nm__law_orders_right ["well"] (defScope s__law_orders_right) := ⟨rfl, rfl, rfl, by decide +kernel, rfl, by decide +kernel, by decide +kernel⟩
abbrev s__law_numbers_right : Stmt := top 60
abbrev nm__law_numbers_right : List Str := ["well", "many", "at", "numbers", "bad", "spoilt", "some", "k"]
theorem sc__law_numbers_right : FnScope nm__law_numbers_right ["well"] (defScope s__law_numbers_right) := ⟨rfl, rfl, rfl, by decide +kernel, rfl, by decide +kernel, by decide +kernel⟩
abbrev s__law_sets_right : Stmt := top 61
abbrev nm__law_sets_right : List Str := ["well", "many", "size", "bad", "other", "things", "rank"]
theorem sc__law_sets_right : FnScope nm__law_sets_right ["well"] (defScope s__law_sets_right) := ⟨rfl, rfl, rfl, by decide +kernel, rfl, by decide +kernel, by decide +kernel⟩
abbrev s__law_shares_right : Stmt := top 62
abbrev nm__law_shares_right : List Str := ["well", "shares", "bad", "door", "number", "place", "at", "rest", "k"]
theorem sc__law_shares_right : FnScope nm__law_shares_right ["well"] (defScope s__law_shares_right) := ⟨rfl, rfl, rfl, by decide +kernel, rfl, by decide +kernel, by decide +kernel⟩
abbrev s_law : Stmt := top 63
abbrev nm_law : List Str := ["script", "k", "well", "turn"]
theorem sc_law : FnScope nm_law ["script"] (defScope s_law) := ⟨rfl, rfl, rfl, by decide +kernel, rfl, by decide +kernel, by decide +kernel⟩
abbrev s_NoNumber_init : Stmt := inClass (top 2) 0
abbrev s_NoOrder_init : Stmt := inClass (top 3) 0
abbrev s_NoSet_init : Stmt := inClass (top 4) 0
abbrev s_NoShares_init : Stmt := inClass (top 5) 0
def fn : List He.DefD := [⟨("is_whole", none), "is_whole", "is_whole", defArgs s_is_whole, defBody s_is_whole, defScope s_is_whole, [], []⟩,
  ⟨("is_within", none), "is_within", "is_within", defArgs s_is_within, defBody s_is_within, defScope s_is_within, [], []⟩,
  ⟨("is_row", none), "is_row", "is_row", defArgs s_is_row, defBody s_is_row, defScope s_is_row, [], []⟩,
  ⟨("is_order", none), "is_order", "is_order", defArgs s_is_order, defBody s_is_order, defScope s_is_order, [], []⟩,
  ⟨("need_order", none), "need_order", "need_order", defArgs s_need_order, defBody s_need_order, defScope s_need_order, [], []⟩,
  ⟨("exchange", none), "exchange", "exchange", defArgs s_exchange, defBody s_exchange, defScope s_exchange, [], []⟩,
  ⟨("products_to", none), "products_to", "products_to", defArgs s_products_to, defBody s_products_to, defScope s_products_to, [], []⟩,
  ⟨("orders_many", none), "orders_many", "orders_many", defArgs s_orders_many, defBody s_orders_many, defScope s_orders_many, [], []⟩,
  ⟨("order_at", none), "order_at", "order_at", defArgs s_order_at, defBody s_order_at, defScope s_order_at, [], []⟩,
  ⟨("order_rank", none), "order_rank", "order_rank", defArgs s_order_rank, defBody s_order_rank, defScope s_order_rank, [], []⟩,
  ⟨("next_order", none), "next_order", "next_order", defArgs s_next_order, defBody s_next_order, defScope s_next_order, [], []⟩,
  ⟨("laid", none), "laid", "laid", defArgs s_laid, defBody s_laid, defScope s_laid, [], []⟩,
  ⟨("turned_order", none), "turned_order", "turned_order", defArgs s_turned_order, defBody s_turned_order, defScope s_turned_order, [], []⟩,
  ⟨("by_numbers", none), "by_numbers", "by_numbers", defArgs s_by_numbers, defBody s_by_numbers, defScope s_by_numbers, [], []⟩,
  ⟨("numbers_by", none), "numbers_by", "numbers_by", defArgs s_numbers_by, defBody s_numbers_by, defScope s_numbers_by, [], []⟩,
  ⟨("need_many", none), "need_many", "need_many", defArgs s_need_many, defBody s_need_many, defScope s_need_many, [], []⟩,
  ⟨("ways", none), "ways", "ways", defArgs s_ways, defBody s_ways, defScope s_ways, [], []⟩,
  ⟨("sets_many", none), "sets_many", "sets_many", defArgs s_sets_many, defBody s_sets_many, defScope s_sets_many, [], []⟩,
  ⟨("set_at", none), "set_at", "set_at", defArgs s_set_at, defBody s_set_at, defScope s_set_at, [], []⟩,
  ⟨("is_set", none), "is_set", "is_set", defArgs s_is_set, defBody s_is_set, defScope s_is_set, [], []⟩,
  ⟨("need_set", none), "need_set", "need_set", defArgs s_need_set, defBody s_need_set, defScope s_need_set, [], []⟩,
  ⟨("set_rank", none), "set_rank", "set_rank", defArgs s_set_rank, defBody s_set_rank, defScope s_set_rank, [], []⟩,
  ⟨("next_set", none), "next_set", "next_set", defArgs s_next_set, defBody s_next_set, defScope s_next_set, [], []⟩,
  ⟨("need_shares", none), "need_shares", "need_shares", defArgs s_need_shares, defBody s_need_shares, defScope s_need_shares, [], []⟩,
  ⟨("shares_many", none), "shares_many", "shares_many", defArgs s_shares_many, defBody s_shares_many, defScope s_shares_many, [], []⟩,
  ⟨("parted_at", none), "parted_at", "parted_at", defArgs s_parted_at, defBody s_parted_at, defScope s_parted_at, [], []⟩,
  ⟨("share_at", none), "share_at", "share_at", defArgs s_share_at, defBody s_share_at, defScope s_share_at, [], []⟩,
  ⟨("rest_in", none), "rest_in", "rest_in", defArgs s_rest_in, defBody s_rest_in, defScope s_rest_in, [], []⟩,
  ⟨("first_of", none), "first_of", "first_of", defArgs s_first_of, defBody s_first_of, defScope s_first_of, [], []⟩,
  ⟨("number_of", none), "number_of", "number_of", defArgs s_number_of, defBody s_number_of, defScope s_number_of, [], []⟩,
  ⟨("_law_cell", none), "_law_cell", "_law_cell", defArgs s__law_cell, defBody s__law_cell, defScope s__law_cell, [], []⟩,
  ⟨("_law_well", none), "_law_well", "_law_well", defArgs s__law_well, defBody s__law_well, defScope s__law_well, [], []⟩,
  ⟨("_law_draw", none), "_law_draw", "_law_draw", defArgs s__law_draw, defBody s__law_draw, defScope s__law_draw, [], []⟩,
  ⟨("_law_order", none), "_law_order", "_law_order", defArgs s__law_order, defBody s__law_order, defScope s__law_order, [], []⟩,
  ⟨("_law_bad_number", none), "_law_bad_number", "_law_bad_number", defArgs s__law_bad_number, defBody s__law_bad_number, defScope s__law_bad_number, [], []⟩,
  ⟨("_law_bad_order", none), "_law_bad_order", "_law_bad_order", defArgs s__law_bad_order, defBody s__law_bad_order, defScope s__law_bad_order, [], []⟩,
  ⟨("_law_bad_set", none), "_law_bad_set", "_law_bad_set", defArgs s__law_bad_set, defBody s__law_bad_set, defScope s__law_bad_set, [], []⟩,
  ⟨("_law_bad_shares", none), "_law_bad_shares", "_law_bad_shares", defArgs s__law_bad_shares, defBody s__law_bad_shares, defScope s__law_bad_shares, [], []⟩,
  ⟨("_law_called", none), "_law_called", "_law_called", defArgs s__law_called, defBody s__law_called, defScope s__law_called, [], []⟩,
  ⟨("_law_called_else", none), "_law_called_else", "_law_called_else", defArgs s__law_called_else, defBody s__law_called_else, defScope s__law_called_else, [], []⟩,
  ⟨("_law_told", none), "_law_told", "_law_told", defArgs s__law_told, defBody s__law_told, defScope s__law_told, [], []⟩,
  ⟨("_law_very", none), "_law_very", "_law_very", defArgs s__law_very, defBody s__law_very, defScope s__law_very, [], []⟩,
  ⟨("_law_is", none), "_law_is", "_law_is", defArgs s__law_is, defBody s__law_is, defScope s__law_is, [], []⟩,
  ⟨("_law_orders_right", none), "_law_orders_right", "_law_orders_right", defArgs s__law_orders_right, defBody s__law_orders_right, defScope s__law_orders_right, [], []⟩,
  ⟨("_law_numbers_right", none), "_law_numbers_right", "_law_numbers_right", defArgs s__law_numbers_right, defBody s__law_numbers_right, defScope s__law_numbers_right, [], []⟩,
  ⟨("_law_sets_right", none), "_law_sets_right", "_law_sets_right", defArgs s__law_sets_right, defBody s__law_sets_right, defScope s__law_sets_right, [], []⟩,
  ⟨("_law_shares_right", none), "_law_shares_right", "_law_shares_right", defArgs s__law_shares_right, defBody s__law_shares_right, defScope s__law_shares_right, [], []⟩,
  ⟨("law", none), "law", "law", defArgs s_law, defBody s_law, defScope s_law, [], []⟩,
  ⟨("NoNumber", some "__init__"), "__init__", "NoNumber.__init__", defArgs s_NoNumber_init, defBody s_NoNumber_init, defScope s_NoNumber_init, [], []⟩,
  ⟨("NoOrder", some "__init__"), "__init__", "NoOrder.__init__", defArgs s_NoOrder_init, defBody s_NoOrder_init, defScope s_NoOrder_init, [], []⟩,
  ⟨("NoSet", some "__init__"), "__init__", "NoSet.__init__", defArgs s_NoSet_init, defBody s_NoSet_init, defScope s_NoSet_init, [], []⟩,
  ⟨("NoShares", some "__init__"), "__init__", "NoShares.__init__", defArgs s_NoShares_init, defBody s_NoShares_init, defScope s_NoShares_init, [], []⟩]
def fa : List He.Fa := [.glo "is_whole", .glo "is_within", .glo "is_row", .glo "is_order", .glo "need_order", .glo "exchange", .glo "products_to", .glo "orders_many", .glo "order_at", .glo "order_rank", .glo "next_order", .glo "laid", .glo "turned_order", .glo "by_numbers", .glo "numbers_by", .glo "need_many", .glo "ways", .glo "sets_many", .glo "set_at", .glo "is_set", .glo "need_set", .glo "set_rank", .glo "next_set", .glo "need_shares", .glo "shares_many", .glo "parted_at", .glo "share_at", .glo "rest_in", .glo "first_of", .glo "number_of", .glo "_law_cell", .glo "_law_well", .glo "_law_draw", .glo "_law_order", .glo "_law_bad_number", .glo "_law_bad_order", .glo "_law_bad_set", .glo "_law_bad_shares", .glo "_law_called", .glo "_law_called_else", .glo "_law_told", .glo "_law_very", .glo "_law_is", .glo "_law_orders_right", .glo "_law_numbers_right", .glo "_law_sets_right", .glo "_law_shares_right", .glo "law", .glo "SeedError", .glo "NoNumber", .glo "NoOrder", .glo "NoSet", .glo "NoShares", .free "all", .free "bool", .free "dict", .free "divmod", .free "enumerate", .free "int", .free "isinstance", .free "len", .free "list", .free "max", .free "min", .free "range", .free "reversed", .free "str", .free "sum", .free "tuple", .noat "NoNumber" "found", .noat "NoOrder" "found", .noat "NoSet" "found", .noat "NoShares" "found", .meth "NoNumber" "__init__", .meth "NoOrder" "__init__", .meth "NoSet" "__init__", .meth "NoShares" "__init__", .int "MOST_LAID" 60, .int "MOST_OUT_OF" 60, .int "MOST_RANKED" 20, .int "MOST_SHARE" 1000000, .int "MOST_SHARES" 60]
def fp (K : Fg) : Bool := (fa.all fun f => f.ok K) && allB [exB K (He.ga K "NoNumber"), exB K (He.ga K "NoOrder"), exB K (He.ga K "NoSet"), exB K (He.ga K "NoShares"), iniB K (He.ga K "SeedError"), decide (PySem.W.kitOne K (.ref (He.ga K "NoNumber")) (.ref (He.ga K "NoOrder")) = some false), decide (PySem.W.kitOne K (.ref (He.ga K "NoNumber")) (.ref (He.ga K "NoSet")) = some false), decide (PySem.W.kitOne K (.ref (He.ga K "NoNumber")) (.ref (He.ga K "NoShares")) = some false), decide (PySem.W.kitOne K (.ref (He.ga K "NoOrder")) (.ref (He.ga K "NoNumber")) = some false), decide (PySem.W.kitOne K (.ref (He.ga K "NoOrder")) (.ref (He.ga K "NoSet")) = some false), decide (PySem.W.kitOne K (.ref (He.ga K "NoOrder")) (.ref (He.ga K "NoShares")) = some false), decide (PySem.W.kitOne K (.ref (He.ga K "NoSet")) (.ref (He.ga K "NoNumber")) = some false), decide (PySem.W.kitOne K (.ref (He.ga K "NoSet")) (.ref (He.ga K "NoOrder")) = some false), decide (PySem.W.kitOne K (.ref (He.ga K "NoSet")) (.ref (He.ga K "NoShares")) = some false), decide (PySem.W.kitOne K (.ref (He.ga K "NoShares")) (.ref (He.ga K "NoNumber")) = some false), decide (PySem.W.kitOne K (.ref (He.ga K "NoShares")) (.ref (He.ga K "NoOrder")) = some false), decide (PySem.W.kitOne K (.ref (He.ga K "NoShares")) (.ref (He.ga K "NoSet")) = some false), decide (PySem.W.exmOne K (.ref (He.ga K "NoNumber")) (.ref (He.ga K "NoNumber")) = some true), decide (PySem.W.exmOne K (.ref (He.ga K "NoNumber")) (.ref (He.ga K "NoOrder")) = some false), decide (PySem.W.exmOne K (.ref (He.ga K "NoNumber")) (.ref (He.ga K "NoSet")) = some false), decide (PySem.W.exmOne K (.ref (He.ga K "NoNumber")) (.ref (He.ga K "NoShares")) = some false), decide (PySem.W.exmOne K (.ref (He.ga K "NoOrder")) (.ref (He.ga K "NoNumber")) = some false), decide (PySem.W.exmOne K (.ref (He.ga K "NoOrder")) (.ref (He.ga K "NoOrder")) = some true), decide (PySem.W.exmOne K (.ref (He.ga K "NoOrder")) (.ref (He.ga K "NoSet")) = some false), decide (PySem.W.exmOne K (.ref (He.ga K "NoOrder")) (.ref (He.ga K "NoShares")) = some false), decide (PySem.W.exmOne K (.ref (He.ga K "NoSet")) (.ref (He.ga K "NoNumber")) = some false), decide (PySem.W.exmOne K (.ref (He.ga K "NoSet")) (.ref (He.ga K "NoOrder")) = some false), decide (PySem.W.exmOne K (.ref (He.ga K "NoSet")) (.ref (He.ga K "NoSet")) = some true), decide (PySem.W.exmOne K (.ref (He.ga K "NoSet")) (.ref (He.ga K "NoShares")) = some false), decide (PySem.W.exmOne K (.ref (He.ga K "NoShares")) (.ref (He.ga K "NoNumber")) = some false), decide (PySem.W.exmOne K (.ref (He.ga K "NoShares")) (.ref (He.ga K "NoOrder")) = some false), decide (PySem.W.exmOne K (.ref (He.ga K "NoShares")) (.ref (He.ga K "NoSet")) = some false), decide (PySem.W.exmOne K (.ref (He.ga K "NoShares")) (.ref (He.ga K "NoShares")) = some true)]
def ts : List He.Tab := []
structure Tx (K : Fg) (mg : Str → Option Value) (w : World) : Prop where
  g_is_whole : mg "is_whole" = some (.ref (He.ga K "is_whole"))
  F_is_whole : ∃ fd, FunD K "is_whole" "is_whole" (defArgs s_is_whole) (defBody s_is_whole) (defScope s_is_whole) [] [] (He.ga K "is_whole") fd
  g_is_within : mg "is_within" = some (.ref (He.ga K "is_within"))
  F_is_within : ∃ fd, FunD K "is_within" "is_within" (defArgs s_is_within) (defBody s_is_within) (defScope s_is_within) [] [] (He.ga K "is_within") fd
  g_is_row : mg "is_row" = some (.ref (He.ga K "is_row"))
  F_is_row : ∃ fd, FunD K "is_row" "is_row" (defArgs s_is_row) (defBody s_is_row) (defScope s_is_row) [] [] (He.ga K "is_row") fd
  g_is_order : mg "is_order" = some (.ref (He.ga K "is_order"))
  F_is_order : ∃ fd, FunD K "is_order" "is_order" (defArgs s_is_order) (defBody s_is_order) (defScope s_is_order) [] [] (He.ga K "is_order") fd
  g_need_order : mg "need_order" = some (.ref (He.ga K "need_order"))
  F_need_order : ∃ fd, FunD K "need_order" "need_order" (defArgs s_need_order) (defBody s_need_order) (defScope s_need_order) [] [] (He.ga K "need_order") fd
  g_exchange : mg "exchange" = some (.ref (He.ga K "exchange"))
  F_exchange : ∃ fd, FunD K "exchange" "exchange" (defArgs s_exchange) (defBody s_exchange) (defScope s_exchange) [] [] (He.ga K "exchange") fd
  g_products_to : mg "products_to" = some (.ref (He.ga K "products_to"))
  F_products_to : ∃ fd, FunD K "products_to" "products_to" (defArgs s_products_to) (defBody s_products_to) (defScope s_products_to) [] [] (He.ga K "products_to") fd
  g_orders_many : mg "orders_many" = some (.ref (He.ga K "orders_many"))
  F_orders_many : ∃ fd, FunD K "orders_many" "orders_many" (defArgs s_orders_many) (defBody s_orders_many) (defScope s_orders_many) [] [] (He.ga K "orders_many") fd
  g_order_at : mg "order_at" = some (.ref (He.ga K "order_at"))
  F_order_at : ∃ fd, FunD K "order_at" "order_at" (defArgs s_order_at) (defBody s_order_at) (defScope s_order_at) [] [] (He.ga K "order_at") fd
  g_order_rank : mg "order_rank" = some (.ref (He.ga K "order_rank"))
  F_order_rank : ∃ fd, FunD K "order_rank" "order_rank" (defArgs s_order_rank) (defBody s_order_rank) (defScope s_order_rank) [] [] (He.ga K "order_rank") fd
  g_next_order : mg "next_order" = some (.ref (He.ga K "next_order"))
  F_next_order : ∃ fd, FunD K "next_order" "next_order" (defArgs s_next_order) (defBody s_next_order) (defScope s_next_order) [] [] (He.ga K "next_order") fd
  g_laid : mg "laid" = some (.ref (He.ga K "laid"))
  F_laid : ∃ fd, FunD K "laid" "laid" (defArgs s_laid) (defBody s_laid) (defScope s_laid) [] [] (He.ga K "laid") fd
  g_turned_order : mg "turned_order" = some (.ref (He.ga K "turned_order"))
  F_turned_order : ∃ fd, FunD K "turned_order" "turned_order" (defArgs s_turned_order) (defBody s_turned_order) (defScope s_turned_order) [] [] (He.ga K "turned_order") fd
  g_by_numbers : mg "by_numbers" = some (.ref (He.ga K "by_numbers"))
  F_by_numbers : ∃ fd, FunD K "by_numbers" "by_numbers" (defArgs s_by_numbers) (defBody s_by_numbers) (defScope s_by_numbers) [] [] (He.ga K "by_numbers") fd
  g_numbers_by : mg "numbers_by" = some (.ref (He.ga K "numbers_by"))
  F_numbers_by : ∃ fd, FunD K "numbers_by" "numbers_by" (defArgs s_numbers_by) (defBody s_numbers_by) (defScope s_numbers_by) [] [] (He.ga K "numbers_by") fd
  g_need_many : mg "need_many" = some (.ref (He.ga K "need_many"))
  F_need_many : ∃ fd, FunD K "need_many" "need_many" (defArgs s_need_many) (defBody s_need_many) (defScope s_need_many) [] [] (He.ga K "need_many") fd
  g_ways : mg "ways" = some (.ref (He.ga K "ways"))
  F_ways : ∃ fd, FunD K "ways" "ways" (defArgs s_ways) (defBody s_ways) (defScope s_ways) [] [] (He.ga K "ways") fd
  g_sets_many : mg "sets_many" = some (.ref (He.ga K "sets_many"))
  F_sets_many : ∃ fd, FunD K "sets_many" "sets_many" (defArgs s_sets_many) (defBody s_sets_many) (defScope s_sets_many) [] [] (He.ga K "sets_many") fd
  g_set_at : mg "set_at" = some (.ref (He.ga K "set_at"))
  F_set_at : ∃ fd, FunD K "set_at" "set_at" (defArgs s_set_at) (defBody s_set_at) (defScope s_set_at) [] [] (He.ga K "set_at") fd
  g_is_set : mg "is_set" = some (.ref (He.ga K "is_set"))
  F_is_set : ∃ fd, FunD K "is_set" "is_set" (defArgs s_is_set) (defBody s_is_set) (defScope s_is_set) [] [] (He.ga K "is_set") fd
  g_need_set : mg "need_set" = some (.ref (He.ga K "need_set"))
  F_need_set : ∃ fd, FunD K "need_set" "need_set" (defArgs s_need_set) (defBody s_need_set) (defScope s_need_set) [] [] (He.ga K "need_set") fd
  g_set_rank : mg "set_rank" = some (.ref (He.ga K "set_rank"))
  F_set_rank : ∃ fd, FunD K "set_rank" "set_rank" (defArgs s_set_rank) (defBody s_set_rank) (defScope s_set_rank) [] [] (He.ga K "set_rank") fd
  g_next_set : mg "next_set" = some (.ref (He.ga K "next_set"))
  F_next_set : ∃ fd, FunD K "next_set" "next_set" (defArgs s_next_set) (defBody s_next_set) (defScope s_next_set) [] [] (He.ga K "next_set") fd
  g_need_shares : mg "need_shares" = some (.ref (He.ga K "need_shares"))
  F_need_shares : ∃ fd, FunD K "need_shares" "need_shares" (defArgs s_need_shares) (defBody s_need_shares) (defScope s_need_shares) [] [] (He.ga K "need_shares") fd
  g_shares_many : mg "shares_many" = some (.ref (He.ga K "shares_many"))
  F_shares_many : ∃ fd, FunD K "shares_many" "shares_many" (defArgs s_shares_many) (defBody s_shares_many) (defScope s_shares_many) [] [] (He.ga K "shares_many") fd
  g_parted_at : mg "parted_at" = some (.ref (He.ga K "parted_at"))
  F_parted_at : ∃ fd, FunD K "parted_at" "parted_at" (defArgs s_parted_at) (defBody s_parted_at) (defScope s_parted_at) [] [] (He.ga K "parted_at") fd
  g_share_at : mg "share_at" = some (.ref (He.ga K "share_at"))
  F_share_at : ∃ fd, FunD K "share_at" "share_at" (defArgs s_share_at) (defBody s_share_at) (defScope s_share_at) [] [] (He.ga K "share_at") fd
  g_rest_in : mg "rest_in" = some (.ref (He.ga K "rest_in"))
  F_rest_in : ∃ fd, FunD K "rest_in" "rest_in" (defArgs s_rest_in) (defBody s_rest_in) (defScope s_rest_in) [] [] (He.ga K "rest_in") fd
  g_first_of : mg "first_of" = some (.ref (He.ga K "first_of"))
  F_first_of : ∃ fd, FunD K "first_of" "first_of" (defArgs s_first_of) (defBody s_first_of) (defScope s_first_of) [] [] (He.ga K "first_of") fd
  g_number_of : mg "number_of" = some (.ref (He.ga K "number_of"))
  F_number_of : ∃ fd, FunD K "number_of" "number_of" (defArgs s_number_of) (defBody s_number_of) (defScope s_number_of) [] [] (He.ga K "number_of") fd
  g__law_cell : mg "_law_cell" = some (.ref (He.ga K "_law_cell"))
  F__law_cell : ∃ fd, FunD K "_law_cell" "_law_cell" (defArgs s__law_cell) (defBody s__law_cell) (defScope s__law_cell) [] [] (He.ga K "_law_cell") fd
  g__law_well : mg "_law_well" = some (.ref (He.ga K "_law_well"))
  F__law_well : ∃ fd, FunD K "_law_well" "_law_well" (defArgs s__law_well) (defBody s__law_well) (defScope s__law_well) [] [] (He.ga K "_law_well") fd
  g__law_draw : mg "_law_draw" = some (.ref (He.ga K "_law_draw"))
  F__law_draw : ∃ fd, FunD K "_law_draw" "_law_draw" (defArgs s__law_draw) (defBody s__law_draw) (defScope s__law_draw) [] [] (He.ga K "_law_draw") fd
  g__law_order : mg "_law_order" = some (.ref (He.ga K "_law_order"))
  F__law_order : ∃ fd, FunD K "_law_order" "_law_order" (defArgs s__law_order) (defBody s__law_order) (defScope s__law_order) [] [] (He.ga K "_law_order") fd
  g__law_bad_number : mg "_law_bad_number" = some (.ref (He.ga K "_law_bad_number"))
  F__law_bad_number : ∃ fd, FunD K "_law_bad_number" "_law_bad_number" (defArgs s__law_bad_number) (defBody s__law_bad_number) (defScope s__law_bad_number) [] [] (He.ga K "_law_bad_number") fd
  g__law_bad_order : mg "_law_bad_order" = some (.ref (He.ga K "_law_bad_order"))
  F__law_bad_order : ∃ fd, FunD K "_law_bad_order" "_law_bad_order" (defArgs s__law_bad_order) (defBody s__law_bad_order) (defScope s__law_bad_order) [] [] (He.ga K "_law_bad_order") fd
  g__law_bad_set : mg "_law_bad_set" = some (.ref (He.ga K "_law_bad_set"))
  F__law_bad_set : ∃ fd, FunD K "_law_bad_set" "_law_bad_set" (defArgs s__law_bad_set) (defBody s__law_bad_set) (defScope s__law_bad_set) [] [] (He.ga K "_law_bad_set") fd
  g__law_bad_shares : mg "_law_bad_shares" = some (.ref (He.ga K "_law_bad_shares"))
  F__law_bad_shares : ∃ fd, FunD K "_law_bad_shares" "_law_bad_shares" (defArgs s__law_bad_shares) (defBody s__law_bad_shares) (defScope s__law_bad_shares) [] [] (He.ga K "_law_bad_shares") fd
  g__law_called : mg "_law_called" = some (.ref (He.ga K "_law_called"))
  F__law_called : ∃ fd, FunD K "_law_called" "_law_called" (defArgs s__law_called) (defBody s__law_called) (defScope s__law_called) [] [] (He.ga K "_law_called") fd
  g__law_called_else : mg "_law_called_else" = some (.ref (He.ga K "_law_called_else"))
  F__law_called_else : ∃ fd, FunD K "_law_called_else" "_law_called_else" (defArgs s__law_called_else) (defBody s__law_called_else) (defScope s__law_called_else) [] [] (He.ga K "_law_called_else") fd
  g__law_told : mg "_law_told" = some (.ref (He.ga K "_law_told"))
  F__law_told : ∃ fd, FunD K "_law_told" "_law_told" (defArgs s__law_told) (defBody s__law_told) (defScope s__law_told) [] [] (He.ga K "_law_told") fd
  g__law_very : mg "_law_very" = some (.ref (He.ga K "_law_very"))
  F__law_very : ∃ fd, FunD K "_law_very" "_law_very" (defArgs s__law_very) (defBody s__law_very) (defScope s__law_very) [] [] (He.ga K "_law_very") fd
  g__law_is : mg "_law_is" = some (.ref (He.ga K "_law_is"))
  F__law_is : ∃ fd, FunD K "_law_is" "_law_is" (defArgs s__law_is) (defBody s__law_is) (defScope s__law_is) [] [] (He.ga K "_law_is") fd
  g__law_orders_right : mg "_law_orders_right" = some (.ref (He.ga K "_law_orders_right"))
  F__law_orders_right : ∃ fd, FunD K "_law_orders_right" "_law_orders_right" (defArgs s__law_orders_right) (defBody s__law_orders_right) (defScope s__law_orders_right) [] [] (He.ga K "_law_orders_right") fd
  g__law_numbers_right : mg "_law_numbers_right" = some (.ref (He.ga K "_law_numbers_right"))
  F__law_numbers_right : ∃ fd, FunD K "_law_numbers_right" "_law_numbers_right" (defArgs s__law_numbers_right) (defBody s__law_numbers_right) (defScope s__law_numbers_right) [] [] (He.ga K "_law_numbers_right") fd
  g__law_sets_right : mg "_law_sets_right" = some (.ref (He.ga K "_law_sets_right"))
  F__law_sets_right : ∃ fd, FunD K "_law_sets_right" "_law_sets_right" (defArgs s__law_sets_right) (defBody s__law_sets_right) (defScope s__law_sets_right) [] [] (He.ga K "_law_sets_right") fd
  g__law_shares_right : mg "_law_shares_right" = some (.ref (He.ga K "_law_shares_right"))
  F__law_shares_right : ∃ fd, FunD K "_law_shares_right" "_law_shares_right" (defArgs s__law_shares_right) (defBody s__law_shares_right) (defScope s__law_shares_right) [] [] (He.ga K "_law_shares_right") fd
  g_law : mg "law" = some (.ref (He.ga K "law"))
  F_law : ∃ fd, FunD K "law" "law" (defArgs s_law) (defBody s_law) (defScope s_law) [] [] (He.ga K "law") fd
  g_SeedError : mg "SeedError" = some (.ref (He.ga K "SeedError"))
  g_NoNumber : mg "NoNumber" = some (.ref (He.ga K "NoNumber"))
  g_NoOrder : mg "NoOrder" = some (.ref (He.ga K "NoOrder"))
  g_NoSet : mg "NoSet" = some (.ref (He.ga K "NoSet"))
  g_NoShares : mg "NoShares" = some (.ref (He.ga K "NoShares"))
  n_all : mg "all" = none
  n_bool : mg "bool" = none
  n_dict : mg "dict" = none
  n_divmod : mg "divmod" = none
  n_enumerate : mg "enumerate" = none
  n_int : mg "int" = none
  n_isinstance : mg "isinstance" = none
  n_len : mg "len" = none
  n_list : mg "list" = none
  n_max : mg "max" = none
  n_min : mg "min" = none
  n_range : mg "range" = none
  n_reversed : mg "reversed" = none
  n_str : mg "str" = none
  n_sum : mg "sum" = none
  n_tuple : mg "tuple" = none
  k_MOST_LAID : ∃ t, mg "MOST_LAID" = some (.int 60 t)
  k_MOST_OUT_OF : ∃ t, mg "MOST_OUT_OF" = some (.int 60 t)
  k_MOST_RANKED : ∃ t, mg "MOST_RANKED" = some (.int 20 t)
  k_MOST_SHARE : ∃ t, mg "MOST_SHARE" = some (.int 1000000 t)
  k_MOST_SHARES : ∃ t, mg "MOST_SHARES" = some (.int 60 t)
  x_NoNumber : ExC K (He.ga K "NoNumber")
  a_NoNumber_found : PySem.W.findIn K (.ref (He.ga K "NoNumber")) "found" = some none
  m_NoNumber : Meth K (He.ga K "NoNumber") "__init__" (He.ma K (He.ga K "NoNumber") "__init__")
  I_NoNumber : ∃ fd, FunD K "__init__" "NoNumber.__init__" (defArgs s_NoNumber_init) (defBody s_NoNumber_init) (defScope s_NoNumber_init) [] [] (He.ma K (He.ga K "NoNumber") "__init__") fd
  x_NoOrder : ExC K (He.ga K "NoOrder")
  a_NoOrder_found : PySem.W.findIn K (.ref (He.ga K "NoOrder")) "found" = some none
  m_NoOrder : Meth K (He.ga K "NoOrder") "__init__" (He.ma K (He.ga K "NoOrder") "__init__")
  I_NoOrder : ∃ fd, FunD K "__init__" "NoOrder.__init__" (defArgs s_NoOrder_init) (defBody s_NoOrder_init) (defScope s_NoOrder_init) [] [] (He.ma K (He.ga K "NoOrder") "__init__") fd
  x_NoSet : ExC K (He.ga K "NoSet")
  a_NoSet_found : PySem.W.findIn K (.ref (He.ga K "NoSet")) "found" = some none
  m_NoSet : Meth K (He.ga K "NoSet") "__init__" (He.ma K (He.ga K "NoSet") "__init__")
  I_NoSet : ∃ fd, FunD K "__init__" "NoSet.__init__" (defArgs s_NoSet_init) (defBody s_NoSet_init) (defScope s_NoSet_init) [] [] (He.ma K (He.ga K "NoSet") "__init__") fd
  x_NoShares : ExC K (He.ga K "NoShares")
  a_NoShares_found : PySem.W.findIn K (.ref (He.ga K "NoShares")) "found" = some none
  m_NoShares : Meth K (He.ga K "NoShares") "__init__" (He.ma K (He.ga K "NoShares") "__init__")
  I_NoShares : ∃ fd, FunD K "__init__" "NoShares.__init__" (defArgs s_NoShares_init) (defBody s_NoShares_init) (defScope s_NoShares_init) [] [] (He.ma K (He.ga K "NoShares") "__init__") fd
  i0 : IniC K (He.ga K "SeedError")
  kit_NoNumber_NoOrder : PySem.W.kitOne K (.ref (He.ga K "NoNumber")) (.ref (He.ga K "NoOrder")) = some false
  kit_NoNumber_NoSet : PySem.W.kitOne K (.ref (He.ga K "NoNumber")) (.ref (He.ga K "NoSet")) = some false
  kit_NoNumber_NoShares : PySem.W.kitOne K (.ref (He.ga K "NoNumber")) (.ref (He.ga K "NoShares")) = some false
  kit_NoOrder_NoNumber : PySem.W.kitOne K (.ref (He.ga K "NoOrder")) (.ref (He.ga K "NoNumber")) = some false
  kit_NoOrder_NoSet : PySem.W.kitOne K (.ref (He.ga K "NoOrder")) (.ref (He.ga K "NoSet")) = some false
  kit_NoOrder_NoShares : PySem.W.kitOne K (.ref (He.ga K "NoOrder")) (.ref (He.ga K "NoShares")) = some false
  kit_NoSet_NoNumber : PySem.W.kitOne K (.ref (He.ga K "NoSet")) (.ref (He.ga K "NoNumber")) = some false
  kit_NoSet_NoOrder : PySem.W.kitOne K (.ref (He.ga K "NoSet")) (.ref (He.ga K "NoOrder")) = some false
  kit_NoSet_NoShares : PySem.W.kitOne K (.ref (He.ga K "NoSet")) (.ref (He.ga K "NoShares")) = some false
  kit_NoShares_NoNumber : PySem.W.kitOne K (.ref (He.ga K "NoShares")) (.ref (He.ga K "NoNumber")) = some false
  kit_NoShares_NoOrder : PySem.W.kitOne K (.ref (He.ga K "NoShares")) (.ref (He.ga K "NoOrder")) = some false
  kit_NoShares_NoSet : PySem.W.kitOne K (.ref (He.ga K "NoShares")) (.ref (He.ga K "NoSet")) = some false
  exm_NoNumber_NoNumber : PySem.W.exmOne K (.ref (He.ga K "NoNumber")) (.ref (He.ga K "NoNumber")) = some true
  exm_NoNumber_NoOrder : PySem.W.exmOne K (.ref (He.ga K "NoNumber")) (.ref (He.ga K "NoOrder")) = some false
  exm_NoNumber_NoSet : PySem.W.exmOne K (.ref (He.ga K "NoNumber")) (.ref (He.ga K "NoSet")) = some false
  exm_NoNumber_NoShares : PySem.W.exmOne K (.ref (He.ga K "NoNumber")) (.ref (He.ga K "NoShares")) = some false
  exm_NoOrder_NoNumber : PySem.W.exmOne K (.ref (He.ga K "NoOrder")) (.ref (He.ga K "NoNumber")) = some false
  exm_NoOrder_NoOrder : PySem.W.exmOne K (.ref (He.ga K "NoOrder")) (.ref (He.ga K "NoOrder")) = some true
  exm_NoOrder_NoSet : PySem.W.exmOne K (.ref (He.ga K "NoOrder")) (.ref (He.ga K "NoSet")) = some false
  exm_NoOrder_NoShares : PySem.W.exmOne K (.ref (He.ga K "NoOrder")) (.ref (He.ga K "NoShares")) = some false
  exm_NoSet_NoNumber : PySem.W.exmOne K (.ref (He.ga K "NoSet")) (.ref (He.ga K "NoNumber")) = some false
  exm_NoSet_NoOrder : PySem.W.exmOne K (.ref (He.ga K "NoSet")) (.ref (He.ga K "NoOrder")) = some false
  exm_NoSet_NoSet : PySem.W.exmOne K (.ref (He.ga K "NoSet")) (.ref (He.ga K "NoSet")) = some true
  exm_NoSet_NoShares : PySem.W.exmOne K (.ref (He.ga K "NoSet")) (.ref (He.ga K "NoShares")) = some false
  exm_NoShares_NoNumber : PySem.W.exmOne K (.ref (He.ga K "NoShares")) (.ref (He.ga K "NoNumber")) = some false
  exm_NoShares_NoOrder : PySem.W.exmOne K (.ref (He.ga K "NoShares")) (.ref (He.ga K "NoOrder")) = some false
  exm_NoShares_NoSet : PySem.W.exmOne K (.ref (He.ga K "NoShares")) (.ref (He.ga K "NoSet")) = some false
  exm_NoShares_NoShares : PySem.W.exmOne K (.ref (He.ga K "NoShares")) (.ref (He.ga K "NoShares")) = some true
theorem tx_mk {K : Fg} {h : Heap} {mg : Str → Option Value} {w : World} (X : K.In h) (G : h.Ns mainGlobals mg) (ct : sayT fp fn ts w K) : Tx K mg w := by
  have c := ct.bas
  obtain ⟨p1, p2⟩ := He.ba (show ((fa.all fun f => f.ok K) && allB [exB K (He.ga K "NoNumber"), exB K (He.ga K "NoOrder"), exB K (He.ga K "NoSet"), exB K (He.ga K "NoShares"), iniB K (He.ga K "SeedError"), decide (PySem.W.kitOne K (.ref (He.ga K "NoNumber")) (.ref (He.ga K "NoOrder")) = some false), decide (PySem.W.kitOne K (.ref (He.ga K "NoNumber")) (.ref (He.ga K "NoSet")) = some false), decide (PySem.W.kitOne K (.ref (He.ga K "NoNumber")) (.ref (He.ga K "NoShares")) = some false), decide (PySem.W.kitOne K (.ref (He.ga K "NoOrder")) (.ref (He.ga K "NoNumber")) = some false), decide (PySem.W.kitOne K (.ref (He.ga K "NoOrder")) (.ref (He.ga K "NoSet")) = some false), decide (PySem.W.kitOne K (.ref (He.ga K "NoOrder")) (.ref (He.ga K "NoShares")) = some false), decide (PySem.W.kitOne K (.ref (He.ga K "NoSet")) (.ref (He.ga K "NoNumber")) = some false), decide (PySem.W.kitOne K (.ref (He.ga K "NoSet")) (.ref (He.ga K "NoOrder")) = some false), decide (PySem.W.kitOne K (.ref (He.ga K "NoSet")) (.ref (He.ga K "NoShares")) = some false), decide (PySem.W.kitOne K (.ref (He.ga K "NoShares")) (.ref (He.ga K "NoNumber")) = some false), decide (PySem.W.kitOne K (.ref (He.ga K "NoShares")) (.ref (He.ga K "NoOrder")) = some false), decide (PySem.W.kitOne K (.ref (He.ga K "NoShares")) (.ref (He.ga K "NoSet")) = some false), decide (PySem.W.exmOne K (.ref (He.ga K "NoNumber")) (.ref (He.ga K "NoNumber")) = some true), decide (PySem.W.exmOne K (.ref (He.ga K "NoNumber")) (.ref (He.ga K "NoOrder")) = some false), decide (PySem.W.exmOne K (.ref (He.ga K "NoNumber")) (.ref (He.ga K "NoSet")) = some false), decide (PySem.W.exmOne K (.ref (He.ga K "NoNumber")) (.ref (He.ga K "NoShares")) = some false), decide (PySem.W.exmOne K (.ref (He.ga K "NoOrder")) (.ref (He.ga K "NoNumber")) = some false), decide (PySem.W.exmOne K (.ref (He.ga K "NoOrder")) (.ref (He.ga K "NoOrder")) = some true), decide (PySem.W.exmOne K (.ref (He.ga K "NoOrder")) (.ref (He.ga K "NoSet")) = some false), decide (PySem.W.exmOne K (.ref (He.ga K "NoOrder")) (.ref (He.ga K "NoShares")) = some false), decide (PySem.W.exmOne K (.ref (He.ga K "NoSet")) (.ref (He.ga K "NoNumber")) = some false), decide (PySem.W.exmOne K (.ref (He.ga K "NoSet")) (.ref (He.ga K "NoOrder")) = some false), decide (PySem.W.exmOne K (.ref (He.ga K "NoSet")) (.ref (He.ga K "NoSet")) = some true), decide (PySem.W.exmOne K (.ref (He.ga K "NoSet")) (.ref (He.ga K "NoShares")) = some false), decide (PySem.W.exmOne K (.ref (He.ga K "NoShares")) (.ref (He.ga K "NoNumber")) = some false), decide (PySem.W.exmOne K (.ref (He.ga K "NoShares")) (.ref (He.ga K "NoOrder")) = some false), decide (PySem.W.exmOne K (.ref (He.ga K "NoShares")) (.ref (He.ga K "NoSet")) = some false), decide (PySem.W.exmOne K (.ref (He.ga K "NoShares")) (.ref (He.ga K "NoShares")) = some true)]) = true from c.p)
  have fc : ∀ (i : Nat) {f : He.Fa}, fa[i]? = some f → f.ok K = true := fun i f e => List.all_eq_true.mp p1 f (List.mem_of_getElem? e)
  have ec : ∀ (i : Nat) {b : Bool}, ([exB K (He.ga K "NoNumber"), exB K (He.ga K "NoOrder"), exB K (He.ga K "NoSet"), exB K (He.ga K "NoShares"), iniB K (He.ga K "SeedError"), decide (PySem.W.kitOne K (.ref (He.ga K "NoNumber")) (.ref (He.ga K "NoOrder")) = some false), decide (PySem.W.kitOne K (.ref (He.ga K "NoNumber")) (.ref (He.ga K "NoSet")) = some false), decide (PySem.W.kitOne K (.ref (He.ga K "NoNumber")) (.ref (He.ga K "NoShares")) = some false), decide (PySem.W.kitOne K (.ref (He.ga K "NoOrder")) (.ref (He.ga K "NoNumber")) = some false), decide (PySem.W.kitOne K (.ref (He.ga K "NoOrder")) (.ref (He.ga K "NoSet")) = some false), decide (PySem.W.kitOne K (.ref (He.ga K "NoOrder")) (.ref (He.ga K "NoShares")) = some false), decide (PySem.W.kitOne K (.ref (He.ga K "NoSet")) (.ref (He.ga K "NoNumber")) = some false), decide (PySem.W.kitOne K (.ref (He.ga K "NoSet")) (.ref (He.ga K "NoOrder")) = some false), decide (PySem.W.kitOne K (.ref (He.ga K "NoSet")) (.ref (He.ga K "NoShares")) = some false), decide (PySem.W.kitOne K (.ref (He.ga K "NoShares")) (.ref (He.ga K "NoNumber")) = some false), decide (PySem.W.kitOne K (.ref (He.ga K "NoShares")) (.ref (He.ga K "NoOrder")) = some false), decide (PySem.W.kitOne K (.ref (He.ga K "NoShares")) (.ref (He.ga K "NoSet")) = some false), decide (PySem.W.exmOne K (.ref (He.ga K "NoNumber")) (.ref (He.ga K "NoNumber")) = some true), decide (PySem.W.exmOne K (.ref (He.ga K "NoNumber")) (.ref (He.ga K "NoOrder")) = some false), decide (PySem.W.exmOne K (.ref (He.ga K "NoNumber")) (.ref (He.ga K "NoSet")) = some false), decide (PySem.W.exmOne K (.ref (He.ga K "NoNumber")) (.ref (He.ga K "NoShares")) = some false), decide (PySem.W.exmOne K (.ref (He.ga K "NoOrder")) (.ref (He.ga K "NoNumber")) = some false), decide (PySem.W.exmOne K (.ref (He.ga K "NoOrder")) (.ref (He.ga K "NoOrder")) = some true), decide (PySem.W.exmOne K (.ref (He.ga K "NoOrder")) (.ref (He.ga K "NoSet")) = some false), decide (PySem.W.exmOne K (.ref (He.ga K "NoOrder")) (.ref (He.ga K "NoShares")) = some false), decide (PySem.W.exmOne K (.ref (He.ga K "NoSet")) (.ref (He.ga K "NoNumber")) = some false), decide (PySem.W.exmOne K (.ref (He.ga K "NoSet")) (.ref (He.ga K "NoOrder")) = some false), decide (PySem.W.exmOne K (.ref (He.ga K "NoSet")) (.ref (He.ga K "NoSet")) = some true), decide (PySem.W.exmOne K (.ref (He.ga K "NoSet")) (.ref (He.ga K "NoShares")) = some false), decide (PySem.W.exmOne K (.ref (He.ga K "NoShares")) (.ref (He.ga K "NoNumber")) = some false), decide (PySem.W.exmOne K (.ref (He.ga K "NoShares")) (.ref (He.ga K "NoOrder")) = some false), decide (PySem.W.exmOne K (.ref (He.ga K "NoShares")) (.ref (He.ga K "NoSet")) = some false), decide (PySem.W.exmOne K (.ref (He.ga K "NoShares")) (.ref (He.ga K "NoShares")) = some true)] : List Bool)[i]? = some b → b = true := fun i b e => allB_ok p2 i e
  exact {
    k_MOST_LAID := He.int_ok X G (fc 77 rfl)
    k_MOST_OUT_OF := He.int_ok X G (fc 78 rfl)
    k_MOST_RANKED := He.int_ok X G (fc 79 rfl)
    k_MOST_SHARE := He.int_ok X G (fc 80 rfl)
    k_MOST_SHARES := He.int_ok X G (fc 81 rfl)
    g_is_whole := He.glo_ok X G (fc 0 rfl)
    F_is_whole := c.def_ 0 rfl
    g_is_within := He.glo_ok X G (fc 1 rfl)
    F_is_within := c.def_ 1 rfl
    g_is_row := He.glo_ok X G (fc 2 rfl)
    F_is_row := c.def_ 2 rfl
    g_is_order := He.glo_ok X G (fc 3 rfl)
    F_is_order := c.def_ 3 rfl
    g_need_order := He.glo_ok X G (fc 4 rfl)
    F_need_order := c.def_ 4 rfl
    g_exchange := He.glo_ok X G (fc 5 rfl)
    F_exchange := c.def_ 5 rfl
    g_products_to := He.glo_ok X G (fc 6 rfl)
    F_products_to := c.def_ 6 rfl
    g_orders_many := He.glo_ok X G (fc 7 rfl)
    F_orders_many := c.def_ 7 rfl
    g_order_at := He.glo_ok X G (fc 8 rfl)
    F_order_at := c.def_ 8 rfl
    g_order_rank := He.glo_ok X G (fc 9 rfl)
    F_order_rank := c.def_ 9 rfl
    g_next_order := He.glo_ok X G (fc 10 rfl)
    F_next_order := c.def_ 10 rfl
    g_laid := He.glo_ok X G (fc 11 rfl)
    F_laid := c.def_ 11 rfl
    g_turned_order := He.glo_ok X G (fc 12 rfl)
    F_turned_order := c.def_ 12 rfl
    g_by_numbers := He.glo_ok X G (fc 13 rfl)
    F_by_numbers := c.def_ 13 rfl
    g_numbers_by := He.glo_ok X G (fc 14 rfl)
    F_numbers_by := c.def_ 14 rfl
    g_need_many := He.glo_ok X G (fc 15 rfl)
    F_need_many := c.def_ 15 rfl
    g_ways := He.glo_ok X G (fc 16 rfl)
    F_ways := c.def_ 16 rfl
    g_sets_many := He.glo_ok X G (fc 17 rfl)
    F_sets_many := c.def_ 17 rfl
    g_set_at := He.glo_ok X G (fc 18 rfl)
    F_set_at := c.def_ 18 rfl
    g_is_set := He.glo_ok X G (fc 19 rfl)
    F_is_set := c.def_ 19 rfl
    g_need_set := He.glo_ok X G (fc 20 rfl)
    F_need_set := c.def_ 20 rfl
    g_set_rank := He.glo_ok X G (fc 21 rfl)
    F_set_rank := c.def_ 21 rfl
    g_next_set := He.glo_ok X G (fc 22 rfl)
    F_next_set := c.def_ 22 rfl
    g_need_shares := He.glo_ok X G (fc 23 rfl)
    F_need_shares := c.def_ 23 rfl
    g_shares_many := He.glo_ok X G (fc 24 rfl)
    F_shares_many := c.def_ 24 rfl
    g_parted_at := He.glo_ok X G (fc 25 rfl)
    F_parted_at := c.def_ 25 rfl
    g_share_at := He.glo_ok X G (fc 26 rfl)
    F_share_at := c.def_ 26 rfl
    g_rest_in := He.glo_ok X G (fc 27 rfl)
    F_rest_in := c.def_ 27 rfl
    g_first_of := He.glo_ok X G (fc 28 rfl)
    F_first_of := c.def_ 28 rfl
    g_number_of := He.glo_ok X G (fc 29 rfl)
    F_number_of := c.def_ 29 rfl
    g__law_cell := He.glo_ok X G (fc 30 rfl)
    F__law_cell := c.def_ 30 rfl
    g__law_well := He.glo_ok X G (fc 31 rfl)
    F__law_well := c.def_ 31 rfl
    g__law_draw := He.glo_ok X G (fc 32 rfl)
    F__law_draw := c.def_ 32 rfl
    g__law_order := He.glo_ok X G (fc 33 rfl)
    F__law_order := c.def_ 33 rfl
    g__law_bad_number := He.glo_ok X G (fc 34 rfl)
    F__law_bad_number := c.def_ 34 rfl
    g__law_bad_order := He.glo_ok X G (fc 35 rfl)
    F__law_bad_order := c.def_ 35 rfl
    g__law_bad_set := He.glo_ok X G (fc 36 rfl)
    F__law_bad_set := c.def_ 36 rfl
    g__law_bad_shares := He.glo_ok X G (fc 37 rfl)
    F__law_bad_shares := c.def_ 37 rfl
    g__law_called := He.glo_ok X G (fc 38 rfl)
    F__law_called := c.def_ 38 rfl
    g__law_called_else := He.glo_ok X G (fc 39 rfl)
    F__law_called_else := c.def_ 39 rfl
    g__law_told := He.glo_ok X G (fc 40 rfl)
    F__law_told := c.def_ 40 rfl
    g__law_very := He.glo_ok X G (fc 41 rfl)
    F__law_very := c.def_ 41 rfl
    g__law_is := He.glo_ok X G (fc 42 rfl)
    F__law_is := c.def_ 42 rfl
    g__law_orders_right := He.glo_ok X G (fc 43 rfl)
    F__law_orders_right := c.def_ 43 rfl
    g__law_numbers_right := He.glo_ok X G (fc 44 rfl)
    F__law_numbers_right := c.def_ 44 rfl
    g__law_sets_right := He.glo_ok X G (fc 45 rfl)
    F__law_sets_right := c.def_ 45 rfl
    g__law_shares_right := He.glo_ok X G (fc 46 rfl)
    F__law_shares_right := c.def_ 46 rfl
    g_law := He.glo_ok X G (fc 47 rfl)
    F_law := c.def_ 47 rfl
    g_SeedError := He.glo_ok X G (fc 48 rfl)
    g_NoNumber := He.glo_ok X G (fc 49 rfl)
    g_NoOrder := He.glo_ok X G (fc 50 rfl)
    g_NoSet := He.glo_ok X G (fc 51 rfl)
    g_NoShares := He.glo_ok X G (fc 52 rfl)
    n_all := He.free_ok X G (fc 53 rfl)
    n_bool := He.free_ok X G (fc 54 rfl)
    n_dict := He.free_ok X G (fc 55 rfl)
    n_divmod := He.free_ok X G (fc 56 rfl)
    n_enumerate := He.free_ok X G (fc 57 rfl)
    n_int := He.free_ok X G (fc 58 rfl)
    n_isinstance := He.free_ok X G (fc 59 rfl)
    n_len := He.free_ok X G (fc 60 rfl)
    n_list := He.free_ok X G (fc 61 rfl)
    n_max := He.free_ok X G (fc 62 rfl)
    n_min := He.free_ok X G (fc 63 rfl)
    n_range := He.free_ok X G (fc 64 rfl)
    n_reversed := He.free_ok X G (fc 65 rfl)
    n_str := He.free_ok X G (fc 66 rfl)
    n_sum := He.free_ok X G (fc 67 rfl)
    n_tuple := He.free_ok X G (fc 68 rfl)
    x_NoNumber := exB_ok (ec 0 rfl)
    a_NoNumber_found := He.noat_ok (fc 69 rfl)
    m_NoNumber := He.meth_ok (fc 73 rfl)
    I_NoNumber := c.def_ 48 rfl
    x_NoOrder := exB_ok (ec 1 rfl)
    a_NoOrder_found := He.noat_ok (fc 70 rfl)
    m_NoOrder := He.meth_ok (fc 74 rfl)
    I_NoOrder := c.def_ 49 rfl
    x_NoSet := exB_ok (ec 2 rfl)
    a_NoSet_found := He.noat_ok (fc 71 rfl)
    m_NoSet := He.meth_ok (fc 75 rfl)
    I_NoSet := c.def_ 50 rfl
    x_NoShares := exB_ok (ec 3 rfl)
    a_NoShares_found := He.noat_ok (fc 72 rfl)
    m_NoShares := He.meth_ok (fc 76 rfl)
    I_NoShares := c.def_ 51 rfl
    i0 := iniB_ok (ec 4 rfl)
    kit_NoNumber_NoOrder := of_decide_eq_true (ec 5 rfl)
    kit_NoNumber_NoSet := of_decide_eq_true (ec 6 rfl)
    kit_NoNumber_NoShares := of_decide_eq_true (ec 7 rfl)
    kit_NoOrder_NoNumber := of_decide_eq_true (ec 8 rfl)
    kit_NoOrder_NoSet := of_decide_eq_true (ec 9 rfl)
    kit_NoOrder_NoShares := of_decide_eq_true (ec 10 rfl)
    kit_NoSet_NoNumber := of_decide_eq_true (ec 11 rfl)
    kit_NoSet_NoOrder := of_decide_eq_true (ec 12 rfl)
    kit_NoSet_NoShares := of_decide_eq_true (ec 13 rfl)
    kit_NoShares_NoNumber := of_decide_eq_true (ec 14 rfl)
    kit_NoShares_NoOrder := of_decide_eq_true (ec 15 rfl)
    kit_NoShares_NoSet := of_decide_eq_true (ec 16 rfl)
    exm_NoNumber_NoNumber := of_decide_eq_true (ec 17 rfl)
    exm_NoNumber_NoOrder := of_decide_eq_true (ec 18 rfl)
    exm_NoNumber_NoSet := of_decide_eq_true (ec 19 rfl)
    exm_NoNumber_NoShares := of_decide_eq_true (ec 20 rfl)
    exm_NoOrder_NoNumber := of_decide_eq_true (ec 21 rfl)
    exm_NoOrder_NoOrder := of_decide_eq_true (ec 22 rfl)
    exm_NoOrder_NoSet := of_decide_eq_true (ec 23 rfl)
    exm_NoOrder_NoShares := of_decide_eq_true (ec 24 rfl)
    exm_NoSet_NoNumber := of_decide_eq_true (ec 25 rfl)
    exm_NoSet_NoOrder := of_decide_eq_true (ec 26 rfl)
    exm_NoSet_NoSet := of_decide_eq_true (ec 27 rfl)
    exm_NoSet_NoShares := of_decide_eq_true (ec 28 rfl)
    exm_NoShares_NoNumber := of_decide_eq_true (ec 29 rfl)
    exm_NoShares_NoOrder := of_decide_eq_true (ec 30 rfl)
    exm_NoShares_NoSet := of_decide_eq_true (ec 31 rfl)
    exm_NoShares_NoShares := of_decide_eq_true (ec 32 rfl)
  }
theorem ex_NoNumber {P : Program} {w : World} {K : Fg} {mg : Str → Option Value} {base : Heap} (T : Tx K mg w) : Exn P w K mg base "NoNumber" "found" := by
  obtain ⟨fd, F⟩ := T.I_NoNumber
  exact exn_mk T.g_NoNumber T.x_NoNumber T.a_NoNumber_found T.m_NoNumber F ⟨rfl, rfl, rfl, by decide +kernel, rfl, by decide +kernel, by decide +kernel⟩ rfl rfl rfl rfl (by decide) (by decide) rfl T.i0 T.g_SeedError (fun _ _ _ _ _ _ us hl => match us, hl with | [_, _], _ => rfl)
theorem ex_NoOrder {P : Program} {w : World} {K : Fg} {mg : Str → Option Value} {base : Heap} (T : Tx K mg w) : Exn P w K mg base "NoOrder" "found" := by
  obtain ⟨fd, F⟩ := T.I_NoOrder
  exact exn_mk T.g_NoOrder T.x_NoOrder T.a_NoOrder_found T.m_NoOrder F ⟨rfl, rfl, rfl, by decide +kernel, rfl, by decide +kernel, by decide +kernel⟩ rfl rfl rfl rfl (by decide) (by decide) rfl T.i0 T.g_SeedError (fun _ _ _ _ _ _ us hl => match us, hl with | [_, _], _ => rfl)
theorem ex_NoSet {P : Program} {w : World} {K : Fg} {mg : Str → Option Value} {base : Heap} (T : Tx K mg w) : Exn P w K mg base "NoSet" "found" := by
  obtain ⟨fd, F⟩ := T.I_NoSet
  exact exn_mk T.g_NoSet T.x_NoSet T.a_NoSet_found T.m_NoSet F ⟨rfl, rfl, rfl, by decide +kernel, rfl, by decide +kernel, by decide +kernel⟩ rfl rfl rfl rfl (by decide) (by decide) rfl T.i0 T.g_SeedError (fun _ _ _ _ _ _ us hl => match us, hl with | [_, _], _ => rfl)
theorem ex_NoShares {P : Program} {w : World} {K : Fg} {mg : Str → Option Value} {base : Heap} (T : Tx K mg w) : Exn P w K mg base "NoShares" "found" := by
  obtain ⟨fd, F⟩ := T.I_NoShares
  exact exn_mk T.g_NoShares T.x_NoShares T.a_NoShares_found T.m_NoShares F ⟨rfl, rfl, rfl, by decide +kernel, rfl, by decide +kernel, by decide +kernel⟩ rfl rfl rfl rfl (by decide) (by decide) rfl T.i0 T.g_SeedError (fun _ _ _ _ _ _ us hl => match us, hl with | [_, _], _ => rfl)
/-! ### the promises -/
def Well (H : Hp) (p : Addr) : Prop := ∃ x0 x1 x2 : Int, H p = some (.lst [.int x0, .int x1, .int x2])
/-- the heap without the well -/
def wo (p : Addr) (H : Hp) : Hp := fun a => if a = p then none else H a
theorem wo_same {p : Addr} {H : Hp} : Same (wo p H) H := fun a o e => by
  unfold wo at e
  split at e
  · cases e
  · exact e
theorem wo_at {p a : Addr} {H : Hp} (n : a ≠ p) : wo p H a = H a := by
  unfold wo
  rw [if_neg n]
/-- behind draws: the well is one, all else stays -/
def Wl (p : Addr) (H H' : Hp) : Prop := Well H' p ∧ Same (wo p H) (wo p H')
theorem Wl.refl {p : Addr} {H : Hp} (h : Well H p) : Wl p H H := ⟨h, fun _ _ e => e⟩
theorem Wl.trans {p : Addr} {H H1 H2 : Hp} (a : Wl p H H1) (b : Wl p H1 H2) : Wl p H H2 := ⟨b.1, Same.trans a.2 b.2⟩
theorem Well.ne {H : Hp} {p a : Addr} {o : HO} (h : Well H p) (e : H a = some o) (n : ∀ x0 x1 x2 : Int, o ≠ .lst [.int x0, .int x1, .int x2]) : a ≠ p := fun z => by
  subst z
  obtain ⟨x0, x1, x2, h⟩ := h
  rw [e] at h
  exact n _ _ _ (Option.some.inj h)
theorem Wl.of_same {p : Addr} {H H' : Hp} (h : Well H p) (s : Same H H') : Wl p H H' := by
  obtain ⟨x0, x1, x2, e⟩ := h
  refine ⟨⟨x0, x1, x2, s _ _ e⟩, fun a o z => ?_⟩
  unfold wo at z ⊢
  split at z
  · cases z
  · rename_i n
    rw [if_neg n]
    exact s _ _ z
theorem Wl.at {p a : Addr} {H H' : Hp} {o : HO} (w : Wl p H H') (n : a ≠ p) (e : H a = some o) : H' a = some o := wo_same _ _ (w.2 a o (by rw [wo_at n]; exact e))
/-- a list or a tuple at a place -/
def Sq (H : Hp) (v : V) (xs : List V) : Prop := ∃ p o, v = .ref p ∧ H p = some o ∧ seqO o = some xs
theorem Sq.same {H H' : Hp} (s : Same H H') {v : V} {xs : List V} (h : Sq H v xs) : Sq H' v xs := by
  obtain ⟨p, o, e, h, k⟩ := h
  exact ⟨p, o, e, s _ _ h, k⟩
def TyA (H : Hp) (x : V) : Prop := ∃ n, tyN H x = some n
theorem TyA.same {H H' : Hp} (s : Same H H') {v : V} (h : TyA H v) : TyA H' v := h.imp fun _ e => tyN_same s e
def ordL (xs : List V) : Bool := decide (xs.length ≤ 60 ∧ (∀ x ∈ xs, within x 0 ((xs.length : Int) - 1) = true) ∧ xs.Nodup)
def NoSeq (H : Hp) (v : V) : Prop := isB H v "list" = some false ∧ isB H v "tuple" = some false
theorem NoSeq.same {H H' : Hp} (s : Same H H') {v : V} (h : NoSeq H v) : NoSeq H' v := ⟨isB_same s h.1, isB_same s h.2⟩
/-- a thing judged: as a row of typed things, or as no row -/
def Jd (f : List V → Bool) (H : Hp) (v : V) (b : Bool) : Prop := (∃ xs, Sq H v xs ∧ (∀ x ∈ xs, TyA H x) ∧ b = f xs) ∨ (NoSeq H v ∧ b = false)
theorem Jd.same {f : List V → Bool} {H H' : Hp} (s : Same H H') {v : V} {b : Bool} (h : Jd f H v b) : Jd f H' v b := by
  rcases h with ⟨xs, h, t, e⟩ | ⟨h, e⟩
  · exact .inl ⟨xs, h.same s, fun x hx => (t x hx).same s, e⟩
  · exact .inr ⟨h.same s, e⟩
def OrdIs (H : Hp) (v : V) (b : Bool) : Prop := Jd ordL H v b
def setL (m : Int) : Int → List V → Bool
  | _, [] => true
  | a, .int z :: r => decide (a + 1 ≤ z ∧ z ≤ m - 1) && setL m z r
  | _, _ :: _ => false
def SetIs (m : Int) (H : Hp) (v : V) (b : Bool) : Prop := Jd (setL m (-1)) H v b
def numV : V → Int
  | .int z => z
  | _ => 0
def shL (xs : List V) : Bool := decide (1 ≤ xs.length ∧ xs.length ≤ 60) && (decide (∀ x ∈ xs, within x 0 1000000 = true) && decide ((xs.map numV).sum ≠ 0))
def ShIs (H : Hp) (v : V) (b : Bool) : Prop := Jd shL H v b
def fac : Nat → Int
  | 0 => 1
  | n + 1 => fac n * ((n : Int) + 1)
def wl (n : Nat) : Nat → Int
  | 0 => 1
  | k + 1 => wl n k * ((n : Int) - k) / ((k : Int) + 1)
def wys (n k : Nat) : Int := if n < k then 0 else wl n k
/-- what the law finds at a door: None is let by -/
inductive Dor (H : Hp) : Str → List V → Option (Str × V) → Prop
  | orders {m : V} {r : List V} : TyA H m → within m 0 20 = false → Dor H "orders" (m :: r) (some ("NoNumber", m))
  | at1 {m x : V} {r : List V} : TyA H m → TyA H x → within m 0 20 = false → Dor H "at" (m :: x :: r) (some ("NoNumber", m))
  | at2 {k : Nat} {x : V} {r : List V} : k ≤ 20 → TyA H x → within x 0 (fac k - 1) = false → Dor H "at" (.int (k : Int) :: x :: r) (some ("NoNumber", x))
  | at3 {k : Nat} {r : List V} : k ≤ 20 → Dor H "at" (.int (k : Int) :: .int 0 :: r) none
  | rank {x : V} {b : Bool} {r : List V} : OrdIs H x b → (b = true → ∃ xs, Sq H x xs ∧ 20 < xs.length) → Dor H "rank" (x :: r) (some ("NoOrder", x))
  | next1 {x : V} {r : List V} : OrdIs H x false → Dor H "next" (x :: r) (some ("NoOrder", x))
  | next2 {x : V} {r : List V} : OrdIs H x true → Dor H "next" (x :: r) none
  | laid {w x : V} {ys : List V} {b : Bool} {r : List V} : Sq H w ys → OrdIs H x b → (b = true → ∃ xs, Sq H x xs ∧ xs.length ≠ ys.length) → Dor H "laid" (w :: x :: r) (some ("NoOrder", x))
  | turned {x : V} {r : List V} : OrdIs H x false → Dor H "turned" (x :: r) (some ("NoOrder", x))
  | by1 {x : V} {r : List V} : NoSeq H x → Dor H "by" (x :: r) (some ("NoNumber", x))
  | by2 {x : V} {xs : List V} {r : List V} : Sq H x xs → 60 ≤ xs.length → Dor H "by" (x :: r) (some ("NoNumber", x))
  | by3 {p : Addr} {y : V} {xs : List V} {i : Nat} {r : List V} : H p = some (.lst xs) → xs.length < 60 → (∀ z ∈ xs, TyA H z) → xs[i]? = some y → (∀ (j : Nat) (z : V), j < i → xs[j]? = some z → within z 0 ((xs.length : Int) - j) = true) → within y 0 ((xs.length : Int) - i) = false → Dor H "by" (.ref p :: r) (some ("NoNumber", y))
  | by4 {p : Addr} {xs : List V} {r : List V} : H p = some (.lst xs) → xs.length < 60 → (∀ (j : Nat) (z : V), xs[j]? = some z → within z 0 ((xs.length : Int) - j) = true) → Dor H "by" (.ref p :: r) none
  | back {x : V} {b : Bool} {r : List V} : OrdIs H x b → (b = true → Sq H x []) → Dor H "back" (x :: r) (some ("NoOrder", x))
inductive Dor2 (H : Hp) : Str → List V → Option (Str × V) → Prop
  | sets1 {m x : V} {r : List V} : TyA H m → TyA H x → within m 0 60 = false → Dor2 H "sets" (m :: x :: r) (some ("NoNumber", m))
  | sets2 {n : Nat} {x : V} {r : List V} : n ≤ 60 → TyA H x → within x 0 60 = false → Dor2 H "sets" (.int (n : Int) :: x :: r) (some ("NoNumber", x))
  | set1 {m x y : V} {r : List V} : TyA H m → TyA H x → TyA H y → within m 0 60 = false → Dor2 H "set" (m :: x :: y :: r) (some ("NoNumber", m))
  | set2 {n : Nat} {x y : V} {r : List V} : n ≤ 60 → TyA H x → TyA H y → within x 0 60 = false → Dor2 H "set" (.int (n : Int) :: x :: y :: r) (some ("NoNumber", x))
  | set3 {n k : Nat} {y : V} {r : List V} : n ≤ 60 → k ≤ 60 → TyA H y → within y 0 (wys n k - 1) = false → Dor2 H "set" (.int (n : Int) :: .int (k : Int) :: y :: r) (some ("NoNumber", y))
  | set4 {n k : Nat} {r : List V} : n ≤ 60 → k ≤ n → Dor2 H "set" (.int (n : Int) :: .int (k : Int) :: .int 0 :: r) none
  | srank1 {m x : V} {r : List V} : TyA H m → within m 0 60 = false → Dor2 H "set rank" (m :: x :: r) (some ("NoNumber", m))
  | srank2 {n : Nat} {x : V} {r : List V} : n ≤ 60 → SetIs n H x false → Dor2 H "set rank" (.int (n : Int) :: x :: r) (some ("NoSet", x))
  | snext1 {m x : V} {r : List V} : TyA H m → within m 0 60 = false → Dor2 H "set next" (m :: x :: r) (some ("NoNumber", m))
  | snext2 {n : Nat} {x : V} {r : List V} : n ≤ 60 → SetIs n H x false → Dor2 H "set next" (.int (n : Int) :: x :: r) (some ("NoSet", x))
  | shares {x : V} {r : List V} : ShIs H x false → Dor2 H "shares" (x :: r) (some ("NoShares", x))
  | share1 {x y : V} {r : List V} : ShIs H x false → Dor2 H "share" (x :: y :: r) (some ("NoShares", x))
  | share2 {x y : V} {ns : List Int} {r : List V} : ShIs H x true → Sq H x (ns.map V.int) → TyA H y → within y 0 (ns.sum - 1) = false → Dor2 H "share" (x :: y :: r) (some ("NoNumber", y))
  | share3 {x : V} {z : Int} {ns : List Int} {r : List V} : ShIs H x true → Sq H x (ns.map V.int) → 0 ≤ z → z < ns.sum → Dor2 H "share" (x :: .int z :: r) none
  | rest1 {x y : V} {r : List V} : ShIs H x false → Dor2 H "rest" (x :: y :: r) (some ("NoShares", x))
  | rest2 {x y : V} {ns : List Int} {r : List V} : ShIs H x true → Sq H x (ns.map V.int) → TyA H y → within y 0 (ns.sum - 1) = false → Dor2 H "rest" (x :: y :: r) (some ("NoNumber", y))
  | first1 {x y : V} {r : List V} : ShIs H x false → Dor2 H "first" (x :: y :: r) (some ("NoShares", x))
  | first2 {x y : V} {ns : List Int} {r : List V} : ShIs H x true → Sq H x (ns.map V.int) → TyA H y → within y 0 ((ns.length : Int) - 1) = false → Dor2 H "first" (x :: y :: r) (some ("NoNumber", y))
  | first3 {p : Addr} {k : Nat} {ns : List Int} {r : List V} : ShIs H (.ref p) true → H p = some (.lst (ns.map V.int)) → k < ns.length → Dor2 H "first" (.ref p :: .int (k : Int) :: r) none
  | number1 {x y z : V} {r : List V} : ShIs H x false → Dor2 H "number" (x :: y :: z :: r) (some ("NoShares", x))
  | number2 {x y z : V} {ns : List Int} {r : List V} : ShIs H x true → Sq H x (ns.map V.int) → TyA H y → within y 0 ((ns.length : Int) - 1) = false → Dor2 H "number" (x :: y :: z :: r) (some ("NoNumber", y))
  | number3 {p : Addr} {z : V} {k : Nat} {n : Int} {ns : List Int} {r : List V} : ShIs H (.ref p) true → H p = some (.lst (ns.map V.int)) → ns[k]? = some n → TyA H z → within z 0 (n - 1) = false → Dor2 H "number" (.ref p :: .int (k : Int) :: z :: r) (some ("NoNumber", z))
/-- refused: the error, made of the very thing -/
def Ref (K : Fg) (H : Hp) (c : Str) (x : V) (E : XK) : Prop := ∀ H' d, Same H H' → H' d = none → E (.ref (He.ga K c)) (some d) (upd H' d (.xd [("found", x)]))
def Out (K : Fg) (H : Hp) (Q : VK) (E : XK) : Option (Str × V) → Prop
  | none => ∀ v H', Same H H' → Q v H'
  | some (c, x) => Ref K H c x E
theorem Ref.same {K : Fg} {H H' : Hp} {c : Str} {x : V} {E : XK} (s : Same H H') (h : Ref K H c x E) : Ref K H' c x E := fun H2 d t n => h H2 d (Same.trans s t) n
def sp_is_whole (_ : Fg) : Sp := sp1 fun x H Q _ => TyA H x ∧ Q (.bl (whole x)) H
def sp_is_within (_ : Fg) : Sp := sp3 fun x lo hi H Q _ => ∃ l h, lo = .int l ∧ hi = .int h ∧ TyA H x ∧ Q (.bl (within x l h)) H
def sp_is_row (_ : Fg) : Sp := sp1 fun x H Q _ => ∃ a b, isB H x "list" = some a ∧ isB H x "tuple" = some b ∧ ∀ H', Same H H' → Q (.bl (a || b)) H'
def sp_is_order (_ : Fg) : Sp := sp1 fun x H Q _ => ∃ b, OrdIs H x b ∧ ∀ H', Same H H' → Q (.bl b) H'
def sp_need_order (K : Fg) : Sp := sp1 fun x H Q E => ∃ b, OrdIs H x b ∧ (b = true → ∀ H', Same H H' → Q .non H') ∧ (b = false → Ref K H "NoOrder" x E)
def sp_exchange (_ : Fg) : Sp := sp3 fun r i j H Q _ => ∃ (p : Addr) (xs : List V) (a b : Nat) (x y : V), r = .ref p ∧ H p = some (.lst xs) ∧ i = .int (a : Int) ∧ j = .int (b : Int) ∧ xs[a]? = some x ∧ xs[b]? = some y ∧ Q .non (upd H p (.lst ((xs.set a y).set b x)))
def sp_products_to (_ : Fg) : Sp := sp1 fun m H Q _ => ∃ n : Nat, m = .int (n : Int) ∧ n ≤ 60 ∧ ∀ p H', Same H H' → H p = none → H' p = some (.lst ((List.range (n + 1)).map fun j => V.int (fac j))) → Q (.ref p) H'
def sp_orders_many (K : Fg) : Sp := sp1 fun m H Q E => (∃ o, Dor H "orders" [m] o ∧ Out K H Q E o) ∨ ∃ k : Nat, m = .int (k : Int) ∧ k ≤ 20 ∧ ∀ H', Same H H' → Q (.int (fac k)) H'
def sp_order_at (K : Fg) : Sp := sp2 fun m x H Q E => ∃ o, Dor H "at" [m, x] o ∧ Out K H Q E o
def sp_order_rank (K : Fg) : Sp := sp1 fun x H Q E => ∃ o, Dor H "rank" [x] o ∧ Out K H Q E o
def sp_next_order (K : Fg) : Sp := sp1 fun x H Q E => ∃ o, Dor H "next" [x] o ∧ Out K H Q E o
def sp_laid (K : Fg) : Sp := sp2 fun w x H Q E => ∃ o, Dor H "laid" [w, x] o ∧ Out K H Q E o
def sp_turned_order (K : Fg) : Sp := sp1 fun x H Q E => ∃ o, Dor H "turned" [x] o ∧ Out K H Q E o
def sp_by_numbers (K : Fg) : Sp := sp1 fun x H Q E => ∃ o, Dor H "by" [x] o ∧ Out K H Q E o
def sp_numbers_by (K : Fg) : Sp := sp1 fun x H Q E => ∃ o, Dor H "back" [x] o ∧ Out K H Q E o
def sp_need_many (K : Fg) : Sp := sp1 fun m H Q E => TyA H m ∧ (within m 0 60 = true → Q .non H) ∧ (within m 0 60 = false → Ref K H "NoNumber" m E)
def sp_ways (_ : Fg) : Sp := sp2 fun a b H Q _ => ∃ n k : Nat, a = .int (n : Int) ∧ b = .int (k : Int) ∧ n ≤ 60 ∧ k ≤ 60 ∧ Q (.int (wys n k)) H
def sp_sets_many (K : Fg) : Sp := sp2 fun m x H Q E => (∃ o, Dor2 H "sets" [m, x] o ∧ Out K H Q E o) ∨ ∃ n k : Nat, m = .int (n : Int) ∧ x = .int (k : Int) ∧ n ≤ 60 ∧ k ≤ 60 ∧ Q (.int (wys n k)) H
def sp_set_at (K : Fg) : Sp := sp3 fun m x y H Q E => ∃ o, Dor2 H "set" [m, x, y] o ∧ Out K H Q E o
def sp_is_set (_ : Fg) : Sp := sp2 fun m x H Q _ => ∃ (n : Int) (b : Bool), m = .int n ∧ SetIs n H x b ∧ ∀ H', Same H H' → Q (.bl b) H'
def sp_need_set (K : Fg) : Sp := sp2 fun m x H Q E => (TyA H m ∧ within m 0 60 = false ∧ Ref K H "NoNumber" m E) ∨ ∃ n : Nat, m = .int (n : Int) ∧ n ≤ 60 ∧ SetIs n H x false ∧ Ref K H "NoSet" x E
def sp_set_rank (K : Fg) : Sp := sp2 fun m x H Q E => ∃ o, Dor2 H "set rank" [m, x] o ∧ Out K H Q E o
def sp_next_set (K : Fg) : Sp := sp2 fun m x H Q E => ∃ o, Dor2 H "set next" [m, x] o ∧ Out K H Q E o
def sp_need_shares (K : Fg) : Sp := sp1 fun x H Q E => ∃ b, ShIs H x b ∧ (b = true → ∀ H', Same H H' → Q .non H') ∧ (b = false → Ref K H "NoShares" x E)
def sp_shares_many (K : Fg) : Sp := sp1 fun x H Q E => (∃ o, Dor2 H "shares" [x] o ∧ Out K H Q E o) ∨ ∃ ns : List Int, ShIs H x true ∧ Sq H x (ns.map V.int) ∧ ∀ H', Same H H' → Q (.int ns.sum) H'
def sp_parted_at (K : Fg) : Sp := sp2 fun x y H Q E => (∃ c v, Dor2 H "share" [x, y] (some (c, v)) ∧ Ref K H c v E) ∨ (Dor2 H "share" [x, y] none ∧ ∀ a b p H', Same H H' → H' p = some (.tup [.int a, .int b]) → Q (.ref p) H')
def sp_share_at (K : Fg) : Sp := sp2 fun x y H Q E => ∃ o, Dor2 H "share" [x, y] o ∧ Out K H Q E o
def sp_rest_in (K : Fg) : Sp := sp2 fun x y H Q E => ∃ o, Dor2 H "rest" [x, y] o ∧ Out K H Q E o
def sp_first_of (K : Fg) : Sp := sp2 fun x y H Q E => (∃ c v, Dor2 H "first" [x, y] (some (c, v)) ∧ Ref K H c v E) ∨ (Dor2 H "first" [x, y] none ∧ ∀ z H', Same H H' → Q (.int z) H')
def sp_number_of (K : Fg) : Sp := sp3 fun x y z H Q E => ∃ o, Dor2 H "number" [x, y, z] o ∧ Out K H Q E o
/-! the law's own -/
def sp__law_cell (K : Fg) : Sp := sp2 fun s k H Q _ => ∃ (a : Addr) (ns : List Int) (i : Nat), s = .ref a ∧ SqL K H a (ns.map V.int) ∧ k = .int (i : Int) ∧ ns.length ≤ 1000 ∧ ∀ z, Q (.int z) H
def sp__law_well (_ : Fg) : Sp := sp1 fun c H Q _ => ∃ z : Int, c = .int z ∧ ∀ p H', Same H H' → H p = none → Well H' p → Q (.ref p) H'
def sp__law_draw (_ : Fg) : Sp := sp2 fun b m H Q _ => ∃ (p : Addr) (n : Int), b = .ref p ∧ Well H p ∧ m = .int n ∧ 0 < n ∧ n < 2 ^ 64 ∧ ∀ r H', 0 ≤ r → r < n → Well H' p → (∀ a, a ≠ p → H' a = H a) → Q (.int r) H'
def sp__law_order (_ : Fg) : Sp := sp2 fun b m H Q _ => ∃ (p : Addr) (n : Nat), b = .ref p ∧ Well H p ∧ m = .int (n : Int) ∧ n ≤ 100 ∧ ∀ l ms H', Wl p H H' → H l = none → H' l = some (.lst ms) → ms.Perm ((List.range n).map fun j : Nat => V.int (j : Int)) → Q (.ref l) H'
def BadN (G : Hp) (l : Int) (v : V) : Prop := Nice G v ∧ ∀ z, v = .int z → z < 0 ∨ l < z
def sp__law_bad_number (_ : Fg) : Sp := sp2 fun b m H Q _ => ∃ (p : Addr) (l : Int), b = .ref p ∧ Well H p ∧ m = .int l ∧ -1 ≤ l ∧ l < 10 ^ 28 ∧ ∀ v H', Wl p H H' → BadN (wo p H') l v → Q v H'
def sp__law_bad_order (_ : Fg) : Sp := sp1 fun b H Q _ => ∃ p : Addr, b = .ref p ∧ Well H p ∧ ∀ v H', Wl p H H' → Nice (wo p H') v → OrdIs (wo p H') v false → Q v H'
def sp__law_bad_set (_ : Fg) : Sp := sp2 fun b m H Q _ => ∃ (p : Addr) (n : Nat), b = .ref p ∧ Well H p ∧ m = .int (n : Int) ∧ ∀ v H', Wl p H H' → Nice (wo p H') v → SetIs n (wo p H') v false → Q v H'
def sp__law_bad_shares (_ : Fg) : Sp := sp1 fun b H Q _ => ∃ p : Addr, b = .ref p ∧ Well H p ∧ ∀ v H', Wl p H H' → Nice (wo p H') v → ShIs (wo p H') v false → Q v H'
def sp__law_called (K : Fg) : Sp := sp2 fun d t H Q E => ∃ (ds : Str) (a : Addr) (xs : List V) (o : Option (Str × V)), d = .str ds ∧ t = .ref a ∧ H a = some (.lst xs) ∧ Dor H ds xs o ∧ Out K H Q E o
def sp__law_called_else (K : Fg) : Sp := sp2 fun d t H Q E => ∃ (ds : Str) (a : Addr) (xs : List V) (o : Option (Str × V)), d = .str ds ∧ t = .ref a ∧ H a = some (.lst xs) ∧ Dor2 H ds xs o ∧ Out K H Q E o
def DorA (H : Hp) (t : V) (ds : Str) (o : Option (Str × V)) : Prop := ∃ (a : Addr) (xs : List V), t = .ref a ∧ H a = some (.lst xs) ∧ (Dor H ds xs o ∨ Dor2 H ds xs o)
def told : Option (Str × V) → List V
  | none => [.str "let by", .non, .bl false]
  | some (c, x) => [.str (if c = "NoNumber" then "number" else if c = "NoOrder" then "order" else if c = "NoSet" then "set" else "shares"), x, .bl false]
def sp__law_told (_ : Fg) : Sp := sp2 fun d t H Q _ => ∃ (ds : Str) (o : Option (Str × V)), d = .str ds ∧ DorA H t ds o ∧ ∀ p H', Same H H' → H' p = some (.tup (told o)) → Q (.ref p) H'
def Twin (H : Hp) (x y : V) : Prop := (x = y ∧ Nice H x) ∨ ∃ a b, x = .ref a ∧ y = .ref b ∧ H a = some (.tup []) ∧ H b = some (.tup [])
theorem Twin.same {H H' : Hp} (s : Same H H') {x y : V} (h : Twin H x y) : Twin H' x y := by
  rcases h with ⟨e, h⟩ | ⟨a, b, e1, e2, h1, h2⟩
  · exact .inl ⟨e, h.same s⟩
  · exact .inr ⟨a, b, e1, e2, s _ _ h1, s _ _ h2⟩
def sp__law_very (_ : Fg) : Sp := sp2 fun x y H Q _ => Twin H x y ∧ ∀ H', Same H H' → Q (.bl true) H'
def sp__law_is (_ : Fg) : Sp := sp4 fun d t w x H Q _ => ∃ (ds ws : Str) (o : Option (Str × V)) (y : V), d = .str ds ∧ w = .str ws ∧ DorA H t ds o ∧ told o = [.str ws, y, .bl false] ∧ (ws = "let by" ∨ Twin H y x) ∧ ∀ H', Same H H' → Q (.bl true) H'
def sp__law_orders_right (_ : Fg) : Sp := sp1 fun b H Q _ => ∃ p : Addr, b = .ref p ∧ Well H p ∧ ∀ H', Wl p H H' → Q (.bl true) H'
def sp__law_numbers_right (_ : Fg) : Sp := sp1 fun b H Q _ => ∃ p : Addr, b = .ref p ∧ Well H p ∧ ∀ H', Wl p H H' → Q (.bl true) H'
def sp__law_sets_right (_ : Fg) : Sp := sp1 fun b H Q _ => ∃ p : Addr, b = .ref p ∧ Well H p ∧ ∀ H', Wl p H H' → Q (.bl true) H'
def sp__law_shares_right (_ : Fg) : Sp := sp1 fun b H Q _ => ∃ p : Addr, b = .ref p ∧ Well H p ∧ ∀ H', Wl p H H' → Q (.bl true) H'
def sp_law (K : Fg) : Sp := sp1 fun s H Q _ => ∃ (a : Addr) (ns : List Int), s = .ref a ∧ SqL K H a (ns.map V.int) ∧ ns.length ≤ 63 ∧ ∀ H', Q (.bl true) H'
end Law

namespace Law
open PySem PySem.Spec PyProof.Rows L2 Sw
section
variable {P : Program} {w : World} {K : Fg} {mg : Str → Option Value} {base : Heap}
theorem ok_is_whole (T : Tx K mg w)   : Cal P w K mg base 1 "is_whole" ["thing"] (sp_is_whole K) := by
  refine cal_mk T.F_is_whole T.g_is_whole sc_is_whole (len1 _) (fun _ _ _ _ _ _ us hl => match us, hl with | [_], _ => rfl) (fun cdv A outer s H vs Q E hr h => ?_)
  obtain ⟨v0, rfl, h⟩ := h
  have hu := hu_of hr
  refine ⟨_, (pss_one (ps_ret (pe_and (pe_callB is_q (by rfl) T.n_isinstance (by decide +kernel) (pa_cons (pv 0) (pa_cons (pe_bltn (v := .ty "int") (by rfl) T.n_int (by decide +kernel) rfl) pa_nil))) (pe_one (pe_not (pe_callB is_q (by rfl) T.n_isinstance (by decide +kernel) (pa_cons (pv 0) (pa_cons (pe_bltn (v := .ty "bool") (by rfl) T.n_bool (by decide +kernel) rfl) pa_nil)))))))), ?_⟩
  obtain ⟨⟨n, hn⟩, q⟩ := h
  have h1 := isB_int hn
  have h2 := isB_bool hn
  simp only [and_assoc, rst, rs, re, ra, rq, rx, ro, rl, rl2, rsp, rz, rix, rln, rg, rd, ri, rv, rk, rdd, rwi, at0, at1, at2, at3, upd_at, List.getElem?_cons_zero, List.getElem?_cons_succ, Option.some.injEq, exists_eq_left', exists_eq_left, List.set_cons_zero, List.set_cons_succ, true_and, and_true, HO.lst.injEq, HO.tup.injEq, exists_and_left, exists_eq, exists_eq', Br.t, Br.f, Be.t, Be.f, List.cons.injEq, List.append_nil, scal, if_true, if_false, ite_true, ite_false, eq_self_iff_true, decide_true, decide_false, Bool.not_true, Bool.not_false, reduceIte, List.nil_append, List.cons_append, reduceCtorEq, false_and, exists_false, false_or, or_false, Int.reduceLT, h1]
  refine Be.of (fun e => ?_) fun e => ?_
  · simp only [and_assoc, rst, rs, re, ra, rq, rx, ro, rl, rl2, rsp, rz, rix, rln, rg, rd, ri, rv, rk, rdd, rwi, at0, at1, at2, at3, upd_at, List.getElem?_cons_zero, List.getElem?_cons_succ, Option.some.injEq, exists_eq_left', exists_eq_left, List.set_cons_zero, List.set_cons_succ, true_and, and_true, HO.lst.injEq, HO.tup.injEq, exists_and_left, exists_eq, exists_eq', Br.t, Br.f, Be.t, Be.f, List.cons.injEq, List.append_nil, scal, if_true, if_false, ite_true, ite_false, eq_self_iff_true, decide_true, decide_false, Bool.not_true, Bool.not_false, reduceIte, List.nil_append, List.cons_append, reduceCtorEq, false_and, exists_false, false_or, or_false, Int.reduceLT, h2]
    rw [← whole_is, e] at q
    exact q
  · rw [← whole_is, e] at q
    exact q
theorem ok_is_within (T : Tx K mg w) (c_is_whole : Cal P w K mg base 1 "is_whole" ["thing"] (sp_is_whole K))  : Cal P w K mg base 2 "is_within" ["thing", "low", "high"] (sp_is_within K) := by
  refine cal_mk T.F_is_within T.g_is_within sc_is_within (len3 _) (fun _ _ _ _ _ _ us hl => match us, hl with | [_, _, _], _ => rfl) (fun cdv A outer s H vs Q E hr h => ?_)
  obtain ⟨v0, v1, v2, rfl, h⟩ := h
  have hu := hu_of hr
  refine ⟨_, (pss_one (ps_ret (pe_and (pe_cal c_is_whole hr (by decide) passL rfl (pa_cons (pv 0) pa_nil)) (pe_one (pe_chain op_le op_le (pv 1) (pv 0) (pv 2)))))), ?_⟩
  obtain ⟨l, h, rfl, rfl, hn, q⟩ := h
  simp only [and_assoc, rst, rs, re, ra, rq, rx, ro, rl, rl2, rsp, rz, rix, rln, rg, rd, ri, rv, rk, rdd, rwi, at0, at1, at2, at3, upd_at, List.getElem?_cons_zero, List.getElem?_cons_succ, Option.some.injEq, exists_eq_left', exists_eq_left, List.set_cons_zero, List.set_cons_succ, true_and, and_true, HO.lst.injEq, HO.tup.injEq, exists_and_left, exists_eq, exists_eq', Br.t, Br.f, Be.t, Be.f, List.cons.injEq, List.append_nil, scal, if_true, if_false, ite_true, ite_false, eq_self_iff_true, decide_true, decide_false, Bool.not_true, Bool.not_false, reduceIte, List.nil_append, List.cons_append, reduceCtorEq, false_and, exists_false, false_or, or_false, Int.reduceLT]
  refine ⟨_, rfl, hn, ?_⟩
  simp only [and_assoc, rst, rs, re, ra, rq, rx, ro, rl, rl2, rsp, rz, rix, rln, rg, rd, ri, rv, rk, rdd, rwi, at0, at1, at2, at3, upd_at, List.getElem?_cons_zero, List.getElem?_cons_succ, Option.some.injEq, exists_eq_left', exists_eq_left, List.set_cons_zero, List.set_cons_succ, true_and, and_true, HO.lst.injEq, HO.tup.injEq, exists_and_left, exists_eq, exists_eq', Br.t, Br.f, Be.t, Be.f, List.cons.injEq, List.append_nil, scal, if_true, if_false, ite_true, ite_false, eq_self_iff_true, decide_true, decide_false, Bool.not_true, Bool.not_false, reduceIte, List.nil_append, List.cons_append, reduceCtorEq, false_and, exists_false, false_or, or_false, Int.reduceLT]
  cases v0 with
  | int i =>
    refine Be.of (fun _ => ?_) fun e => (by simp [whole] at e)
    refine ⟨i, rfl, Be.d (fun c => ⟨i, rfl, ?_⟩) fun c => ?_⟩
    · rw [show decide (i ≤ h) = decide (l ≤ i ∧ i ≤ h) by simp [c]]
      exact q
    · rw [show within (.int i) l h = false from decide_eq_false fun z => c z.1] at q
      exact q
  | _ => exact Be.of (fun e => (by simp [whole] at e)) fun _ => q
theorem ok_is_row (T : Tx K mg w)   : Cal P w K mg base 1 "is_row" ["thing"] (sp_is_row K) := by
  refine cal_mk T.F_is_row T.g_is_row sc_is_row (len1 _) (fun _ _ _ _ _ _ us hl => match us, hl with | [_], _ => rfl) (fun cdv A outer s H vs Q E hr h => ?_)
  obtain ⟨v0, rfl, h⟩ := h
  have hu := hu_of hr
  refine ⟨_, (pss_one (ps_ret (pe_callB is_2 (by rfl) T.n_isinstance (by decide +kernel) (pa_cons (pv 0) (pa_cons (pe_tup (pa_cons (pe_bltn (v := .ty "list") (by rfl) T.n_list (by decide +kernel) rfl) (pa_cons (pe_bltn (v := .ty "tuple") (by rfl) T.n_tuple (by decide +kernel) rfl) pa_nil))) pa_nil))))), ?_⟩
  obtain ⟨a, b, ha, hb, q⟩ := h
  simp only [and_assoc, rst, rs, re, ra, rq, rx, ro, rl, rl2, rsp, rz, rix, rln, rg, rd, ri, rv, rk, rdd, rwi, at0, at1, at2, at3, upd_at, List.getElem?_cons_zero, List.getElem?_cons_succ, Option.some.injEq, exists_eq_left', exists_eq_left, List.set_cons_zero, List.set_cons_succ, true_and, and_true, HO.lst.injEq, HO.tup.injEq, exists_and_left, exists_eq, exists_eq', Br.t, Br.f, Be.t, Be.f, List.cons.injEq, List.append_nil, scal, if_true, if_false, ite_true, ite_false, eq_self_iff_true, decide_true, decide_false, Bool.not_true, Bool.not_false, reduceIte, List.nil_append, List.cons_append, reduceCtorEq, false_and, exists_false, false_or, or_false, Int.reduceLT]
  exact fun p hp => ⟨v0, p, "list", "tuple", a, b, rfl, upd_same, isB_same (Same.new hp) ha, isB_same (Same.new hp) hb, q _ (Same.new hp)⟩
theorem ok_exchange (T : Tx K mg w)   : Cal P w K mg base 1 "exchange" ["row", "one", "other"] (sp_exchange K) := by
  refine cal_mk T.F_exchange T.g_exchange sc_exchange (len3 _) (fun _ _ _ _ _ _ us hl => match us, hl with | [_, _, _], _ => rfl) (fun cdv A outer s H vs Q E hr h => ?_)
  obtain ⟨v0, v1, v2, rfl, h⟩ := h
  have hu := hu_of hr
  refine ⟨_, (pss_cons (ps_set (i := 3) sc_exchange.nd rfl (Or.inl rfl) (pe_ix ix_q (pv 0) (pv 1) (fun _ _ => rfl)))
      (pss_cons (ps_asg (pe_ix ix_q (pv 0) (pv 2) (fun _ _ => rfl)) (pg_sub (pv 0) (pv 1) set_list))
      (pss_one (ps_asg (pv 3) (pg_sub (pv 0) (pv 2) set_list))))), ?_⟩
  obtain ⟨p, xs, a, b, x, y, rfl, hp, rfl, rfl, hx, hy, q⟩ := h
  simp only [and_assoc, rst, rs, re, ra, rq, rx, ro, rl, rl2, rsp, rz, rix, rln, rg, rd, ri, rv, rk, rdd, rwi, at0, at1, at2, at3, upd_at, List.getElem?_cons_zero, List.getElem?_cons_succ, Option.some.injEq, exists_eq_left', exists_eq_left, List.set_cons_zero, List.set_cons_succ, true_and, and_true, HO.lst.injEq, HO.tup.injEq, exists_and_left, exists_eq, exists_eq', Br.t, Br.f, Be.t, Be.f, List.cons.injEq, List.append_nil, scal, if_true, if_false, ite_true, ite_false, eq_self_iff_true, decide_true, decide_false, Bool.not_true, Bool.not_false, reduceIte, List.nil_append, List.cons_append, reduceCtorEq, false_and, exists_false, false_or, or_false, Int.reduceLT, hp]
  have la := (List.getElem?_eq_some_iff.mp hx).1
  have lb := (List.getElem?_eq_some_iff.mp hy).1
  refine ⟨_, atI_nat hx, _, atI_nat hy, _, ixN_nat la, _, ixN_nat (by rw [List.length_set]; exact lb), ?_⟩
  rw [L2.upd_upd]
  exact q
theorem ok__law_draw (T : Tx K mg w)   : Cal P w K mg base 1 "_law_draw" ["well", "many"] (sp__law_draw K) := by
  refine cal_mk T.F__law_draw T.g__law_draw sc__law_draw (len2 _) (fun _ _ _ _ _ _ us hl => match us, hl with | [_, _], _ => rfl) (fun cdv A outer s H vs Q E hr h => ?_)
  obtain ⟨v0, v1, rfl, h⟩ := h
  have hu := hu_of hr
  refine ⟨_, (pss_cons (ps_if (pt_cmpR op_gt (pe_ix ix_q (pv 0) pe_int (fun _ _ => rfl)) pe_int (nomark _)) (pss_cons (ps_set (i := 2) sc__law_draw.nd rfl (Or.inl rfl) (pe_op op_mod (pe_ix ix_q (pv 0) pe_int (fun _ _ => rfl)) (pv 1)))
      (pss_cons (ps_asg (pe_op op_fdivW (pe_ix ix_q (pv 0) pe_int (fun _ _ => rfl)) (pv 1)) (pg_sub (pv 0) pe_int set_list))
      (pss_one (ps_ret (pv 2))))) pss_nil)
      (pss_cons (ps_asg (pe_op op_add (pe_ix ix_q (pv 0) pe_int (fun _ _ => rfl)) pe_int) (pg_sub (pv 0) pe_int set_list))
      (pss_cons (ps_set (i := 2) sc__law_draw.nd rfl (Or.inl rfl) (pe_op op_mod (pe_op op_add (pe_op op_add (pe_op op_mulA (pe_ix ix_q (pv 0) pe_int (fun _ _ => rfl)) pe_int) (pe_op op_mulA pe_int (pe_ix ix_q (pv 0) pe_int (fun _ _ => rfl)))) pe_int) pe_int))
      (pss_cons (ps_set (i := 2) sc__law_draw.nd rfl (Or.inl rfl) (pe_op op_mod (pe_op op_add (pe_op op_add (pe_op op_mulA (pv 2) (pv 2)) (pe_op op_mulA pe_int (pe_ix ix_q (pv 0) pe_int (fun _ _ => rfl)))) pe_int) pe_int))
      (pss_one (ps_ret (pe_op op_mod (pe_op op_mod (pe_op op_mulA (pv 2) (pv 2)) pe_int) (pv 1)))))))), ?_⟩
  obtain ⟨p, n, rfl, ⟨x0, x1, x2, hb⟩, rfl, n0, n1, q⟩ := h
  have n2 : CDivW x0 n := wide_div n0 (b := 64) (by omega) (by decide) (by decide)
  simp only [and_assoc, rst, rs, re, ra, rq, rx, ro, rl, rl2, rsp, rz, rix, rln, rg, rd, ri, rv, rk, rdd, rwi, at0, at1, at2, at3, upd_at, List.getElem?_cons_zero, List.getElem?_cons_succ, Option.some.injEq, exists_eq_left', exists_eq_left, List.set_cons_zero, List.set_cons_succ, true_and, and_true, HO.lst.injEq, HO.tup.injEq, exists_and_left, exists_eq, exists_eq', Br.t, Br.f, Be.t, Be.f, List.cons.injEq, List.append_nil, scal, if_true, if_false, ite_true, ite_false, eq_self_iff_true, decide_true, decide_false, Bool.not_true, Bool.not_false, reduceIte, List.nil_append, List.cons_append, reduceCtorEq, false_and, exists_false, false_or, or_false, Int.reduceLT, hb]
  refine Br.d (fun c => ?_) fun c => ?_
  · simp only [and_assoc, rst, rs, re, ra, rq, rx, ro, rl, rl2, rsp, rz, rix, rln, rg, rd, ri, rv, rk, rdd, rwi, at0, at1, at2, at3, upd_at, List.getElem?_cons_zero, List.getElem?_cons_succ, Option.some.injEq, exists_eq_left', exists_eq_left, List.set_cons_zero, List.set_cons_succ, true_and, and_true, HO.lst.injEq, HO.tup.injEq, exists_and_left, exists_eq, exists_eq', Br.t, Br.f, Be.t, Be.f, List.cons.injEq, List.append_nil, scal, if_true, if_false, ite_true, ite_false, eq_self_iff_true, decide_true, decide_false, Bool.not_true, Bool.not_false, reduceIte, List.nil_append, List.cons_append, reduceCtorEq, false_and, exists_false, false_or, or_false, Int.reduceLT, hb]
    exact ⟨n0, n2, q _ _ (Int.emod_nonneg _ (by omega)) (Int.emod_lt_of_pos _ n0) ⟨_, _, _, upd_same⟩ fun a ha => upd_ne ha⟩
  · simp only [and_assoc, rst, rs, re, ra, rq, rx, ro, rl, rl2, rsp, rz, rix, rln, rg, rd, ri, rv, rk, rdd, rwi, at0, at1, at2, at3, upd_at, List.getElem?_cons_zero, List.getElem?_cons_succ, Option.some.injEq, exists_eq_left', exists_eq_left, List.set_cons_zero, List.set_cons_succ, true_and, and_true, HO.lst.injEq, HO.tup.injEq, exists_and_left, exists_eq, exists_eq', Br.t, Br.f, Be.t, Be.f, List.cons.injEq, List.append_nil, scal, if_true, if_false, ite_true, ite_false, eq_self_iff_true, decide_true, decide_false, Bool.not_true, Bool.not_false, reduceIte, List.nil_append, List.cons_append, reduceCtorEq, false_and, exists_false, false_or, or_false, Int.reduceLT, hb]
    exact ⟨small_mul (by decide) (by decide), small_mul' (by decide) (by decide), mod_mul _ _ (by decide) (by decide), small_mul' (by decide) (by decide), mod_mul _ _ (by decide) (by decide), n0, q _ _ (Int.emod_nonneg _ (by omega)) (Int.emod_lt_of_pos _ n0) ⟨_, _, _, upd_same⟩ fun a ha => upd_ne ha⟩
theorem ok__law_well (T : Tx K mg w)   : Cal P w K mg base 1 "_law_well" ["cell"] (sp__law_well K) := by
  refine cal_mk T.F__law_well T.g__law_well sc__law_well (len1 _) (fun _ _ _ _ _ _ us hl => match us, hl with | [_], _ => rfl) (fun cdv A outer s H vs Q E hr h => ?_)
  obtain ⟨v0, rfl, h⟩ := h
  have hu := hu_of hr
  refine ⟨_, (pss_cons (ps_if (pt_cmpR op_ge (pv 0) (pe_op op_pow pe_int pe_int) (nomark _)) (pss_one (ps_ret (pe_lst (pa_cons (pv 0) (pa_cons (pe_op op_mod (pv 0) pe_int) (pa_cons pe_int pa_nil)))))) pss_nil)
      (pss_one (ps_ret (pe_lst (pa_cons pe_int (pa_cons (pe_op op_mod (pv 0) pe_int) (pa_cons pe_int pa_nil))))))), ?_⟩
  obtain ⟨z, rfl, q⟩ := h
  simp only [and_assoc, rst, rs, re, ra, rq, rx, ro, rl, rl2, rsp, rz, rix, rln, rg, rd, ri, rv, rk, rdd, rwi, at0, at1, at2, at3, upd_at, List.getElem?_cons_zero, List.getElem?_cons_succ, Option.some.injEq, exists_eq_left', exists_eq_left, List.set_cons_zero, List.set_cons_succ, true_and, and_true, HO.lst.injEq, HO.tup.injEq, exists_and_left, exists_eq, exists_eq', Br.t, Br.f, Be.t, Be.f, List.cons.injEq, List.append_nil, scal, if_true, if_false, ite_true, ite_false, eq_self_iff_true, decide_true, decide_false, Bool.not_true, Bool.not_false, reduceIte, List.nil_append, List.cons_append, reduceCtorEq, false_and, exists_false, false_or, or_false, Int.reduceLT]
  refine ⟨⟨by decide, by decide, by decide⟩, ?_⟩
  refine Br.d (fun c => ?_) fun c => ?_
  · simp only [and_assoc, rst, rs, re, ra, rq, rx, ro, rl, rl2, rsp, rz, rix, rln, rg, rd, ri, rv, rk, rdd, rwi, at0, at1, at2, at3, upd_at, List.getElem?_cons_zero, List.getElem?_cons_succ, Option.some.injEq, exists_eq_left', exists_eq_left, List.set_cons_zero, List.set_cons_succ, true_and, and_true, HO.lst.injEq, HO.tup.injEq, exists_and_left, exists_eq, exists_eq', Br.t, Br.f, Be.t, Be.f, List.cons.injEq, List.append_nil, scal, if_true, if_false, ite_true, ite_false, eq_self_iff_true, decide_true, decide_false, Bool.not_true, Bool.not_false, reduceIte, List.nil_append, List.cons_append, reduceCtorEq, false_and, exists_false, false_or, or_false, Int.reduceLT]
    exact fun p hp => q p _ (Same.new hp) hp ⟨_, _, _, upd_same⟩
  · simp only [and_assoc, rst, rs, re, ra, rq, rx, ro, rl, rl2, rsp, rz, rix, rln, rg, rd, ri, rv, rk, rdd, rwi, at0, at1, at2, at3, upd_at, List.getElem?_cons_zero, List.getElem?_cons_succ, Option.some.injEq, exists_eq_left', exists_eq_left, List.set_cons_zero, List.set_cons_succ, true_and, and_true, HO.lst.injEq, HO.tup.injEq, exists_and_left, exists_eq, exists_eq', Br.t, Br.f, Be.t, Be.f, List.cons.injEq, List.append_nil, scal, if_true, if_false, ite_true, ite_false, eq_self_iff_true, decide_true, decide_false, Bool.not_true, Bool.not_false, reduceIte, List.nil_append, List.cons_append, reduceCtorEq, false_and, exists_false, false_or, or_false, Int.reduceLT]
    exact fun p hp => q p _ (Same.new hp) hp ⟨_, _, _, upd_same⟩
theorem ok__law_cell (T : Tx K mg w)   : Cal P w K mg base 1 "_law_cell" ["script", "k"] (sp__law_cell K) := by
  refine cal_mk T.F__law_cell T.g__law_cell sc__law_cell (len2 _) (fun _ _ _ _ _ _ us hl => match us, hl with | [_, _], _ => rfl) (fun cdv A outer s H vs Q E hr h => ?_)
  obtain ⟨v0, v1, rfl, h⟩ := h
  have hu := hu_of hr
  refine ⟨_, (pss_cons (ps_if (pt_cmpR op_lt (pv 1) (pe_callB call_len_seq (by rfl) T.n_len (by decide +kernel) (pa_cons (pv 0) pa_nil)) (nomark _)) (pss_one (ps_ret (pe_ix ix_list (pv 0) (pv 1) (fun _ _ => rfl)))) pss_nil)
      (pss_one (ps_ret (pe_op op_add (pe_op op_mulA pe_int (pv 1)) pe_int)))), ?_⟩
  obtain ⟨a, ns, i, rfl, hS, rfl, hl, q⟩ := h
  simp only [and_assoc, rst, rs, re, ra, rq, rx, ro, rl, rl2, rsp, rz, rix, rln, rg, rd, ri, rv, rk, rdd, rwi, at0, at1, at2, at3, upd_at, List.getElem?_cons_zero, List.getElem?_cons_succ, Option.some.injEq, exists_eq_left', exists_eq_left, List.set_cons_zero, List.set_cons_succ, true_and, and_true, HO.lst.injEq, HO.tup.injEq, exists_and_left, exists_eq, exists_eq', Br.t, Br.f, Be.t, Be.f, List.cons.injEq, List.append_nil, scal, if_true, if_false, ite_true, ite_false, eq_self_iff_true, decide_true, decide_false, Bool.not_true, Bool.not_false, reduceIte, List.nil_append, List.cons_append, reduceCtorEq, false_and, exists_false, false_or, or_false, Int.reduceLT]
  refine ⟨_, .inl hS, ?_⟩
  refine Br.d (fun c => ?_) fun c => ?_
  · simp only [and_assoc, rst, rs, re, ra, rq, rx, ro, rl, rl2, rsp, rz, rix, rln, rg, rd, ri, rv, rk, rdd, rwi, at0, at1, at2, at3, upd_at, List.getElem?_cons_zero, List.getElem?_cons_succ, Option.some.injEq, exists_eq_left', exists_eq_left, List.set_cons_zero, List.set_cons_succ, true_and, and_true, HO.lst.injEq, HO.tup.injEq, exists_and_left, exists_eq, exists_eq', Br.t, Br.f, Be.t, Be.f, List.cons.injEq, List.append_nil, scal, if_true, if_false, ite_true, ite_false, eq_self_iff_true, decide_true, decide_false, Bool.not_true, Bool.not_false, reduceIte, List.nil_append, List.cons_append, reduceCtorEq, false_and, exists_false, false_or, or_false, Int.reduceLT]
    rw [List.length_map] at c
    have c2 : i < ns.length := by omega
    refine ⟨a, _, _, .int ns[i], rfl, rfl, hS, atI_nat (by rw [List.getElem?_map, List.getElem?_eq_getElem c2]; rfl), q _⟩
  · simp only [and_assoc, rst, rs, re, ra, rq, rx, ro, rl, rl2, rsp, rz, rix, rln, rg, rd, ri, rv, rk, rdd, rwi, at0, at1, at2, at3, upd_at, List.getElem?_cons_zero, List.getElem?_cons_succ, Option.some.injEq, exists_eq_left', exists_eq_left, List.set_cons_zero, List.set_cons_succ, true_and, and_true, HO.lst.injEq, HO.tup.injEq, exists_and_left, exists_eq, exists_eq', Br.t, Br.f, Be.t, Be.f, List.cons.injEq, List.append_nil, scal, if_true, if_false, ite_true, ite_false, eq_self_iff_true, decide_true, decide_false, Bool.not_true, Bool.not_false, reduceIte, List.nil_append, List.cons_append, reduceCtorEq, false_and, exists_false, false_or, or_false, Int.reduceLT]
    exact ⟨small_mul' (by decide) (by decide), q _⟩
end
end Law

namespace Law
open PySem PySem.Spec PyProof.Rows L2 Sw
section
variable {P : Program} {w : World} {K : Fg} {mg : Str → Option Value} {base : Heap}
theorem ok_is_order (T : Tx K mg w) (c_is_within : Cal P w K mg base 2 "is_within" ["thing", "low", "high"] (sp_is_within K)) (c_is_row : Cal P w K mg base 1 "is_row" ["thing"] (sp_is_row K))  : Cal P w K mg base 3 "is_order" ["thing"] (sp_is_order K) := by
  refine cal_mk T.F_is_order T.g_is_order sc_is_order (len1 _) (fun _ _ _ _ _ _ us hl => match us, hl with | [_], _ => rfl) (fun cdv A outer s H vs Q E hr h => ?_)
  obtain ⟨v0, rfl, h⟩ := h
  have hu := hu_of hr
  refine ⟨_, (pss_cons (ps_if (PW.pt (pw_or (pt_not (pt_val (pe_cal c_is_row hr (by decide) passL rfl (pa_cons (pv 0) pa_nil)))) (pw_or1 (pt_cmpR op_gt (pe_callB len_q (by rfl) T.n_len (by decide +kernel) (pa_cons (pv 0) pa_nil)) (pe_gint rfl T.k_MOST_LAID) (nomark _))))) (pss_one (ps_ret pe_bl)) pss_nil)
      (pss_cons (ps_set (i := 1) sc_is_order.nd rfl (Or.inl rfl) (pe_op op_rep (pe_lst (pa_cons pe_bl pa_nil)) (pe_callB len_q (by rfl) T.n_len (by decide +kernel) (pa_cons (pv 0) pa_nil))))
      (pss_cons (ps_for (passes_of rfl) rfl (pi_q (pv 0)) (pg_name (i := 2) sc_is_order.nd rfl (Or.inl rfl)) (pss_cons (ps_if (PW.pt (pw_or (pt_not (pt_val (pe_cal c_is_within hr (by decide) passL rfl (pa_cons (pv 2) (pa_cons pe_int (pa_cons (pe_op op_sub (pe_callB len_q (by rfl) T.n_len (by decide +kernel) (pa_cons (pv 0) pa_nil)) pe_int) pa_nil)))))) (pw_or1 (pt_val (pe_ix ix_q (pv 1) (pv 2) (fun _ _ => rfl)))))) (pss_one (ps_ret pe_bl)) pss_nil)
      (pss_one (ps_asg pe_bl (pg_sub (pv 1) (pv 2) set_list)))))
      (pss_one (ps_ret pe_bl))))), ?_⟩
  obtain ⟨b, hb, q⟩ := h
  rcases hb with ⟨xs, ⟨p, o, rfl, ho, hs⟩, hk, rfl⟩ | ⟨⟨k1, k2⟩, rfl⟩
  · have kb := kindB ho hs
    simp only [and_assoc, rst, rs, re, ra, rq, rx, ro, rl, rl2, rsp, rz, rix, rln, rg, rd, ri, rv, rk, rdd, rwi, at0, at1, at2, at3, upd_at, List.getElem?_cons_zero, List.getElem?_cons_succ, Option.some.injEq, exists_eq_left', exists_eq_left, List.set_cons_zero, List.set_cons_succ, true_and, and_true, HO.lst.injEq, HO.tup.injEq, exists_and_left, exists_eq, exists_eq', Br.t, Br.f, Be.t, Be.f, List.cons.injEq, List.append_nil, scal, if_true, if_false, ite_true, ite_false, eq_self_iff_true, decide_true, decide_false, Bool.not_true, Bool.not_false, reduceIte, List.nil_append, List.cons_append, reduceCtorEq, false_and, exists_false, false_or, or_false, Int.reduceLT]
    refine ⟨_, rfl, _, _, kb.2.2.2.2.1, kb.2.2.2.2.2, fun H1 s1 => ?_⟩
    have tr : (!isT o || isT o) = true := by cases isT o <;> rfl
    rw [tr]
    refine ⟨true, rfl, Be.of (fun e => by cases e) fun _ => ⟨o, s1 _ _ ho, xs, hs, ?_⟩⟩
    refine Br.d (fun c => ?_) fun c => ?_
    · simp only [and_assoc, rst, rs, re, ra, rq, rx, ro, rl, rl2, rsp, rz, rix, rln, rg, rd, ri, rv, rk, rdd, rwi, at0, at1, at2, at3, upd_at, List.getElem?_cons_zero, List.getElem?_cons_succ, Option.some.injEq, exists_eq_left', exists_eq_left, List.set_cons_zero, List.set_cons_succ, true_and, and_true, HO.lst.injEq, HO.tup.injEq, exists_and_left, exists_eq, exists_eq', Br.t, Br.f, Be.t, Be.f, List.cons.injEq, List.append_nil, scal, if_true, if_false, ite_true, ite_false, eq_self_iff_true, decide_true, decide_false, Bool.not_true, Bool.not_false, reduceIte, List.nil_append, List.cons_append, reduceCtorEq, false_and, exists_false, false_or, or_false, Int.reduceLT]
      rw [show ordL xs = false from decide_eq_false fun z => by omega] at q
      exact q _ s1
    · simp only [and_assoc, rst, rs, re, ra, rq, rx, ro, rl, rl2, rsp, rz, rix, rln, rg, rd, ri, rv, rk, rdd, rwi, at0, at1, at2, at3, upd_at, List.getElem?_cons_zero, List.getElem?_cons_succ, Option.some.injEq, exists_eq_left', exists_eq_left, List.set_cons_zero, List.set_cons_succ, true_and, and_true, HO.lst.injEq, HO.tup.injEq, exists_and_left, exists_eq, exists_eq', Br.t, Br.f, Be.t, Be.f, List.cons.injEq, List.append_nil, scal, if_true, if_false, ite_true, ite_false, eq_self_iff_true, decide_true, decide_false, Bool.not_true, Bool.not_false, reduceIte, List.nil_append, List.cons_append, reduceCtorEq, false_and, exists_false, false_or, or_false, Int.reduceLT, s1 _ _ ho]
      intro p1 h1
      have o1 := s1 _ _ ho
      have n1 := ne_of_none o1 h1
      rw [if_neg n1]
      have sa : Same H (upd H1 p1 (.lst [.bl false])) := Same.trans s1 (Same.new h1)
      have o2 : upd H1 p1 (.lst [.bl false]) p = some o := by rw [upd_ne n1]; exact o1
      refine ⟨o, rfl, xs, hs, p1, (xs.length : Int), _, rfl, rfl, upd_same, by omega, by omega, by rw [sizeLine_eq, List.length_singleton]; omega, fun p2 h2 => ?_⟩
      have f2 := Same.free sa h2
      refine ⟨o, by rw [upd_ne (ne_of_none o2 h2)]; exact o2, xs, hs, FI.seq hs (fun i σ H' => ∃ v2, Same H H' ∧ H' p2 = some (.lst ((List.range xs.length).map fun j : Nat => V.bl (decide (V.int (j : Int) ∈ xs.take i)))) ∧ (∀ x ∈ xs.take i, within x 0 ((xs.length : Int) - 1) = true) ∧ (xs.take i).Nodup ∧ σ = [some (.ref p), some (.ref p2), v2])
        ⟨none, Same.mut sa f2, ?_, by simp, by simp, rfl⟩ (fun i σ H' _ ⟨_, s, _⟩ => s _ _ ho) ?_ ?_⟩
      · rw [upd_same]
        simp [List.map_const']
      · rintro i x σ H' hx ⟨v2, s, hz, hw, hn, rfl⟩
        obtain ⟨n, en⟩ := hk x (List.mem_of_getElem? hx)
        simp only [and_assoc, rst, rs, re, ra, rq, rx, ro, rl, rl2, rsp, rz, rix, rln, rg, rd, ri, rv, rk, rdd, rwi, at0, at1, at2, at3, upd_at, List.getElem?_cons_zero, List.getElem?_cons_succ, Option.some.injEq, exists_eq_left', exists_eq_left, List.set_cons_zero, List.set_cons_succ, true_and, and_true, HO.lst.injEq, HO.tup.injEq, exists_and_left, exists_eq, exists_eq', Br.t, Br.f, Be.t, Be.f, List.cons.injEq, List.append_nil, scal, if_true, if_false, ite_true, ite_false, eq_self_iff_true, decide_true, decide_false, Bool.not_true, Bool.not_false, reduceIte, List.nil_append, List.cons_append, reduceCtorEq, false_and, exists_false, false_or, or_false, Int.reduceLT, s _ _ ho]
        refine ⟨_, hs, _, _, _, rfl, _, _, rfl, rfl, ⟨n, tyN_same s en⟩, ?_⟩
        simp only [and_assoc, rst, rs, re, ra, rq, rx, ro, rl, rl2, rsp, rz, rix, rln, rg, rd, ri, rv, rk, rdd, rwi, at0, at1, at2, at3, upd_at, List.getElem?_cons_zero, List.getElem?_cons_succ, Option.some.injEq, exists_eq_left', exists_eq_left, List.set_cons_zero, List.set_cons_succ, true_and, and_true, HO.lst.injEq, HO.tup.injEq, exists_and_left, exists_eq, exists_eq', Br.t, Br.f, Be.t, Be.f, List.cons.injEq, List.append_nil, scal, if_true, if_false, ite_true, ite_false, eq_self_iff_true, decide_true, decide_false, Bool.not_true, Bool.not_false, reduceIte, List.nil_append, List.cons_append, reduceCtorEq, false_and, exists_false, false_or, or_false, Int.reduceLT, hz]
        refine Be.of (fun c4 => ?_) fun c4 => ?_
        · rw [show ordL xs = false from decide_eq_false fun z => by
            have := z.2.1 x (List.mem_of_getElem? hx)
            rw [this] at c4
            cases c4] at q
          exact q _ s
        · have hin : within x 0 ((xs.length : Int) - 1) = true := by simpa using c4
          obtain ⟨m, rfl, m0, m1⟩ : ∃ m : Nat, x = .int (m : Int) ∧ m < xs.length ∧ True := by
            cases x with
            | int z =>
              have z2 : 0 ≤ z ∧ z ≤ (xs.length : Int) - 1 := of_decide_eq_true hin
              exact ⟨z.toNat, by rw [Int.toNat_of_nonneg z2.1], by omega, True.intro⟩
            | _ => cases hin
          refine ⟨_, hz, _, rfl, _, rfl, _, atI_nat (by rw [List.getElem?_map, List.getElem?_range m0]; rfl), _, rfl, Br.d (fun c5 => ?_) fun c5 => ?_⟩
          · simp only [and_assoc, rst, rs, re, ra, rq, rx, ro, rl, rl2, rsp, rz, rix, rln, rg, rd, ri, rv, rk, rdd, rwi, at0, at1, at2, at3, upd_at, List.getElem?_cons_zero, List.getElem?_cons_succ, Option.some.injEq, exists_eq_left', exists_eq_left, List.set_cons_zero, List.set_cons_succ, true_and, and_true, HO.lst.injEq, HO.tup.injEq, exists_and_left, exists_eq, exists_eq', Br.t, Br.f, Be.t, Be.f, List.cons.injEq, List.append_nil, scal, if_true, if_false, ite_true, ite_false, eq_self_iff_true, decide_true, decide_false, Bool.not_true, Bool.not_false, reduceIte, List.nil_append, List.cons_append, reduceCtorEq, false_and, exists_false, false_or, or_false, Int.reduceLT]
            have c6 : ¬ xs.Nodup := fun z => by
              have e2 : xs = xs.take i ++ V.int (m : Int) :: xs.drop (i + 1) := by rw [← drop_at hx, List.take_append_drop]
              rw [e2] at z
              exact (List.nodup_append.mp z).2.2 _ c5 _ (by simp) rfl
            rw [show ordL xs = false from decide_eq_false fun z => c6 z.2.2] at q
            exact q _ s
          · simp only [and_assoc, rst, rs, re, ra, rq, rx, ro, rl, rl2, rsp, rz, rix, rln, rg, rd, ri, rv, rk, rdd, rwi, at0, at1, at2, at3, upd_at, List.getElem?_cons_zero, List.getElem?_cons_succ, Option.some.injEq, exists_eq_left', exists_eq_left, List.set_cons_zero, List.set_cons_succ, true_and, and_true, HO.lst.injEq, HO.tup.injEq, exists_and_left, exists_eq, exists_eq', Br.t, Br.f, Be.t, Be.f, List.cons.injEq, List.append_nil, scal, if_true, if_false, ite_true, ite_false, eq_self_iff_true, decide_true, decide_false, Bool.not_true, Bool.not_false, reduceIte, List.nil_append, List.cons_append, reduceCtorEq, false_and, exists_false, false_or, or_false, Int.reduceLT, hz]
            refine ⟨m, ixN_nat (by rw [List.length_map, List.length_range]; exact m0), Same.mut s f2, ?_, ?_, ?_⟩
            · refine List.ext_getElem? fun j => ?_
              by_cases hj : j < xs.length
              · by_cases hm : m = j
                · subst hm
                  rw [List.getElem?_set_self (by rw [List.length_map, List.length_range]; exact m0), List.getElem?_map, List.getElem?_range m0, take_snoc hx]
                  simp
                · rw [List.getElem?_set_ne hm, List.getElem?_map, List.getElem?_map, List.getElem?_range hj, take_snoc hx]
                  simp
                  exact fun z => absurd (by omega) hm
              · rw [List.getElem?_eq_none (by rw [List.length_set, List.length_map, List.length_range]; omega), List.getElem?_eq_none (by rw [List.length_map, List.length_range]; omega)]
            · intro y hy
              rw [take_snoc hx] at hy
              rcases List.mem_append.mp hy with hy | hy
              · exact hw y hy
              · rw [List.mem_singleton.mp hy]
                exact hin
            · rw [take_snoc hx]
              exact List.nodup_append.mpr ⟨hn, by simp, fun a ha b hb => by rw [List.mem_singleton.mp hb]; exact fun z => c5 (z ▸ ha)⟩
      · rintro σ H' ⟨v2, s, hz, hw, hn, rfl⟩
        rw [List.take_length] at hw hn
        simp only [and_assoc, rst, rs, re, ra, rq, rx, ro, rl, rl2, rsp, rz, rix, rln, rg, rd, ri, rv, rk, rdd, rwi, at0, at1, at2, at3, upd_at, List.getElem?_cons_zero, List.getElem?_cons_succ, Option.some.injEq, exists_eq_left', exists_eq_left, List.set_cons_zero, List.set_cons_succ, true_and, and_true, HO.lst.injEq, HO.tup.injEq, exists_and_left, exists_eq, exists_eq', Br.t, Br.f, Be.t, Be.f, List.cons.injEq, List.append_nil, scal, if_true, if_false, ite_true, ite_false, eq_self_iff_true, decide_true, decide_false, Bool.not_true, Bool.not_false, reduceIte, List.nil_append, List.cons_append, reduceCtorEq, false_and, exists_false, false_or, or_false, Int.reduceLT]
        rw [show ordL xs = true from decide_eq_true ⟨by omega, hw, hn⟩] at q
        exact q _ s
  · simp only [and_assoc, rst, rs, re, ra, rq, rx, ro, rl, rl2, rsp, rz, rix, rln, rg, rd, ri, rv, rk, rdd, rwi, at0, at1, at2, at3, upd_at, List.getElem?_cons_zero, List.getElem?_cons_succ, Option.some.injEq, exists_eq_left', exists_eq_left, List.set_cons_zero, List.set_cons_succ, true_and, and_true, HO.lst.injEq, HO.tup.injEq, exists_and_left, exists_eq, exists_eq', Br.t, Br.f, Be.t, Be.f, List.cons.injEq, List.append_nil, scal, if_true, if_false, ite_true, ite_false, eq_self_iff_true, decide_true, decide_false, Bool.not_true, Bool.not_false, reduceIte, List.nil_append, List.cons_append, reduceCtorEq, false_and, exists_false, false_or, or_false, Int.reduceLT]
    refine ⟨_, rfl, _, _, k1, k2, fun H1 s1 => ?_⟩
    simp only [and_assoc, rst, rs, re, ra, rq, rx, ro, rl, rl2, rsp, rz, rix, rln, rg, rd, ri, rv, rk, rdd, rwi, at0, at1, at2, at3, upd_at, List.getElem?_cons_zero, List.getElem?_cons_succ, Option.some.injEq, exists_eq_left', exists_eq_left, List.set_cons_zero, List.set_cons_succ, true_and, and_true, HO.lst.injEq, HO.tup.injEq, exists_and_left, exists_eq, exists_eq', Br.t, Br.f, Be.t, Be.f, List.cons.injEq, List.append_nil, scal, if_true, if_false, ite_true, ite_false, eq_self_iff_true, decide_true, decide_false, Bool.not_true, Bool.not_false, reduceIte, List.nil_append, List.cons_append, reduceCtorEq, false_and, exists_false, false_or, or_false, Int.reduceLT]
    exact q _ s1
theorem ok_need_order (T : Tx K mg w) (c_is_order : Cal P w K mg base 3 "is_order" ["thing"] (sp_is_order K)) (c_NoOrder : Exn P w K mg base "NoOrder" "found") : Cal P w K mg base 4 "need_order" ["thing"] (sp_need_order K) := by
  refine cal_mk T.F_need_order T.g_need_order sc_need_order (len1 _) (fun _ _ _ _ _ _ us hl => match us, hl with | [_], _ => rfl) (fun cdv A outer s H vs Q E hr h => ?_)
  obtain ⟨v0, rfl, h⟩ := h
  have hu := hu_of hr
  refine ⟨_, (pss_one (ps_if (pt_not (pt_val (pe_cal c_is_order hr (by decide) (passes_call (takes_of rfl rfl rfl rfl) fun _ _ _ _ h => h) rfl (pa_cons (pv 0) pa_nil)))) (pss_one (ps_rs1 c_NoOrder rfl (takes_of rfl rfl rfl rfl) hr (by decide) rfl (pa_cons (pv 0) pa_nil))) pss_nil)), ?_⟩
  obtain ⟨b, hb, q, e⟩ := h
  simp only [and_assoc, rst, rs, re, ra, rq, rx, ro, rl, rl2, rsp, rz, rix, rln, rg, rd, ri, rv, rk, rdd, rwi, at0, at1, at2, at3, upd_at, List.getElem?_cons_zero, List.getElem?_cons_succ, Option.some.injEq, exists_eq_left', exists_eq_left, List.set_cons_zero, List.set_cons_succ, true_and, and_true, HO.lst.injEq, HO.tup.injEq, exists_and_left, exists_eq, exists_eq', Br.t, Br.f, Be.t, Be.f, List.cons.injEq, List.append_nil, scal, if_true, if_false, ite_true, ite_false, eq_self_iff_true, decide_true, decide_false, Bool.not_true, Bool.not_false, reduceIte, List.nil_append, List.cons_append, reduceCtorEq, false_and, exists_false, false_or, or_false, Int.reduceLT]
  refine ⟨_, rfl, b, hb, fun H1 s1 => ?_⟩
  simp only [and_assoc, rst, rs, re, ra, rq, rx, ro, rl, rl2, rsp, rz, rix, rln, rg, rd, ri, rv, rk, rdd, rwi, at0, at1, at2, at3, upd_at, List.getElem?_cons_zero, List.getElem?_cons_succ, Option.some.injEq, exists_eq_left', exists_eq_left, List.set_cons_zero, List.set_cons_succ, true_and, and_true, HO.lst.injEq, HO.tup.injEq, exists_and_left, exists_eq, exists_eq', Br.t, Br.f, Be.t, Be.f, List.cons.injEq, List.append_nil, scal, if_true, if_false, ite_true, ite_false, eq_self_iff_true, decide_true, decide_false, Bool.not_true, Bool.not_false, reduceIte, List.nil_append, List.cons_append, reduceCtorEq, false_and, exists_false, false_or, or_false, Int.reduceLT]
  refine Br.of (fun c => ?_) fun c => ?_
  · simp only [and_assoc, rst, rs, re, ra, rq, rx, ro, rl, rl2, rsp, rz, rix, rln, rg, rd, ri, rv, rk, rdd, rwi, at0, at1, at2, at3, upd_at, List.getElem?_cons_zero, List.getElem?_cons_succ, Option.some.injEq, exists_eq_left', exists_eq_left, List.set_cons_zero, List.set_cons_succ, true_and, and_true, HO.lst.injEq, HO.tup.injEq, exists_and_left, exists_eq, exists_eq', Br.t, Br.f, Be.t, Be.f, List.cons.injEq, List.append_nil, scal, if_true, if_false, ite_true, ite_false, eq_self_iff_true, decide_true, decide_false, Bool.not_true, Bool.not_false, reduceIte, List.nil_append, List.cons_append, reduceCtorEq, false_and, exists_false, false_or, or_false, Int.reduceLT]
    exact fun d hd => e (by simpa using c) _ d s1 hd
  · simp only [and_assoc, rst, rs, re, ra, rq, rx, ro, rl, rl2, rsp, rz, rix, rln, rg, rd, ri, rv, rk, rdd, rwi, at0, at1, at2, at3, upd_at, List.getElem?_cons_zero, List.getElem?_cons_succ, Option.some.injEq, exists_eq_left', exists_eq_left, List.set_cons_zero, List.set_cons_succ, true_and, and_true, HO.lst.injEq, HO.tup.injEq, exists_and_left, exists_eq, exists_eq', Br.t, Br.f, Be.t, Be.f, List.cons.injEq, List.append_nil, scal, if_true, if_false, ite_true, ite_false, eq_self_iff_true, decide_true, decide_false, Bool.not_true, Bool.not_false, reduceIte, List.nil_append, List.cons_append, reduceCtorEq, false_and, exists_false, false_or, or_false, Int.reduceLT]
    exact q (by simpa using c) _ s1
end
end Law

-- RDX rlu, rdp, Bool.true_or, Bool.false_or, Bool.or_false, Bool.or_true
namespace Law
open PySem PySem.Spec PyProof.Rows L2 Sw
section
variable {P : Program} {w : World} {K : Fg} {mg : Str → Option Value} {base : Heap}
theorem atI_last {xs : List V} {x : V} : atI (xs ++ [x]) (-1) = some x := by
  unfold atI ixN
  rw [if_neg (by decide), if_pos (by rw [List.length_append, List.length_singleton]; omega)]
  show (xs ++ [x])[((-1 : Int) + ((xs ++ [x]).length : Int)).toNat]? = _
  rw [List.length_append, List.length_singleton, show ((-1 : Int) + ((xs.length + 1 : Nat) : Int)).toNat = xs.length by omega]
  simp
theorem fac_succ (j : Nat) : (List.range (j + 1)).map (fun j => V.int (fac j)) = (List.range j).map (fun j => V.int (fac j)) ++ [.int (fac j)] := by rw [List.range_succ, List.map_append] <;> rfl
theorem fac_pos : ∀ k, 1 ≤ fac k
  | 0 => by decide
  | k + 1 => by
    have h := fac_pos k
    show 1 ≤ fac k * ((k : Int) + 1)
    exact Int.le_trans h (by have := Int.mul_le_mul_of_nonneg_left (a := 1) (b := (k : Int) + 1) (c := fac k) (by omega) (by omega); omega)
theorem fac_small : ∀ k, k ≤ 20 → fac k < 2 ^ 62 := by decide +kernel
theorem fac_at {n k : Nat} (h : k ≤ n) : atI ((List.range (n + 1)).map fun j => V.int (fac j)) (k : Int) = some (.int (fac k)) := atI_nat (by rw [List.getElem?_map, List.getElem?_range (by omega)]; rfl)
theorem ok_products_to (T : Tx K mg w)   : Cal P w K mg base 1 "products_to" ["many"] (sp_products_to K) := by
  refine cal_mk T.F_products_to T.g_products_to sc_products_to (len1 _) (fun _ _ _ _ _ _ us hl => match us, hl with | [_], _ => rfl) (fun cdv A outer s H vs Q E hr h => ?_)
  obtain ⟨v0, rfl, h⟩ := h
  have hu := hu_of hr
  refine ⟨_, (pss_cons (ps_set (i := 1) sc_products_to.nd rfl (Or.inl rfl) (pe_lst (pa_cons pe_int pa_nil)))
      (pss_cons (ps_for (passes_of rfl) rfl (pi_range2 (by rfl) T.n_range (pa_cons pe_int (pa_cons (pe_op op_add (pv 0) pe_int) pa_nil))) (pg_name (i := 2) sc_products_to.nd rfl (Or.inl rfl)) (pss_one (ps_expr (pe_ml PySem.F.slot_list_append PySem.F.type_list_append mt_append (pv 1) (pa_cons (pe_op op_mulA (pe_ix ix_q (pv 1) (pe_un un_neg pe_int) (fun _ _ => rfl)) (pv 2)) pa_nil)))))
      (pss_one (ps_ret (pv 1))))), ?_⟩
  obtain ⟨n, rfl, hn, q⟩ := h
  simp only [and_assoc, rst, rs, re, ra, rq, rx, ro, rl, rl2, rsp, rz, rix, rln, rg, rd, ri, rv, rk, rdd, rwi, at0, at1, at2, at3, upd_at, List.getElem?_cons_zero, List.getElem?_cons_succ, Option.some.injEq, exists_eq_left', exists_eq_left, List.set_cons_zero, List.set_cons_succ, true_and, and_true, HO.lst.injEq, HO.tup.injEq, exists_and_left, exists_eq, exists_eq', Br.t, Br.f, Be.t, Be.f, List.cons.injEq, List.append_nil, scal, if_true, if_false, ite_true, ite_false, eq_self_iff_true, decide_true, decide_false, Bool.not_true, Bool.not_false, reduceIte, List.nil_append, List.cons_append, reduceCtorEq, false_and, exists_false, false_or, or_false, Int.reduceLT, rlu, rdp, Bool.true_or, Bool.false_or, Bool.or_false, Bool.or_true]
  intro p hp
  refine ⟨by decide, by decide, by omega, by omega, ?_⟩
  rw [show ((n : Int) + 1 - 1).toNat = n by omega]
  refine FI.rng (fun i σ H' => ∃ v2, Same H H' ∧ H' p = some (.lst ((List.range (i + 1)).map fun j => V.int (fac j))) ∧ σ = [some (.int n), some (.ref p), v2]) ⟨none, Same.new hp, upd_same, rfl⟩ ?_ ?_
  · rintro i σ H' hi ⟨v2, s, hz, rfl⟩
    simp only [and_assoc, rst, rs, re, ra, rq, rx, ro, rl, rl2, rsp, rz, rix, rln, rg, rd, ri, rv, rk, rdd, rwi, at0, at1, at2, at3, upd_at, List.getElem?_cons_zero, List.getElem?_cons_succ, Option.some.injEq, exists_eq_left', exists_eq_left, List.set_cons_zero, List.set_cons_succ, true_and, and_true, HO.lst.injEq, HO.tup.injEq, exists_and_left, exists_eq, exists_eq', Br.t, Br.f, Be.t, Be.f, List.cons.injEq, List.append_nil, scal, if_true, if_false, ite_true, ite_false, eq_self_iff_true, decide_true, decide_false, Bool.not_true, Bool.not_false, reduceIte, List.nil_append, List.cons_append, reduceCtorEq, false_and, exists_false, false_or, or_false, Int.reduceLT, rlu, rdp, Bool.true_or, Bool.false_or, Bool.or_false, Bool.or_true, hz]
    have h9 : atI ((List.range (i + 1)).map fun j => V.int (fac j)) (-1) = some (.int (fac i)) := by
      rw [fac_succ]
      exact atI_last
    refine ⟨_, h9, _, rfl, small_mul (by omega) (by omega), by rw [sizeLine_eq, List.length_map, List.length_range]; omega, Same.mut s hp, ?_⟩
    rw [fac_succ (i + 1)]
    rw [show (1 : Int) + (i : Int) = (i : Int) + 1 by omega]
    rfl
  · rintro σ H' ⟨v2, s, hz, rfl⟩
    simp only [and_assoc, rst, rs, re, ra, rq, rx, ro, rl, rl2, rsp, rz, rix, rln, rg, rd, ri, rv, rk, rdd, rwi, at0, at1, at2, at3, upd_at, List.getElem?_cons_zero, List.getElem?_cons_succ, Option.some.injEq, exists_eq_left', exists_eq_left, List.set_cons_zero, List.set_cons_succ, true_and, and_true, HO.lst.injEq, HO.tup.injEq, exists_and_left, exists_eq, exists_eq', Br.t, Br.f, Be.t, Be.f, List.cons.injEq, List.append_nil, scal, if_true, if_false, ite_true, ite_false, eq_self_iff_true, decide_true, decide_false, Bool.not_true, Bool.not_false, reduceIte, List.nil_append, List.cons_append, reduceCtorEq, false_and, exists_false, false_or, or_false, Int.reduceLT, rlu, rdp, Bool.true_or, Bool.false_or, Bool.or_false, Bool.or_true]
    exact q _ _ s hp hz
theorem ok_orders_many (T : Tx K mg w) (c_is_within : Cal P w K mg base 2 "is_within" ["thing", "low", "high"] (sp_is_within K)) (c_products_to : Cal P w K mg base 1 "products_to" ["many"] (sp_products_to K)) (c_NoNumber : Exn P w K mg base "NoNumber" "found") : Cal P w K mg base 4 "orders_many" ["many"] (sp_orders_many K) := by
  refine cal_mk T.F_orders_many T.g_orders_many sc_orders_many (len1 _) (fun _ _ _ _ _ _ us hl => match us, hl with | [_], _ => rfl) (fun cdv A outer s H vs Q E hr h => ?_)
  obtain ⟨v0, rfl, h⟩ := h
  have hu := hu_of hr
  refine ⟨_, (pss_cons (ps_if (pt_not (pt_val (pe_cal c_is_within hr (by decide) (passes_call (takes_of rfl rfl rfl rfl) fun _ _ _ _ h => h) rfl (pa_cons (pv 0) (pa_cons pe_int (pa_cons (pe_gint rfl T.k_MOST_RANKED) pa_nil)))))) (pss_one (ps_rs1 c_NoNumber rfl (takes_of rfl rfl rfl rfl) hr (by decide) rfl (pa_cons (pv 0) pa_nil))) pss_nil)
      (pss_one (ps_ret (pe_ix ix_q (pe_cal c_products_to hr (by decide) (passes_call (takes_of rfl rfl rfl rfl) fun _ _ _ _ h => h) rfl (pa_cons (pv 0) pa_nil)) (pv 0) (fun _ _ => rfl))))), ?_⟩
  rcases h with ⟨o, hd, ho⟩ | ⟨k, rfl, hk, q⟩
  · cases hd with
    | orders ht hw =>
    simp only [and_assoc, rst, rs, re, ra, rq, rx, ro, rl, rl2, rsp, rz, rix, rln, rg, rd, ri, rv, rk, rdd, rwi, at0, at1, at2, at3, upd_at, List.getElem?_cons_zero, List.getElem?_cons_succ, Option.some.injEq, exists_eq_left', exists_eq_left, List.set_cons_zero, List.set_cons_succ, true_and, and_true, HO.lst.injEq, HO.tup.injEq, exists_and_left, exists_eq, exists_eq', Br.t, Br.f, Be.t, Be.f, List.cons.injEq, List.append_nil, scal, if_true, if_false, ite_true, ite_false, eq_self_iff_true, decide_true, decide_false, Bool.not_true, Bool.not_false, reduceIte, List.nil_append, List.cons_append, reduceCtorEq, false_and, exists_false, false_or, or_false, Int.reduceLT, rlu, rdp, Bool.true_or, Bool.false_or, Bool.or_false, Bool.or_true]
    refine ⟨_, _, _, rfl, _, _, rfl, rfl, ht, ?_⟩
    simp only [and_assoc, rst, rs, re, ra, rq, rx, ro, rl, rl2, rsp, rz, rix, rln, rg, rd, ri, rv, rk, rdd, rwi, at0, at1, at2, at3, upd_at, List.getElem?_cons_zero, List.getElem?_cons_succ, Option.some.injEq, exists_eq_left', exists_eq_left, List.set_cons_zero, List.set_cons_succ, true_and, and_true, HO.lst.injEq, HO.tup.injEq, exists_and_left, exists_eq, exists_eq', Br.t, Br.f, Be.t, Be.f, List.cons.injEq, List.append_nil, scal, if_true, if_false, ite_true, ite_false, eq_self_iff_true, decide_true, decide_false, Bool.not_true, Bool.not_false, reduceIte, List.nil_append, List.cons_append, reduceCtorEq, false_and, exists_false, false_or, or_false, Int.reduceLT, rlu, rdp, Bool.true_or, Bool.false_or, Bool.or_false, Bool.or_true, hw]
    exact fun d hd => ho _ d (fun _ _ e => e) hd
  · simp only [and_assoc, rst, rs, re, ra, rq, rx, ro, rl, rl2, rsp, rz, rix, rln, rg, rd, ri, rv, rk, rdd, rwi, at0, at1, at2, at3, upd_at, List.getElem?_cons_zero, List.getElem?_cons_succ, Option.some.injEq, exists_eq_left', exists_eq_left, List.set_cons_zero, List.set_cons_succ, true_and, and_true, HO.lst.injEq, HO.tup.injEq, exists_and_left, exists_eq, exists_eq', Br.t, Br.f, Be.t, Be.f, List.cons.injEq, List.append_nil, scal, if_true, if_false, ite_true, ite_false, eq_self_iff_true, decide_true, decide_false, Bool.not_true, Bool.not_false, reduceIte, List.nil_append, List.cons_append, reduceCtorEq, false_and, exists_false, false_or, or_false, Int.reduceLT, rlu, rdp, Bool.true_or, Bool.false_or, Bool.or_false, Bool.or_true]
    refine ⟨_, _, _, rfl, _, _, rfl, rfl, ⟨"int", rfl⟩, ?_⟩
    have hw : within (.int (k : Int)) 0 20 = true := decide_eq_true (by omega)
    simp only [and_assoc, rst, rs, re, ra, rq, rx, ro, rl, rl2, rsp, rz, rix, rln, rg, rd, ri, rv, rk, rdd, rwi, at0, at1, at2, at3, upd_at, List.getElem?_cons_zero, List.getElem?_cons_succ, Option.some.injEq, exists_eq_left', exists_eq_left, List.set_cons_zero, List.set_cons_succ, true_and, and_true, HO.lst.injEq, HO.tup.injEq, exists_and_left, exists_eq, exists_eq', Br.t, Br.f, Be.t, Be.f, List.cons.injEq, List.append_nil, scal, if_true, if_false, ite_true, ite_false, eq_self_iff_true, decide_true, decide_false, Bool.not_true, Bool.not_false, reduceIte, List.nil_append, List.cons_append, reduceCtorEq, false_and, exists_false, false_or, or_false, Int.reduceLT, rlu, rdp, Bool.true_or, Bool.false_or, Bool.or_false, Bool.or_true, hw]
    refine ⟨_, rfl, k, rfl, by omega, fun p H1 s1 hp hz => ?_⟩
    simp only [and_assoc, rst, rs, re, ra, rq, rx, ro, rl, rl2, rsp, rz, rix, rln, rg, rd, ri, rv, rk, rdd, rwi, at0, at1, at2, at3, upd_at, List.getElem?_cons_zero, List.getElem?_cons_succ, Option.some.injEq, exists_eq_left', exists_eq_left, List.set_cons_zero, List.set_cons_succ, true_and, and_true, HO.lst.injEq, HO.tup.injEq, exists_and_left, exists_eq, exists_eq', Br.t, Br.f, Be.t, Be.f, List.cons.injEq, List.append_nil, scal, if_true, if_false, ite_true, ite_false, eq_self_iff_true, decide_true, decide_false, Bool.not_true, Bool.not_false, reduceIte, List.nil_append, List.cons_append, reduceCtorEq, false_and, exists_false, false_or, or_false, Int.reduceLT, rlu, rdp, Bool.true_or, Bool.false_or, Bool.or_false, Bool.or_true, hz]
    exact ⟨_, fac_at (Nat.le_refl _), q _ s1⟩
theorem ok_order_at (T : Tx K mg w) (c_is_within : Cal P w K mg base 2 "is_within" ["thing", "low", "high"] (sp_is_within K)) (c_products_to : Cal P w K mg base 1 "products_to" ["many"] (sp_products_to K)) (c_orders_many : Cal P w K mg base 4 "orders_many" ["many"] (sp_orders_many K)) (c_NoNumber : Exn P w K mg base "NoNumber" "found") : Cal P w K mg base 5 "order_at" ["many", "rank"] (sp_order_at K) := by
  refine cal_mk T.F_order_at T.g_order_at sc_order_at (len2 _) (fun _ _ _ _ _ _ us hl => match us, hl with | [_, _], _ => rfl) (fun cdv A outer s H vs Q E hr h => ?_)
  obtain ⟨v0, v1, rfl, h⟩ := h
  have hu := hu_of hr
  refine ⟨_, (pss_cons (ps_if (pt_not (pt_val (pe_cal c_is_within hr (by decide) (passes_call (takes_of rfl rfl rfl rfl) fun _ _ _ _ h => h) rfl (pa_cons (pv 1) (pa_cons pe_int (pa_cons (pe_op op_sub (pe_cal c_orders_many hr (by decide) (passes_call (takes_of rfl rfl rfl rfl) fun _ _ _ _ h => h) rfl (pa_cons (pv 0) pa_nil)) pe_int) pa_nil)))))) (pss_one (ps_rs1 c_NoNumber rfl (takes_of rfl rfl rfl rfl) hr (by decide) rfl (pa_cons (pv 1) pa_nil))) pss_nil)
      (pss_cons (ps_set (i := 2) sc_order_at.nd rfl (Or.inl rfl) (pe_cal c_products_to hr (by decide) (passes_call (takes_of rfl rfl rfl rfl) fun _ _ _ _ h => h) rfl (pa_cons (pv 0) pa_nil)))
      (pss_cons (ps_set (i := 3) sc_order_at.nd rfl (Or.inl rfl) (pe_listRg rfl (by rfl) T.n_list (prg_1 (by rfl) T.n_range (pv 0))))
      (pss_cons (ps_set (i := 4) sc_order_at.nd rfl (Or.inl rfl) (pe_lst pa_nil))
      (pss_cons (ps_for (passes_of rfl) rfl (pi_revR (by rfl) T.n_reversed (prg_1 (by rfl) T.n_range (pv 0))) (pg_name (i := 5) sc_order_at.nd rfl (Or.inl rfl)) (pss_cons (ps_asg (pe_callB call_divmodW (by rfl) T.n_divmod (by decide +kernel) (pa_cons (pv 1) (pa_cons (pe_ix ix_q (pv 2) (pv 5) (fun _ _ => rfl)) pa_nil))) (pg_tupQ rfl (pgs_cons (pg_name (i := 6) sc_order_at.nd rfl (Or.inl rfl)) (pgs_cons (pg_name (i := 1) sc_order_at.nd rfl (Or.inl rfl)) pgs_nil)) (gname_len (gname_len (fun _ _ _ _ h => gnil_len h)))))
      (pss_one (ps_expr (pe_ml PySem.F.slot_list_append PySem.F.type_list_append mt_append (pv 4) (pa_cons (pe_ml PySem.F.slot_list_pop PySem.F.type_list_pop mt_popAt (pv 3) (pa_cons (pv 6) pa_nil)) pa_nil))))))
      (pss_one (ps_ret (pe_callTy tup_q (by rfl) T.n_tuple (by decide +kernel) (pa_cons (pv 4) pa_nil))))))))), ?_⟩
  obtain ⟨o, hd, ho⟩ := h
  cases hd with
  | at1 hm hx hw =>
    simp only [and_assoc, rst, rs, re, ra, rq, rx, ro, rl, rl2, rsp, rz, rix, rln, rg, rd, ri, rv, rk, rdd, rwi, at0, at1, at2, at3, upd_at, List.getElem?_cons_zero, List.getElem?_cons_succ, Option.some.injEq, exists_eq_left', exists_eq_left, List.set_cons_zero, List.set_cons_succ, true_and, and_true, HO.lst.injEq, HO.tup.injEq, exists_and_left, exists_eq, exists_eq', Br.t, Br.f, Be.t, Be.f, List.cons.injEq, List.append_nil, scal, if_true, if_false, ite_true, ite_false, eq_self_iff_true, decide_true, decide_false, Bool.not_true, Bool.not_false, reduceIte, List.nil_append, List.cons_append, reduceCtorEq, false_and, exists_false, false_or, or_false, Int.reduceLT, rlu, rdp, Bool.true_or, Bool.false_or, Bool.or_false, Bool.or_true]
    exact ⟨_, rfl, .inl ⟨_, .orders hm hw, ho⟩⟩
  | @at2 k x r hk hx hw =>
    simp only [and_assoc, rst, rs, re, ra, rq, rx, ro, rl, rl2, rsp, rz, rix, rln, rg, rd, ri, rv, rk, rdd, rwi, at0, at1, at2, at3, upd_at, List.getElem?_cons_zero, List.getElem?_cons_succ, Option.some.injEq, exists_eq_left', exists_eq_left, List.set_cons_zero, List.set_cons_succ, true_and, and_true, HO.lst.injEq, HO.tup.injEq, exists_and_left, exists_eq, exists_eq', Br.t, Br.f, Be.t, Be.f, List.cons.injEq, List.append_nil, scal, if_true, if_false, ite_true, ite_false, eq_self_iff_true, decide_true, decide_false, Bool.not_true, Bool.not_false, reduceIte, List.nil_append, List.cons_append, reduceCtorEq, false_and, exists_false, false_or, or_false, Int.reduceLT, rlu, rdp, Bool.true_or, Bool.false_or, Bool.or_false, Bool.or_true]
    refine ⟨_, rfl, .inr ⟨k, rfl, hk, fun H1 s1 => ?_⟩⟩
    simp only [and_assoc, rst, rs, re, ra, rq, rx, ro, rl, rl2, rsp, rz, rix, rln, rg, rd, ri, rv, rk, rdd, rwi, at0, at1, at2, at3, upd_at, List.getElem?_cons_zero, List.getElem?_cons_succ, Option.some.injEq, exists_eq_left', exists_eq_left, List.set_cons_zero, List.set_cons_succ, true_and, and_true, HO.lst.injEq, HO.tup.injEq, exists_and_left, exists_eq, exists_eq', Br.t, Br.f, Be.t, Be.f, List.cons.injEq, List.append_nil, scal, if_true, if_false, ite_true, ite_false, eq_self_iff_true, decide_true, decide_false, Bool.not_true, Bool.not_false, reduceIte, List.nil_append, List.cons_append, reduceCtorEq, false_and, exists_false, false_or, or_false, Int.reduceLT, rlu, rdp, Bool.true_or, Bool.false_or, Bool.or_false, Bool.or_true]
    refine ⟨_, _, _, rfl, _, _, rfl, rfl, hx.same s1, ?_⟩
    simp only [and_assoc, rst, rs, re, ra, rq, rx, ro, rl, rl2, rsp, rz, rix, rln, rg, rd, ri, rv, rk, rdd, rwi, at0, at1, at2, at3, upd_at, List.getElem?_cons_zero, List.getElem?_cons_succ, Option.some.injEq, exists_eq_left', exists_eq_left, List.set_cons_zero, List.set_cons_succ, true_and, and_true, HO.lst.injEq, HO.tup.injEq, exists_and_left, exists_eq, exists_eq', Br.t, Br.f, Be.t, Be.f, List.cons.injEq, List.append_nil, scal, if_true, if_false, ite_true, ite_false, eq_self_iff_true, decide_true, decide_false, Bool.not_true, Bool.not_false, reduceIte, List.nil_append, List.cons_append, reduceCtorEq, false_and, exists_false, false_or, or_false, Int.reduceLT, rlu, rdp, Bool.true_or, Bool.false_or, Bool.or_false, Bool.or_true, hw]
    exact fun d hd => ho _ d s1 hd
  | @at3 k r hk =>
    simp only [and_assoc, rst, rs, re, ra, rq, rx, ro, rl, rl2, rsp, rz, rix, rln, rg, rd, ri, rv, rk, rdd, rwi, at0, at1, at2, at3, upd_at, List.getElem?_cons_zero, List.getElem?_cons_succ, Option.some.injEq, exists_eq_left', exists_eq_left, List.set_cons_zero, List.set_cons_succ, true_and, and_true, HO.lst.injEq, HO.tup.injEq, exists_and_left, exists_eq, exists_eq', Br.t, Br.f, Be.t, Be.f, List.cons.injEq, List.append_nil, scal, if_true, if_false, ite_true, ite_false, eq_self_iff_true, decide_true, decide_false, Bool.not_true, Bool.not_false, reduceIte, List.nil_append, List.cons_append, reduceCtorEq, false_and, exists_false, false_or, or_false, Int.reduceLT, rlu, rdp, Bool.true_or, Bool.false_or, Bool.or_false, Bool.or_true]
    refine ⟨_, rfl, .inr ⟨k, rfl, hk, fun H1 s1 => ?_⟩⟩
    simp only [and_assoc, rst, rs, re, ra, rq, rx, ro, rl, rl2, rsp, rz, rix, rln, rg, rd, ri, rv, rk, rdd, rwi, at0, at1, at2, at3, upd_at, List.getElem?_cons_zero, List.getElem?_cons_succ, Option.some.injEq, exists_eq_left', exists_eq_left, List.set_cons_zero, List.set_cons_succ, true_and, and_true, HO.lst.injEq, HO.tup.injEq, exists_and_left, exists_eq, exists_eq', Br.t, Br.f, Be.t, Be.f, List.cons.injEq, List.append_nil, scal, if_true, if_false, ite_true, ite_false, eq_self_iff_true, decide_true, decide_false, Bool.not_true, Bool.not_false, reduceIte, List.nil_append, List.cons_append, reduceCtorEq, false_and, exists_false, false_or, or_false, Int.reduceLT, rlu, rdp, Bool.true_or, Bool.false_or, Bool.or_false, Bool.or_true]
    refine ⟨_, _, _, rfl, _, _, rfl, rfl, ⟨"int", rfl⟩, ?_⟩
    have hw : within (.int 0) 0 (fac k - 1) = true := decide_eq_true ⟨by omega, by have := fac_pos k; omega⟩
    simp only [and_assoc, rst, rs, re, ra, rq, rx, ro, rl, rl2, rsp, rz, rix, rln, rg, rd, ri, rv, rk, rdd, rwi, at0, at1, at2, at3, upd_at, List.getElem?_cons_zero, List.getElem?_cons_succ, Option.some.injEq, exists_eq_left', exists_eq_left, List.set_cons_zero, List.set_cons_succ, true_and, and_true, HO.lst.injEq, HO.tup.injEq, exists_and_left, exists_eq, exists_eq', Br.t, Br.f, Be.t, Be.f, List.cons.injEq, List.append_nil, scal, if_true, if_false, ite_true, ite_false, eq_self_iff_true, decide_true, decide_false, Bool.not_true, Bool.not_false, reduceIte, List.nil_append, List.cons_append, reduceCtorEq, false_and, exists_false, false_or, or_false, Int.reduceLT, rlu, rdp, Bool.true_or, Bool.false_or, Bool.or_false, Bool.or_true, hw]
    refine ⟨_, rfl, k, rfl, by omega, fun p H2 s2 hp hz => ?_⟩
    simp only [and_assoc, rst, rs, re, ra, rq, rx, ro, rl, rl2, rsp, rz, rix, rln, rg, rd, ri, rv, rk, rdd, rwi, at0, at1, at2, at3, upd_at, List.getElem?_cons_zero, List.getElem?_cons_succ, Option.some.injEq, exists_eq_left', exists_eq_left, List.set_cons_zero, List.set_cons_succ, true_and, and_true, HO.lst.injEq, HO.tup.injEq, exists_and_left, exists_eq, exists_eq', Br.t, Br.f, Be.t, Be.f, List.cons.injEq, List.append_nil, scal, if_true, if_false, ite_true, ite_false, eq_self_iff_true, decide_true, decide_false, Bool.not_true, Bool.not_false, reduceIte, List.nil_append, List.cons_append, reduceCtorEq, false_and, exists_false, false_or, or_false, Int.reduceLT, rlu, rdp, Bool.true_or, Bool.false_or, Bool.or_false, Bool.or_true]
    refine ⟨⟨by decide, by decide, by omega, by omega, by omega⟩, fun l hl f hf => ⟨by decide, by decide, by omega, by omega, ?_⟩⟩
    have n1 := ne_of_none hz hl
    have hz1 : upd H2 l (.lst (rgV 0 k)) p = some (.lst ((List.range (k + 1)).map fun j => V.int (fac j))) := by rw [upd_ne n1]; exact hz
    have n2 := ne_of_none hz1 hf
    have n3 := ne_of_none (upd_same (H := H2) (a := l) (o := .lst (rgV 0 k))) hf
    have fl : H1 l = none := Same.free s2 hl
    have sl : Same H1 (upd H2 l (.lst (rgV 0 k))) := Same.trans s2 (Same.new hl)
    have ff : H1 f = none := Same.free sl hf
    rw [show ((k : Int) - 0).toNat = k by omega]
    refine FI.rngC (fun i σ H' => ∃ v5 v6 xs ys, Same H1 H' ∧ H' p = some (.lst ((List.range (k + 1)).map fun j => V.int (fac j))) ∧ H' l = some (.lst xs) ∧ xs.length + i = k ∧ H' f = some (.lst ys) ∧ ys.length = i ∧ σ = [some (.int k), some (.int 0), some (.ref p), some (.ref l), some (.ref f), v5, v6])
      ⟨none, none, _, [], Same.trans sl (Same.new hf), by rw [upd_ne n2]; exact hz1, by rw [upd_ne n3]; exact upd_same, by simp [rgV], upd_same, rfl, rfl⟩ ?_ ?_
    · rintro i σ H' hi ⟨v5, v6, xs, ys, s, h1, h2, h3, h4, h5, rfl⟩
      simp only [and_assoc, rst, rs, re, ra, rq, rx, ro, rl, rl2, rsp, rz, rix, rln, rg, rd, ri, rv, rk, rdd, rwi, at0, at1, at2, at3, upd_at, List.getElem?_cons_zero, List.getElem?_cons_succ, Option.some.injEq, exists_eq_left', exists_eq_left, List.set_cons_zero, List.set_cons_succ, true_and, and_true, HO.lst.injEq, HO.tup.injEq, exists_and_left, exists_eq, exists_eq', Br.t, Br.f, Be.t, Be.f, List.cons.injEq, List.append_nil, scal, if_true, if_false, ite_true, ite_false, eq_self_iff_true, decide_true, decide_false, Bool.not_true, Bool.not_false, reduceIte, List.nil_append, List.cons_append, reduceCtorEq, false_and, exists_false, false_or, or_false, Int.reduceLT, rlu, rdp, Bool.true_or, Bool.false_or, Bool.or_false, Bool.or_true, h1]
      have e1 : (0 : Int) + (k : Int) - 1 + (i : Int) * -1 = ((k - 1 - i : Nat) : Int) := by omega
      have e2 := fac_small (k - 1 - i) (by omega)
      have e3 := fac_pos (k - 1 - i)
      rw [e1]
      refine ⟨_, fac_at (by omega), _, rfl, divp_ok (by omega) (Nat.le_trans (by decide : Builtin.Int.intBits 0 ≤ 4000) (Nat.le_add_left _ _)), fun T hT => ?_⟩
      have a1 := eq_false (ne_of_none h1 hT)
      have a2 := eq_false (ne_of_none h2 hT)
      have a3 := eq_false (ne_of_none h4 hT)
      have a4 : (f = l) = False := eq_false fun z => n3 z.symm
      have a5 : (l = f) = False := eq_false n3
      have a6 : (p = l) = False := eq_false n1
      have a7 : (p = f) = False := eq_false n2
      obtain ⟨x, xr, rfl⟩ : ∃ x xr, xs = x :: xr := by
        cases xs with
        | nil => simp at h3; omega
        | cons x xr => exact ⟨x, xr, rfl⟩
      simp only [and_assoc, rst, rs, re, ra, rq, rx, ro, rl, rl2, rsp, rz, rix, rln, rg, rd, ri, rv, rk, rdd, rwi, at0, at1, at2, at3, upd_at, List.getElem?_cons_zero, List.getElem?_cons_succ, Option.some.injEq, exists_eq_left', exists_eq_left, List.set_cons_zero, List.set_cons_succ, true_and, and_true, HO.lst.injEq, HO.tup.injEq, exists_and_left, exists_eq, exists_eq', Br.t, Br.f, Be.t, Be.f, List.cons.injEq, List.append_nil, scal, if_true, if_false, ite_true, ite_false, eq_self_iff_true, decide_true, decide_false, Bool.not_true, Bool.not_false, reduceIte, List.nil_append, List.cons_append, reduceCtorEq, false_and, exists_false, false_or, or_false, Int.reduceLT, rlu, rdp, Bool.true_or, Bool.false_or, Bool.or_false, Bool.or_true, a1, a2, a3, a4, a5, a6, a7, Int.zero_ediv, Int.zero_emod, h2, h4]
      refine ⟨by decide, by decide, 0, by simp [seqIndex?], x, rfl, by rw [sizeLine_eq]; omega, Same.mut (Same.mut (Same.trans s (Same.new hT)) fl) ff, ?_, by rw [List.length_append, h5]; rfl⟩
      have : (x :: xr).length = xr.length + 1 := rfl
      show xr.length + (i + 1) = k
      omega
    · rintro σ H' ⟨v5, v6, xs, ys, s, h1, h2, h3, h4, h5, rfl⟩
      simp only [and_assoc, rst, rs, re, ra, rq, rx, ro, rl, rl2, rsp, rz, rix, rln, rg, rd, ri, rv, rk, rdd, rwi, at0, at1, at2, at3, upd_at, List.getElem?_cons_zero, List.getElem?_cons_succ, Option.some.injEq, exists_eq_left', exists_eq_left, List.set_cons_zero, List.set_cons_succ, true_and, and_true, HO.lst.injEq, HO.tup.injEq, exists_and_left, exists_eq, exists_eq', Br.t, Br.f, Be.t, Be.f, List.cons.injEq, List.append_nil, scal, if_true, if_false, ite_true, ite_false, eq_self_iff_true, decide_true, decide_false, Bool.not_true, Bool.not_false, reduceIte, List.nil_append, List.cons_append, reduceCtorEq, false_and, exists_false, false_or, or_false, Int.reduceLT, rlu, rdp, Bool.true_or, Bool.false_or, Bool.or_false, Bool.or_true, h4]
      exact fun q hq => ho _ _ (Same.trans s1 (Same.trans s (Same.new hq)))
theorem ok_order_rank (T : Tx K mg w) (c_is_order : Cal P w K mg base 3 "is_order" ["thing"] (sp_is_order K)) (c_products_to : Cal P w K mg base 1 "products_to" ["many"] (sp_products_to K)) (c_NoOrder : Exn P w K mg base "NoOrder" "found") : Cal P w K mg base 4 "order_rank" ["order"] (sp_order_rank K) := by
  refine cal_mk T.F_order_rank T.g_order_rank sc_order_rank (len1 _) (fun _ _ _ _ _ _ us hl => match us, hl with | [_], _ => rfl) (fun cdv A outer s H vs Q E hr h => ?_)
  obtain ⟨v0, rfl, h⟩ := h
  have hu := hu_of hr
  refine ⟨_, (pss_cons (ps_if (PW.pt (pw_or (pt_not (pt_val (pe_cal c_is_order hr (by decide) (passes_call (takes_of rfl rfl rfl rfl) fun _ _ _ _ h => h) rfl (pa_cons (pv 0) pa_nil)))) (pw_or1 (pt_cmpR op_gt (pe_callB len_q (by rfl) T.n_len (by decide +kernel) (pa_cons (pv 0) pa_nil)) (pe_gint rfl T.k_MOST_RANKED) (nomark _))))) (pss_one (ps_rs1 c_NoOrder rfl (takes_of rfl rfl rfl rfl) hr (by decide) rfl (pa_cons (pv 0) pa_nil))) pss_nil)
      (pss_cons (ps_set (i := 1) sc_order_rank.nd rfl (Or.inl rfl) (pe_cal c_products_to hr (by decide) (passes_call (takes_of rfl rfl rfl rfl) fun _ _ _ _ h => h) rfl (pa_cons (pe_callB len_q (by rfl) T.n_len (by decide +kernel) (pa_cons (pv 0) pa_nil)) pa_nil)))
      (pss_cons (ps_set (i := 2) sc_order_rank.nd rfl (Or.inl rfl) pe_int)
      (pss_cons (ps_for (passes_of rfl) rfl (pi_enum (by rfl) T.n_enumerate (pa_cons (pv 0) pa_nil)) (pg_tup rfl (pgs_cons (pg_name (i := 3) sc_order_rank.nd rfl (Or.inl rfl)) (pgs_cons (pg_name (i := 4) sc_order_rank.nd rfl (Or.inr rfl)) pgs_nil))) (pss_cons (ps_set (i := 5) sc_order_rank.nd rfl (Or.inl rfl) (pe_callB len_q (by rfl) T.n_len (by decide +kernel) (pa_cons (pe_lc (own := [("other", 6)]) (g := (gName 6)) rfl sc_order_rank.nd (pi_q (pe_slice sl_list (pv 0) (po_some (pe_op op_add (pv 3) pe_int)) po_none)) (blkOk_by (N := nm_order_rank) (sc := defScope s_order_rank) (by decide +kernel)) (fun _ _ _ _ _ => (pg_name (i := 6) sc_order_rank.nd rfl (Or.inl rfl))) (fun _ _ _ _ _ => (pts_one (pt_cmpR op_lt (pv 6) (pv 4) (nomark _)))) (fun _ _ _ _ _ => (pv 6))) pa_nil)))
      (pss_one (ps_aug (i := 2) sc_order_rank.nd rfl (Or.inl rfl) (pe_op op_mulA (pv 5) (pe_ix ix_q (pv 1) (pe_op op_sub (pe_op op_sub (pe_callB len_q (by rfl) T.n_len (by decide +kernel) (pa_cons (pv 0) pa_nil)) pe_int) (pv 3)) (fun _ _ => rfl))) ip_add))))
      (pss_one (ps_ret (pv 2))))))), ?_⟩
  obtain ⟨o, hd, ho⟩ := h
  cases hd with
  | rank hb hl =>
  simp only [and_assoc, rst, rs, re, ra, rq, rx, ro, rl, rl2, rsp, rz, rix, rln, rg, rd, ri, rv, rk, rdd, rwi, at0, at1, at2, at3, upd_at, List.getElem?_cons_zero, List.getElem?_cons_succ, Option.some.injEq, exists_eq_left', exists_eq_left, List.set_cons_zero, List.set_cons_succ, true_and, and_true, HO.lst.injEq, HO.tup.injEq, exists_and_left, exists_eq, exists_eq', Br.t, Br.f, Be.t, Be.f, List.cons.injEq, List.append_nil, scal, if_true, if_false, ite_true, ite_false, eq_self_iff_true, decide_true, decide_false, Bool.not_true, Bool.not_false, reduceIte, List.nil_append, List.cons_append, reduceCtorEq, false_and, exists_false, false_or, or_false, Int.reduceLT, rlu, rdp, Bool.true_or, Bool.false_or, Bool.or_false, Bool.or_true]
  refine ⟨_, rfl, _, hb, fun H1 s1 => ?_⟩
  simp only [and_assoc, rst, rs, re, ra, rq, rx, ro, rl, rl2, rsp, rz, rix, rln, rg, rd, ri, rv, rk, rdd, rwi, at0, at1, at2, at3, upd_at, List.getElem?_cons_zero, List.getElem?_cons_succ, Option.some.injEq, exists_eq_left', exists_eq_left, List.set_cons_zero, List.set_cons_succ, true_and, and_true, HO.lst.injEq, HO.tup.injEq, exists_and_left, exists_eq, exists_eq', Br.t, Br.f, Be.t, Be.f, List.cons.injEq, List.append_nil, scal, if_true, if_false, ite_true, ite_false, eq_self_iff_true, decide_true, decide_false, Bool.not_true, Bool.not_false, reduceIte, List.nil_append, List.cons_append, reduceCtorEq, false_and, exists_false, false_or, or_false, Int.reduceLT, rlu, rdp, Bool.true_or, Bool.false_or, Bool.or_false, Bool.or_true]
  refine Be.of (fun c => ?_) fun c => ?_
  · exact fun d hd => ho _ d s1 hd
  · obtain ⟨xs, ⟨p, o, rfl, hp, hs⟩, hl⟩ := hl (by simpa using c)
    refine ⟨p, rfl, _, s1 _ _ hp, _, hs, ?_⟩
    rw [show decide ((20 : Int) < (xs.length : Int)) = true from decide_eq_true (by omega)]
    simp only [and_assoc, rst, rs, re, ra, rq, rx, ro, rl, rl2, rsp, rz, rix, rln, rg, rd, ri, rv, rk, rdd, rwi, at0, at1, at2, at3, upd_at, List.getElem?_cons_zero, List.getElem?_cons_succ, Option.some.injEq, exists_eq_left', exists_eq_left, List.set_cons_zero, List.set_cons_succ, true_and, and_true, HO.lst.injEq, HO.tup.injEq, exists_and_left, exists_eq, exists_eq', Br.t, Br.f, Be.t, Be.f, List.cons.injEq, List.append_nil, scal, if_true, if_false, ite_true, ite_false, eq_self_iff_true, decide_true, decide_false, Bool.not_true, Bool.not_false, reduceIte, List.nil_append, List.cons_append, reduceCtorEq, false_and, exists_false, false_or, or_false, Int.reduceLT, rlu, rdp, Bool.true_or, Bool.false_or, Bool.or_false, Bool.or_true]
    exact fun d hd => ho _ d s1 hd
theorem ord_ints {xs : List V} (h : ordL xs = true) : ∃ ns : List Int, xs = ns.map V.int ∧ ns.length ≤ 60 := by
  obtain ⟨h1, h2, _⟩ := of_decide_eq_true h
  refine ⟨xs.map numV, ?_, by rw [List.length_map]; exact h1⟩
  rw [List.map_map]
  refine (List.map_id _).symm.trans (List.map_congr_left fun x hx => ?_)
  have := h2 x hx
  cases x with
  | int z => rfl
  | _ => cases this
theorem ok_next_order (T : Tx K mg w) (c_need_order : Cal P w K mg base 4 "need_order" ["thing"] (sp_need_order K)) (c_exchange : Cal P w K mg base 1 "exchange" ["row", "one", "other"] (sp_exchange K))  : Cal P w K mg base 5 "next_order" ["order"] (sp_next_order K) := by
  refine cal_mk T.F_next_order T.g_next_order sc_next_order (len1 _) (fun _ _ _ _ _ _ us hl => match us, hl with | [_], _ => rfl) (fun cdv A outer s H vs Q E hr h => ?_)
  obtain ⟨v0, rfl, h⟩ := h
  have hu := hu_of hr
  refine ⟨_, (pss_cons (ps_expr (pe_cal c_need_order hr (by decide) (passes_call (takes_of rfl rfl rfl rfl) fun _ _ _ _ h => h) rfl (pa_cons (pv 0) pa_nil)))
      (pss_cons (ps_set (i := 1) sc_next_order.nd rfl (Or.inl rfl) (pe_callTy lst_q (by rfl) T.n_list (by decide +kernel) (pa_cons (pv 0) pa_nil)))
      (pss_cons (ps_set (i := 2) sc_next_order.nd rfl (Or.inl rfl) (pe_op op_sub (pe_callB len_q (by rfl) T.n_len (by decide +kernel) (pa_cons (pv 1) pa_nil)) pe_int))
      (pss_cons (ps_while (passes_of rfl) (PW.pt (pw_and (pt_cmpR op_ge (pv 2) pe_int (nomark _)) (pw_and1 (pt_cmpR op_gt (pe_ix ix_q (pv 1) (pv 2) (fun _ _ => rfl)) (pe_ix ix_q (pv 1) (pe_op op_add (pv 2) pe_int) (fun _ _ => rfl)) (nomark _))))) (pss_one (ps_aug (i := 2) sc_next_order.nd rfl (Or.inl rfl) pe_int ip_sub)))
      (pss_cons (ps_if (pt_cmpR op_lt (pv 2) pe_int (nomark _)) (pss_one (ps_ret pe_non)) pss_nil)
      (pss_cons (ps_set (i := 3) sc_next_order.nd rfl (Or.inl rfl) (pe_op op_sub (pe_callB len_q (by rfl) T.n_len (by decide +kernel) (pa_cons (pv 1) pa_nil)) pe_int))
      (pss_cons (ps_while (passes_of rfl) (pt_cmpR op_lt (pe_ix ix_q (pv 1) (pv 3) (fun _ _ => rfl)) (pe_ix ix_q (pv 1) (pv 2) (fun _ _ => rfl)) (nomark _)) (pss_one (ps_aug (i := 3) sc_next_order.nd rfl (Or.inl rfl) pe_int ip_sub)))
      (pss_cons (ps_expr (pe_cal c_exchange hr (by decide) (passes_call (takes_of rfl rfl rfl rfl) fun _ _ _ _ h => h) rfl (pa_cons (pv 1) (pa_cons (pv 2) (pa_cons (pv 3) pa_nil)))))
      (pss_one (ps_ret (pe_callTy tup_q (by rfl) T.n_tuple (by decide +kernel) (pa_cons (pe_op op_cat (pe_slice sl_list (pv 1) po_none (po_some (pe_op op_add (pv 2) pe_int))) (pe_revL (pe_slice sl_list (pv 1) (po_some (pe_op op_add (pv 2) pe_int)) po_none))) pa_nil)))))))))))), ?_⟩
  obtain ⟨o, hd, ho⟩ := h
  cases hd with
  | next1 hb =>
    simp only [and_assoc, rst, rs, re, ra, rq, rx, ro, rl, rl2, rsp, rz, rix, rln, rg, rd, ri, rv, rk, rdd, rwi, at0, at1, at2, at3, upd_at, List.getElem?_cons_zero, List.getElem?_cons_succ, Option.some.injEq, exists_eq_left', exists_eq_left, List.set_cons_zero, List.set_cons_succ, true_and, and_true, HO.lst.injEq, HO.tup.injEq, exists_and_left, exists_eq, exists_eq', Br.t, Br.f, Be.t, Be.f, List.cons.injEq, List.append_nil, scal, if_true, if_false, ite_true, ite_false, eq_self_iff_true, decide_true, decide_false, Bool.not_true, Bool.not_false, reduceIte, List.nil_append, List.cons_append, reduceCtorEq, false_and, exists_false, false_or, or_false, Int.reduceLT, rlu, rdp, Bool.true_or, Bool.false_or, Bool.or_false, Bool.or_true]
    exact ⟨_, rfl, false, hb, nofun, fun _ => ho⟩
  | next2 hb =>
    rcases id hb with ⟨xs, ⟨p, o, rfl, hp, hs⟩, ht, hx⟩ | ⟨_, z⟩
    · obtain ⟨ns, rfl, hn⟩ := ord_ints hx.symm
      simp only [and_assoc, rst, rs, re, ra, rq, rx, ro, rl, rl2, rsp, rz, rix, rln, rg, rd, ri, rv, rk, rdd, rwi, at0, at1, at2, at3, upd_at, List.getElem?_cons_zero, List.getElem?_cons_succ, Option.some.injEq, exists_eq_left', exists_eq_left, List.set_cons_zero, List.set_cons_succ, true_and, and_true, HO.lst.injEq, HO.tup.injEq, exists_and_left, exists_eq, exists_eq', Br.t, Br.f, Be.t, Be.f, List.cons.injEq, List.append_nil, scal, if_true, if_false, ite_true, ite_false, eq_self_iff_true, decide_true, decide_false, Bool.not_true, Bool.not_false, reduceIte, List.nil_append, List.cons_append, reduceCtorEq, false_and, exists_false, false_or, or_false, Int.reduceLT, rlu, rdp, Bool.true_or, Bool.false_or, Bool.or_false, Bool.or_true]
      refine ⟨_, rfl, true, hb, fun _ H1 s1 => ?_, nofun⟩
      simp only [and_assoc, rst, rs, re, ra, rq, rx, ro, rl, rl2, rsp, rz, rix, rln, rg, rd, ri, rv, rk, rdd, rwi, at0, at1, at2, at3, upd_at, List.getElem?_cons_zero, List.getElem?_cons_succ, Option.some.injEq, exists_eq_left', exists_eq_left, List.set_cons_zero, List.set_cons_succ, true_and, and_true, HO.lst.injEq, HO.tup.injEq, exists_and_left, exists_eq, exists_eq', Br.t, Br.f, Be.t, Be.f, List.cons.injEq, List.append_nil, scal, if_true, if_false, ite_true, ite_false, eq_self_iff_true, decide_true, decide_false, Bool.not_true, Bool.not_false, reduceIte, List.nil_append, List.cons_append, reduceCtorEq, false_and, exists_false, false_or, or_false, Int.reduceLT, rlu, rdp, Bool.true_or, Bool.false_or, Bool.or_false, Bool.or_true]
      refine ⟨_, s1 _ _ hp, _, hs, fun l hl => ?_⟩
      have fl : H l = none := Same.free s1 hl
      refine wh (fun m σ H' => ∃ z : Int, Same H H' ∧ H' l = some (.lst (ns.map V.int)) ∧ z + 2 = m ∧ z ≤ (ns.length : Int) - 2 ∧ σ = [some (.ref p), some (.ref l), some (.int z), none]) ns.length ⟨_, Same.trans s1 (Same.new hl), upd_same, by omega, Int.le_refl _, ?_⟩ ?_
      · rw [List.length_map]
      · rintro m σ H' ⟨z, s, h1, hm, hz, rfl⟩
        have fin : ∀ z : Int, z ≤ (ns.length : Int) - 2 → z < 0 → Q .non H' := fun _ _ _ => ho _ _ s
        simp only [and_assoc, rst, rs, re, ra, rq, rx, ro, rl, rl2, rsp, rz, rix, rln, rg, rd, ri, rv, rk, rdd, rwi, at0, at1, at2, at3, upd_at, List.getElem?_cons_zero, List.getElem?_cons_succ, Option.some.injEq, exists_eq_left', exists_eq_left, List.set_cons_zero, List.set_cons_succ, true_and, and_true, HO.lst.injEq, HO.tup.injEq, exists_and_left, exists_eq, exists_eq', Br.t, Br.f, Be.t, Be.f, List.cons.injEq, List.append_nil, scal, if_true, if_false, ite_true, ite_false, eq_self_iff_true, decide_true, decide_false, Bool.not_true, Bool.not_false, reduceIte, List.nil_append, List.cons_append, reduceCtorEq, false_and, exists_false, false_or, or_false, Int.reduceLT, rlu, rdp, Bool.true_or, Bool.false_or, Bool.or_false, Bool.or_true, h1]
        refine Be.d (fun c => ?_) fun c => ?_
        · obtain ⟨k, rfl⟩ : ∃ k : Nat, z = (k : Int) := ⟨z.toNat, by omega⟩
          have k1 : k + 1 < ns.length := by omega
          simp only [and_assoc, rst, rs, re, ra, rq, rx, ro, rl, rl2, rsp, rz, rix, rln, rg, rd, ri, rv, rk, rdd, rwi, at0, at1, at2, at3, upd_at, List.getElem?_cons_zero, List.getElem?_cons_succ, Option.some.injEq, exists_eq_left', exists_eq_left, List.set_cons_zero, List.set_cons_succ, true_and, and_true, HO.lst.injEq, HO.tup.injEq, exists_and_left, exists_eq, exists_eq', Br.t, Br.f, Be.t, Be.f, List.cons.injEq, List.append_nil, scal, if_true, if_false, ite_true, ite_false, eq_self_iff_true, decide_true, decide_false, Bool.not_true, Bool.not_false, reduceIte, List.nil_append, List.cons_append, reduceCtorEq, false_and, exists_false, false_or, or_false, Int.reduceLT, rlu, rdp, Bool.true_or, Bool.false_or, Bool.or_false, Bool.or_true, h1]
          refine ⟨_, atI_nat (by rw [List.getElem?_map, List.getElem?_eq_getElem (by omega)]; rfl), ?_⟩
          rw [show (k : Int) + 1 = ((k + 1 : Nat) : Int) by omega]
          refine ⟨_, atI_nat (by rw [List.getElem?_map, List.getElem?_eq_getElem k1]; rfl), _, rfl, _, rfl, Br.d (fun c2 => ?_) fun c2 => ?_⟩
          · refine Nx.go ?_
            simp only [and_assoc, rst, rs, re, ra, rq, rx, ro, rl, rl2, rsp, rz, rix, rln, rg, rd, ri, rv, rk, rdd, rwi, at0, at1, at2, at3, upd_at, List.getElem?_cons_zero, List.getElem?_cons_succ, Option.some.injEq, exists_eq_left', exists_eq_left, List.set_cons_zero, List.set_cons_succ, true_and, and_true, HO.lst.injEq, HO.tup.injEq, exists_and_left, exists_eq, exists_eq', Br.t, Br.f, Be.t, Be.f, List.cons.injEq, List.append_nil, scal, if_true, if_false, ite_true, ite_false, eq_self_iff_true, decide_true, decide_false, Bool.not_true, Bool.not_false, reduceIte, List.nil_append, List.cons_append, reduceCtorEq, false_and, exists_false, false_or, or_false, Int.reduceLT, rlu, rdp, Bool.true_or, Bool.false_or, Bool.or_false, Bool.or_true]
            exact ⟨m - 1, by omega, s, h1, _, by omega, by omega, rfl⟩
          · simp only [and_assoc, rst, rs, re, ra, rq, rx, ro, rl, rl2, rsp, rz, rix, rln, rg, rd, ri, rv, rk, rdd, rwi, at0, at1, at2, at3, upd_at, List.getElem?_cons_zero, List.getElem?_cons_succ, Option.some.injEq, exists_eq_left', exists_eq_left, List.set_cons_zero, List.set_cons_succ, true_and, and_true, HO.lst.injEq, HO.tup.injEq, exists_and_left, exists_eq, exists_eq', Br.t, Br.f, Be.t, Be.f, List.cons.injEq, List.append_nil, scal, if_true, if_false, ite_true, ite_false, eq_self_iff_true, decide_true, decide_false, Bool.not_true, Bool.not_false, reduceIte, List.nil_append, List.cons_append, reduceCtorEq, false_and, exists_false, false_or, or_false, Int.reduceLT, rlu, rdp, Bool.true_or, Bool.false_or, Bool.or_false, Bool.or_true]
            rw [show decide ((k : Int) < 0) = false from decide_eq_false (by omega)]
            simp only [and_assoc, rst, rs, re, ra, rq, rx, ro, rl, rl2, rsp, rz, rix, rln, rg, rd, ri, rv, rk, rdd, rwi, at0, at1, at2, at3, upd_at, List.getElem?_cons_zero, List.getElem?_cons_succ, Option.some.injEq, exists_eq_left', exists_eq_left, List.set_cons_zero, List.set_cons_succ, true_and, and_true, HO.lst.injEq, HO.tup.injEq, exists_and_left, exists_eq, exists_eq', Br.t, Br.f, Be.t, Be.f, List.cons.injEq, List.append_nil, scal, if_true, if_false, ite_true, ite_false, eq_self_iff_true, decide_true, decide_false, Bool.not_true, Bool.not_false, reduceIte, List.nil_append, List.cons_append, reduceCtorEq, false_and, exists_false, false_or, or_false, Int.reduceLT, rlu, rdp, Bool.true_or, Bool.false_or, Bool.or_false, Bool.or_true, h1]
            refine wh (fun m σ H' => ∃ z : Nat, Same H H' ∧ H' l = some (.lst (ns.map V.int)) ∧ z = m ∧ k + 1 ≤ z ∧ z < ns.length ∧ σ = [some (.ref p), some (.ref l), some (.int k), some (.int (z : Int))]) (ns.length - 1) ⟨_, s, h1, rfl, by omega, by omega, ?_⟩ ?_
            · rw [List.length_map, show ((ns.length - 1 : Nat) : Int) = (ns.length : Int) - 1 by omega]
            · rintro m σ H' ⟨z, s, h1, hm, hz1, hz2, rfl⟩
              simp only [and_assoc, rst, rs, re, ra, rq, rx, ro, rl, rl2, rsp, rz, rix, rln, rg, rd, ri, rv, rk, rdd, rwi, at0, at1, at2, at3, upd_at, List.getElem?_cons_zero, List.getElem?_cons_succ, Option.some.injEq, exists_eq_left', exists_eq_left, List.set_cons_zero, List.set_cons_succ, true_and, and_true, HO.lst.injEq, HO.tup.injEq, exists_and_left, exists_eq, exists_eq', Br.t, Br.f, Be.t, Be.f, List.cons.injEq, List.append_nil, scal, if_true, if_false, ite_true, ite_false, eq_self_iff_true, decide_true, decide_false, Bool.not_true, Bool.not_false, reduceIte, List.nil_append, List.cons_append, reduceCtorEq, false_and, exists_false, false_or, or_false, Int.reduceLT, rlu, rdp, Bool.true_or, Bool.false_or, Bool.or_false, Bool.or_true, h1]
              refine ⟨_, atI_nat (by rw [List.getElem?_map, List.getElem?_eq_getElem hz2]; rfl), _, atI_nat (by rw [List.getElem?_map, List.getElem?_eq_getElem (by omega)]; rfl), _, rfl, _, rfl, Br.d (fun c3 => ?_) fun c3 => ?_⟩
              · refine Nx.go ?_
                simp only [and_assoc, rst, rs, re, ra, rq, rx, ro, rl, rl2, rsp, rz, rix, rln, rg, rd, ri, rv, rk, rdd, rwi, at0, at1, at2, at3, upd_at, List.getElem?_cons_zero, List.getElem?_cons_succ, Option.some.injEq, exists_eq_left', exists_eq_left, List.set_cons_zero, List.set_cons_succ, true_and, and_true, HO.lst.injEq, HO.tup.injEq, exists_and_left, exists_eq, exists_eq', Br.t, Br.f, Be.t, Be.f, List.cons.injEq, List.append_nil, scal, if_true, if_false, ite_true, ite_false, eq_self_iff_true, decide_true, decide_false, Bool.not_true, Bool.not_false, reduceIte, List.nil_append, List.cons_append, reduceCtorEq, false_and, exists_false, false_or, or_false, Int.reduceLT, rlu, rdp, Bool.true_or, Bool.false_or, Bool.or_false, Bool.or_true]
                have hne : z ≠ k + 1 := fun e => by
                  subst e
                  exact absurd c3 c2
                exact ⟨m - 1, by omega, s, h1, by omega, by omega, by rw [show ((m - 1 : Nat) : Int) = (z : Int) - 1 by omega]⟩
              · simp only [and_assoc, rst, rs, re, ra, rq, rx, ro, rl, rl2, rsp, rz, rix, rln, rg, rd, ri, rv, rk, rdd, rwi, at0, at1, at2, at3, upd_at, List.getElem?_cons_zero, List.getElem?_cons_succ, Option.some.injEq, exists_eq_left', exists_eq_left, List.set_cons_zero, List.set_cons_succ, true_and, and_true, HO.lst.injEq, HO.tup.injEq, exists_and_left, exists_eq, exists_eq', Br.t, Br.f, Be.t, Be.f, List.cons.injEq, List.append_nil, scal, if_true, if_false, ite_true, ite_false, eq_self_iff_true, decide_true, decide_false, Bool.not_true, Bool.not_false, reduceIte, List.nil_append, List.cons_append, reduceCtorEq, false_and, exists_false, false_or, or_false, Int.reduceLT, rlu, rdp, Bool.true_or, Bool.false_or, Bool.or_false, Bool.or_true]
                refine ⟨_, _, _, rfl, l, _, k, z, _, _, rfl, h1, rfl, rfl, by rw [List.getElem?_map, List.getElem?_eq_getElem (by omega)]; rfl, by rw [List.getElem?_map, List.getElem?_eq_getElem hz2]; rfl, ?_⟩
                generalize hL : List.set (List.set _ _ _) _ _ = L
                have lL : L.length ≤ 60 := by rw [← hL, List.length_set, List.length_set, List.length_map]; exact hn
                have s2 : Same H (upd H' l (.lst L)) := Same.mut s fl
                have h2 : (upd H' l (.lst L)) l = some (.lst L) := upd_same
                generalize upd H' l (.lst L) = H2 at s2 h2 ⊢
                refine ⟨_, SqL.of h2, fun a ha => ⟨_, SqL.of (by rw [upd_ne (ne_of_none h2 ha)]; exact h2), fun a1 ha1 => ⟨_, SqL.of upd_same, fun a2 ha2 => ?_⟩⟩⟩
                obtain ⟨q1, r1⟩ := ite_none ha1
                obtain ⟨q2, r2⟩ := ite_none ha2
                obtain ⟨q3, r3⟩ := ite_none r2
                rw [if_neg (fun z => q3 z.symm), if_neg (fun z => q1 z.symm)]
                refine ⟨_, rfl, ?_, fun a3 ha3 a4 ha4 => ho _ _ (Same.trans s2 (Same.trans (Same.new ha) (Same.trans (Same.new ha1) (Same.trans (Same.new ha2) (Same.trans (Same.new ha3) (Same.new ha4))))))⟩
                have l1 := cutV_length L none (some ((k : Int) + 1))
                have l2 := cutV_length L (some ((k : Int) + 1)) none
                rw [List.length_reverse, sizeLine_eq]
                omega
        · refine Br.d (fun _ => ?_) fun c2 => absurd c2 (by omega)
          simp only [and_assoc, rst, rs, re, ra, rq, rx, ro, rl, rl2, rsp, rz, rix, rln, rg, rd, ri, rv, rk, rdd, rwi, at0, at1, at2, at3, upd_at, List.getElem?_cons_zero, List.getElem?_cons_succ, Option.some.injEq, exists_eq_left', exists_eq_left, List.set_cons_zero, List.set_cons_succ, true_and, and_true, HO.lst.injEq, HO.tup.injEq, exists_and_left, exists_eq, exists_eq', Br.t, Br.f, Be.t, Be.f, List.cons.injEq, List.append_nil, scal, if_true, if_false, ite_true, ite_false, eq_self_iff_true, decide_true, decide_false, Bool.not_true, Bool.not_false, reduceIte, List.nil_append, List.cons_append, reduceCtorEq, false_and, exists_false, false_or, or_false, Int.reduceLT, rlu, rdp, Bool.true_or, Bool.false_or, Bool.or_false, Bool.or_true]
          exact ho _ _ s
    · cases z
theorem ok_laid (T : Tx K mg w) (c_is_order : Cal P w K mg base 3 "is_order" ["thing"] (sp_is_order K)) (c_NoOrder : Exn P w K mg base "NoOrder" "found") : Cal P w K mg base 4 "laid" ["row", "order"] (sp_laid K) := by
  refine cal_mk T.F_laid T.g_laid sc_laid (len2 _) (fun _ _ _ _ _ _ us hl => match us, hl with | [_, _], _ => rfl) (fun cdv A outer s H vs Q E hr h => ?_)
  obtain ⟨v0, v1, rfl, h⟩ := h
  have hu := hu_of hr
  refine ⟨_, (pss_cons (ps_if (PW.pt (pw_or (pt_not (pt_val (pe_cal c_is_order hr (by decide) (passes_call (takes_of rfl rfl rfl rfl) fun _ _ _ _ h => h) rfl (pa_cons (pv 1) pa_nil)))) (pw_or1 (pt_cmpR op_ne (pe_callB len_q (by rfl) T.n_len (by decide +kernel) (pa_cons (pv 1) pa_nil)) (pe_callB len_q (by rfl) T.n_len (by decide +kernel) (pa_cons (pv 0) pa_nil)) (nomark _))))) (pss_one (ps_rs1 c_NoOrder rfl (takes_of rfl rfl rfl rfl) hr (by decide) rfl (pa_cons (pv 1) pa_nil))) pss_nil)
      (pss_one (ps_ret (pe_lc (own := [("place", 2)]) (g := (gName 2)) rfl sc_laid.nd (pi_q (pv 1)) (blkOk_by (N := nm_laid) (sc := defScope s_laid) (by decide +kernel)) (fun _ _ _ _ _ => (pg_name (i := 2) sc_laid.nd rfl (Or.inl rfl))) (fun _ _ _ _ _ => pts_nil) (fun _ _ _ _ _ => (pe_ix ix_q (pv 0) (pv 2) (fun _ _ => rfl))))))), ?_⟩
  obtain ⟨o, hd, ho⟩ := h
  cases hd with
  | laid hw hb hl =>
  simp only [and_assoc, rst, rs, re, ra, rq, rx, ro, rl, rl2, rsp, rz, rix, rln, rg, rd, ri, rv, rk, rdd, rwi, at0, at1, at2, at3, upd_at, List.getElem?_cons_zero, List.getElem?_cons_succ, Option.some.injEq, exists_eq_left', exists_eq_left, List.set_cons_zero, List.set_cons_succ, true_and, and_true, HO.lst.injEq, HO.tup.injEq, exists_and_left, exists_eq, exists_eq', Br.t, Br.f, Be.t, Be.f, List.cons.injEq, List.append_nil, scal, if_true, if_false, ite_true, ite_false, eq_self_iff_true, decide_true, decide_false, Bool.not_true, Bool.not_false, reduceIte, List.nil_append, List.cons_append, reduceCtorEq, false_and, exists_false, false_or, or_false, Int.reduceLT, rlu, rdp, Bool.true_or, Bool.false_or, Bool.or_false, Bool.or_true]
  refine ⟨_, rfl, _, hb, fun H1 s1 => ?_⟩
  simp only [and_assoc, rst, rs, re, ra, rq, rx, ro, rl, rl2, rsp, rz, rix, rln, rg, rd, ri, rv, rk, rdd, rwi, at0, at1, at2, at3, upd_at, List.getElem?_cons_zero, List.getElem?_cons_succ, Option.some.injEq, exists_eq_left', exists_eq_left, List.set_cons_zero, List.set_cons_succ, true_and, and_true, HO.lst.injEq, HO.tup.injEq, exists_and_left, exists_eq, exists_eq', Br.t, Br.f, Be.t, Be.f, List.cons.injEq, List.append_nil, scal, if_true, if_false, ite_true, ite_false, eq_self_iff_true, decide_true, decide_false, Bool.not_true, Bool.not_false, reduceIte, List.nil_append, List.cons_append, reduceCtorEq, false_and, exists_false, false_or, or_false, Int.reduceLT, rlu, rdp, Bool.true_or, Bool.false_or, Bool.or_false, Bool.or_true]
  refine Be.of (fun c => ?_) fun c => ?_
  · exact fun d hd => ho _ d s1 hd
  · obtain ⟨xs, ⟨p, o, rfl, hp, hs⟩, hl⟩ := hl (by simpa using c)
    obtain ⟨pw, ow, rfl, hpw, hsw⟩ := hw
    simp only [and_assoc, rst, rs, re, ra, rq, rx, ro, rl, rl2, rsp, rz, rix, rln, rg, rd, ri, rv, rk, rdd, rwi, at0, at1, at2, at3, upd_at, List.getElem?_cons_zero, List.getElem?_cons_succ, Option.some.injEq, exists_eq_left', exists_eq_left, List.set_cons_zero, List.set_cons_succ, true_and, and_true, HO.lst.injEq, HO.tup.injEq, exists_and_left, exists_eq, exists_eq', Br.t, Br.f, Be.t, Be.f, List.cons.injEq, List.append_nil, scal, if_true, if_false, ite_true, ite_false, eq_self_iff_true, decide_true, decide_false, Bool.not_true, Bool.not_false, reduceIte, List.nil_append, List.cons_append, reduceCtorEq, false_and, exists_false, false_or, or_false, Int.reduceLT, rlu, rdp, Bool.true_or, Bool.false_or, Bool.or_false, Bool.or_true]
    refine ⟨_, s1 _ _ hp, _, hs, _, s1 _ _ hpw, _, hsw, Br.n (fun c => ?_) fun c => absurd c (by omega)⟩
    simp only [and_assoc, rst, rs, re, ra, rq, rx, ro, rl, rl2, rsp, rz, rix, rln, rg, rd, ri, rv, rk, rdd, rwi, at0, at1, at2, at3, upd_at, List.getElem?_cons_zero, List.getElem?_cons_succ, Option.some.injEq, exists_eq_left', exists_eq_left, List.set_cons_zero, List.set_cons_succ, true_and, and_true, HO.lst.injEq, HO.tup.injEq, exists_and_left, exists_eq, exists_eq', Br.t, Br.f, Be.t, Be.f, List.cons.injEq, List.append_nil, scal, if_true, if_false, ite_true, ite_false, eq_self_iff_true, decide_true, decide_false, Bool.not_true, Bool.not_false, reduceIte, List.nil_append, List.cons_append, reduceCtorEq, false_and, exists_false, false_or, or_false, Int.reduceLT, rlu, rdp, Bool.true_or, Bool.false_or, Bool.or_false, Bool.or_true]
    exact fun d hd => ho _ d s1 hd
theorem ok_turned_order (T : Tx K mg w) (c_need_order : Cal P w K mg base 4 "need_order" ["thing"] (sp_need_order K))  : Cal P w K mg base 5 "turned_order" ["order"] (sp_turned_order K) := by
  refine cal_mk T.F_turned_order T.g_turned_order sc_turned_order (len1 _) (fun _ _ _ _ _ _ us hl => match us, hl with | [_], _ => rfl) (fun cdv A outer s H vs Q E hr h => ?_)
  obtain ⟨v0, rfl, h⟩ := h
  have hu := hu_of hr
  refine ⟨_, (pss_cons (ps_expr (pe_cal c_need_order hr (by decide) (passes_call (takes_of rfl rfl rfl rfl) fun _ _ _ _ h => h) rfl (pa_cons (pv 0) pa_nil)))
      (pss_cons (ps_set (i := 1) sc_turned_order.nd rfl (Or.inl rfl) (pe_op op_rep (pe_lst (pa_cons pe_int pa_nil)) (pe_callB len_q (by rfl) T.n_len (by decide +kernel) (pa_cons (pv 0) pa_nil))))
      (pss_cons (ps_for (passes_of rfl) rfl (pi_enum (by rfl) T.n_enumerate (pa_cons (pv 0) pa_nil)) (pg_tup rfl (pgs_cons (pg_name (i := 2) sc_turned_order.nd rfl (Or.inl rfl)) (pgs_cons (pg_name (i := 3) sc_turned_order.nd rfl (Or.inl rfl)) pgs_nil))) (pss_one (ps_asg (pv 2) (pg_sub (pv 1) (pv 3) set_list))))
      (pss_one (ps_ret (pe_callTy tup_q (by rfl) T.n_tuple (by decide +kernel) (pa_cons (pv 1) pa_nil))))))), ?_⟩
  obtain ⟨o, hd, ho⟩ := h
  cases hd with
  | turned hb =>
  simp only [and_assoc, rst, rs, re, ra, rq, rx, ro, rl, rl2, rsp, rz, rix, rln, rg, rd, ri, rv, rk, rdd, rwi, at0, at1, at2, at3, upd_at, List.getElem?_cons_zero, List.getElem?_cons_succ, Option.some.injEq, exists_eq_left', exists_eq_left, List.set_cons_zero, List.set_cons_succ, true_and, and_true, HO.lst.injEq, HO.tup.injEq, exists_and_left, exists_eq, exists_eq', Br.t, Br.f, Be.t, Be.f, List.cons.injEq, List.append_nil, scal, if_true, if_false, ite_true, ite_false, eq_self_iff_true, decide_true, decide_false, Bool.not_true, Bool.not_false, reduceIte, List.nil_append, List.cons_append, reduceCtorEq, false_and, exists_false, false_or, or_false, Int.reduceLT, rlu, rdp, Bool.true_or, Bool.false_or, Bool.or_false, Bool.or_true]
  exact ⟨_, rfl, false, hb, nofun, fun _ => ho⟩
theorem ok_by_numbers (T : Tx K mg w) (c_is_within : Cal P w K mg base 2 "is_within" ["thing", "low", "high"] (sp_is_within K)) (c_is_row : Cal P w K mg base 1 "is_row" ["thing"] (sp_is_row K)) (c_exchange : Cal P w K mg base 1 "exchange" ["row", "one", "other"] (sp_exchange K)) (c_NoNumber : Exn P w K mg base "NoNumber" "found") : Cal P w K mg base 4 "by_numbers" ["numbers"] (sp_by_numbers K) := by
  refine cal_mk T.F_by_numbers T.g_by_numbers sc_by_numbers (len1 _) (fun _ _ _ _ _ _ us hl => match us, hl with | [_], _ => rfl) (fun cdv A outer s H vs Q E hr h => ?_)
  obtain ⟨v0, rfl, h⟩ := h
  have hu := hu_of hr
  refine ⟨_, (pss_cons (ps_if (PW.pt (pw_or (pt_not (pt_val (pe_cal c_is_row hr (by decide) (passes_call (takes_of rfl rfl rfl rfl) fun _ _ _ _ h => h) rfl (pa_cons (pv 0) pa_nil)))) (pw_or1 (pt_cmpR op_ge (pe_callB len_q (by rfl) T.n_len (by decide +kernel) (pa_cons (pv 0) pa_nil)) (pe_gint rfl T.k_MOST_LAID) (nomark _))))) (pss_one (ps_rs1 c_NoNumber rfl (takes_of rfl rfl rfl rfl) hr (by decide) rfl (pa_cons (pv 0) pa_nil))) pss_nil)
      (pss_cons (ps_set (i := 1) sc_by_numbers.nd rfl (Or.inl rfl) (pe_listRg rfl (by rfl) T.n_list (prg_1 (by rfl) T.n_range (pe_op op_add (pe_callB len_q (by rfl) T.n_len (by decide +kernel) (pa_cons (pv 0) pa_nil)) pe_int))))
      (pss_cons (ps_for (passes_of rfl) rfl (pi_enum (by rfl) T.n_enumerate (pa_cons (pv 0) pa_nil)) (pg_tup rfl (pgs_cons (pg_name (i := 2) sc_by_numbers.nd rfl (Or.inl rfl)) (pgs_cons (pg_name (i := 3) sc_by_numbers.nd rfl (Or.inl rfl)) pgs_nil))) (pss_cons (ps_set (i := 4) sc_by_numbers.nd rfl (Or.inl rfl) (pe_op op_sub (pe_callB len_q (by rfl) T.n_len (by decide +kernel) (pa_cons (pv 0) pa_nil)) (pv 2)))
      (pss_cons (ps_if (pt_not (pt_val (pe_cal c_is_within hr (by decide) (passes_call (takes_of rfl rfl rfl rfl) fun _ _ _ _ h => h) rfl (pa_cons (pv 3) (pa_cons pe_int (pa_cons (pv 4) pa_nil)))))) (pss_one (ps_rs1 c_NoNumber rfl (takes_of rfl rfl rfl rfl) hr (by decide) rfl (pa_cons (pv 3) pa_nil))) pss_nil)
      (pss_one (ps_expr (pe_cal c_exchange hr (by decide) (passes_call (takes_of rfl rfl rfl rfl) fun _ _ _ _ h => h) rfl (pa_cons (pv 1) (pa_cons (pv 4) (pa_cons (pv 3) pa_nil)))))))))
      (pss_one (ps_ret (pe_callTy tup_q (by rfl) T.n_tuple (by decide +kernel) (pa_cons (pv 1) pa_nil))))))), ?_⟩
  obtain ⟨o, hd, ho⟩ := h
  have h2 : (NoSeq H v0 ∧ Ref K H "NoNumber" v0 E) ∨ (∃ xs, Sq H v0 xs ∧ 60 ≤ xs.length ∧ Ref K H "NoNumber" v0 E) ∨ ∃ (p : Addr) (xs : List V), v0 = .ref p ∧ H p = some (.lst xs) ∧ xs.length < 60 ∧
      (∀ (n : Nat) (z : V), xs[n]? = some z → (∀ (j : Nat) (z : V), j < n → xs[j]? = some z → within z 0 ((xs.length : Int) - j) = true) → within z 0 ((xs.length : Int) - n) = true ∨ (within z 0 ((xs.length : Int) - n) = false ∧ TyA H z ∧ Ref K H "NoNumber" z E)) ∧
      ((∀ (j : Nat) (z : V), j < xs.length → xs[j]? = some z → within z 0 ((xs.length : Int) - j) = true) → ∀ v H', Same H H' → Q v H') := by
    cases hd with
    | by1 hx => exact .inl ⟨hx, ho⟩
    | by2 hx hl => exact .inr (.inl ⟨_, hx, hl, ho⟩)
    | @by3 p y xs i r hx hl ht hy hj hw =>
      refine .inr (.inr ⟨p, xs, rfl, hx, hl, fun n z hz hg => ?_, fun hg => ?_⟩)
      · rcases Nat.lt_trichotomy n i with c | c | c
        · exact .inl (hj n z c hz)
        · subst c
          rw [hy] at hz
          cases hz
          exact .inr ⟨hw, ht _ (List.mem_of_getElem? hy), ho⟩
        · rw [hg i y c hy] at hw
          cases hw
      · rw [hg i y (List.getElem?_eq_some_iff.mp hy).1 hy] at hw
        cases hw
    | @by4 p xs r hx hl hj => exact .inr (.inr ⟨p, xs, rfl, hx, hl, fun n z hz _ => .inl (hj n z hz), fun _ => ho⟩)
  clear hd ho
  rcases h2 with ⟨hx, ho⟩ | ⟨xs, ⟨p, o, rfl, hp, hs⟩, hl, ho⟩ | ⟨p, xs, rfl, hp, hl, turn, done⟩
  · simp only [and_assoc, rst, rs, re, ra, rq, rx, ro, rl, rl2, rsp, rz, rix, rln, rg, rd, ri, rv, rk, rdd, rwi, at0, at1, at2, at3, upd_at, List.getElem?_cons_zero, List.getElem?_cons_succ, Option.some.injEq, exists_eq_left', exists_eq_left, List.set_cons_zero, List.set_cons_succ, true_and, and_true, HO.lst.injEq, HO.tup.injEq, exists_and_left, exists_eq, exists_eq', Br.t, Br.f, Be.t, Be.f, List.cons.injEq, List.append_nil, scal, if_true, if_false, ite_true, ite_false, eq_self_iff_true, decide_true, decide_false, Bool.not_true, Bool.not_false, reduceIte, List.nil_append, List.cons_append, reduceCtorEq, false_and, exists_false, false_or, or_false, Int.reduceLT, rlu, rdp, Bool.true_or, Bool.false_or, Bool.or_false, Bool.or_true]
    refine ⟨_, rfl, _, _, hx.1, hx.2, fun H1 s1 => ?_⟩
    simp only [and_assoc, rst, rs, re, ra, rq, rx, ro, rl, rl2, rsp, rz, rix, rln, rg, rd, ri, rv, rk, rdd, rwi, at0, at1, at2, at3, upd_at, List.getElem?_cons_zero, List.getElem?_cons_succ, Option.some.injEq, exists_eq_left', exists_eq_left, List.set_cons_zero, List.set_cons_succ, true_and, and_true, HO.lst.injEq, HO.tup.injEq, exists_and_left, exists_eq, exists_eq', Br.t, Br.f, Be.t, Be.f, List.cons.injEq, List.append_nil, scal, if_true, if_false, ite_true, ite_false, eq_self_iff_true, decide_true, decide_false, Bool.not_true, Bool.not_false, reduceIte, List.nil_append, List.cons_append, reduceCtorEq, false_and, exists_false, false_or, or_false, Int.reduceLT, rlu, rdp, Bool.true_or, Bool.false_or, Bool.or_false, Bool.or_true]
    exact fun d hd => ho _ d s1 hd
  · have kb := kindB hp hs
    simp only [and_assoc, rst, rs, re, ra, rq, rx, ro, rl, rl2, rsp, rz, rix, rln, rg, rd, ri, rv, rk, rdd, rwi, at0, at1, at2, at3, upd_at, List.getElem?_cons_zero, List.getElem?_cons_succ, Option.some.injEq, exists_eq_left', exists_eq_left, List.set_cons_zero, List.set_cons_succ, true_and, and_true, HO.lst.injEq, HO.tup.injEq, exists_and_left, exists_eq, exists_eq', Br.t, Br.f, Be.t, Be.f, List.cons.injEq, List.append_nil, scal, if_true, if_false, ite_true, ite_false, eq_self_iff_true, decide_true, decide_false, Bool.not_true, Bool.not_false, reduceIte, List.nil_append, List.cons_append, reduceCtorEq, false_and, exists_false, false_or, or_false, Int.reduceLT, rlu, rdp, Bool.true_or, Bool.false_or, Bool.or_false, Bool.or_true]
    refine ⟨_, rfl, _, _, kb.2.2.2.2.1, kb.2.2.2.2.2, fun H1 s1 => ?_⟩
    have tr : (!isT o || isT o) = true := by cases isT o <;> rfl
    rw [tr]
    simp only [and_assoc, rst, rs, re, ra, rq, rx, ro, rl, rl2, rsp, rz, rix, rln, rg, rd, ri, rv, rk, rdd, rwi, at0, at1, at2, at3, upd_at, List.getElem?_cons_zero, List.getElem?_cons_succ, Option.some.injEq, exists_eq_left', exists_eq_left, List.set_cons_zero, List.set_cons_succ, true_and, and_true, HO.lst.injEq, HO.tup.injEq, exists_and_left, exists_eq, exists_eq', Br.t, Br.f, Be.t, Be.f, List.cons.injEq, List.append_nil, scal, if_true, if_false, ite_true, ite_false, eq_self_iff_true, decide_true, decide_false, Bool.not_true, Bool.not_false, reduceIte, List.nil_append, List.cons_append, reduceCtorEq, false_and, exists_false, false_or, or_false, Int.reduceLT, rlu, rdp, Bool.true_or, Bool.false_or, Bool.or_false, Bool.or_true]
    refine ⟨o, s1 _ _ hp, _, hs, ?_⟩
    rw [show decide ((60 : Int) ≤ (xs.length : Int)) = true from decide_eq_true (by omega)]
    simp only [and_assoc, rst, rs, re, ra, rq, rx, ro, rl, rl2, rsp, rz, rix, rln, rg, rd, ri, rv, rk, rdd, rwi, at0, at1, at2, at3, upd_at, List.getElem?_cons_zero, List.getElem?_cons_succ, Option.some.injEq, exists_eq_left', exists_eq_left, List.set_cons_zero, List.set_cons_succ, true_and, and_true, HO.lst.injEq, HO.tup.injEq, exists_and_left, exists_eq, exists_eq', Br.t, Br.f, Be.t, Be.f, List.cons.injEq, List.append_nil, scal, if_true, if_false, ite_true, ite_false, eq_self_iff_true, decide_true, decide_false, Bool.not_true, Bool.not_false, reduceIte, List.nil_append, List.cons_append, reduceCtorEq, false_and, exists_false, false_or, or_false, Int.reduceLT, rlu, rdp, Bool.true_or, Bool.false_or, Bool.or_false, Bool.or_true]
    exact fun d hd => ho _ d s1 hd
  · simp only [and_assoc, rst, rs, re, ra, rq, rx, ro, rl, rl2, rsp, rz, rix, rln, rg, rd, ri, rv, rk, rdd, rwi, at0, at1, at2, at3, upd_at, List.getElem?_cons_zero, List.getElem?_cons_succ, Option.some.injEq, exists_eq_left', exists_eq_left, List.set_cons_zero, List.set_cons_succ, true_and, and_true, HO.lst.injEq, HO.tup.injEq, exists_and_left, exists_eq, exists_eq', Br.t, Br.f, Be.t, Be.f, List.cons.injEq, List.append_nil, scal, if_true, if_false, ite_true, ite_false, eq_self_iff_true, decide_true, decide_false, Bool.not_true, Bool.not_false, reduceIte, List.nil_append, List.cons_append, reduceCtorEq, false_and, exists_false, false_or, or_false, Int.reduceLT, rlu, rdp, Bool.true_or, Bool.false_or, Bool.or_false, Bool.or_true]
    refine ⟨_, rfl, true, false, isB_list hp, ?_, fun H1 s1 => ?_⟩
    · exact (kindB hp (o := .lst xs) rfl).2.2.2.2.2
    simp only [and_assoc, rst, rs, re, ra, rq, rx, ro, rl, rl2, rsp, rz, rix, rln, rg, rd, ri, rv, rk, rdd, rwi, at0, at1, at2, at3, upd_at, List.getElem?_cons_zero, List.getElem?_cons_succ, Option.some.injEq, exists_eq_left', exists_eq_left, List.set_cons_zero, List.set_cons_succ, true_and, and_true, HO.lst.injEq, HO.tup.injEq, exists_and_left, exists_eq, exists_eq', Br.t, Br.f, Be.t, Be.f, List.cons.injEq, List.append_nil, scal, if_true, if_false, ite_true, ite_false, eq_self_iff_true, decide_true, decide_false, Bool.not_true, Bool.not_false, reduceIte, List.nil_append, List.cons_append, reduceCtorEq, false_and, exists_false, false_or, or_false, Int.reduceLT, rlu, rdp, Bool.true_or, Bool.false_or, Bool.or_false, Bool.or_true, s1 _ _ hp]
    rw [show decide ((60 : Int) ≤ (xs.length : Int)) = false from decide_eq_false (by omega)]
    simp only [and_assoc, rst, rs, re, ra, rq, rx, ro, rl, rl2, rsp, rz, rix, rln, rg, rd, ri, rv, rk, rdd, rwi, at0, at1, at2, at3, upd_at, List.getElem?_cons_zero, List.getElem?_cons_succ, Option.some.injEq, exists_eq_left', exists_eq_left, List.set_cons_zero, List.set_cons_succ, true_and, and_true, HO.lst.injEq, HO.tup.injEq, exists_and_left, exists_eq, exists_eq', Br.t, Br.f, Be.t, Be.f, List.cons.injEq, List.append_nil, scal, if_true, if_false, ite_true, ite_false, eq_self_iff_true, decide_true, decide_false, Bool.not_true, Bool.not_false, reduceIte, List.nil_append, List.cons_append, reduceCtorEq, false_and, exists_false, false_or, or_false, Int.reduceLT, rlu, rdp, Bool.true_or, Bool.false_or, Bool.or_false, Bool.or_true, s1 _ _ hp]
    refine ⟨⟨by decide, by decide, by omega, by omega, by omega⟩, fun q hq => ?_⟩
    have n1 := ne_of_none (s1 _ _ hp) hq
    have fq := Same.free s1 hq
    have h3 : (upd H1 q (.lst (rgV 0 ((xs.length : Int) + 1)))) p = some (.lst xs) := by rw [upd_ne n1]; exact s1 _ _ hp
    refine ⟨_, SqL.of h3, FI.enum (fun n σ H' => ∃ v2 v3 v4 ys, Same H H' ∧ H' q = some (.lst ys) ∧ ys.length = xs.length + 1 ∧ (∀ (j : Nat) (z : V), j < n → xs[j]? = some z → within z 0 ((xs.length : Int) - j) = true) ∧ σ = [some (.ref p), some (.ref q), v2, v3, v4])
      ⟨none, none, none, _, Same.trans s1 (Same.new hq), upd_same, ?_, (fun _ _ c => absurd c (by omega)), rfl⟩ (fun n σ H' ⟨_, _, _, _, s, _⟩ => SqL.of (s _ _ hp)) ?_ ?_⟩
    · rw [rgV, List.length_map, List.length_range]
      omega
    · rintro n x T σ H' hx ⟨v2, v3, v4, ys, s, h4, hy, hg, rfl⟩ hT
      have sT : Same H (upd H' T (.tup [.int (n : Nat), x])) := Same.trans s (Same.new hT)
      have h5 : (upd H' T (.tup [.int (n : Nat), x])) q = some (.lst ys) := by rw [upd_ne (ne_of_none h4 hT)]; exact h4
      generalize upd H' T _ = H2 at sT h5
      have hn : n < xs.length := (List.getElem?_eq_some_iff.mp hx).1
      simp only [and_assoc, rst, rs, re, ra, rq, rx, ro, rl, rl2, rsp, rz, rix, rln, rg, rd, ri, rv, rk, rdd, rwi, at0, at1, at2, at3, upd_at, List.getElem?_cons_zero, List.getElem?_cons_succ, Option.some.injEq, exists_eq_left', exists_eq_left, List.set_cons_zero, List.set_cons_succ, true_and, and_true, HO.lst.injEq, HO.tup.injEq, exists_and_left, exists_eq, exists_eq', Br.t, Br.f, Be.t, Be.f, List.cons.injEq, List.append_nil, scal, if_true, if_false, ite_true, ite_false, eq_self_iff_true, decide_true, decide_false, Bool.not_true, Bool.not_false, reduceIte, List.nil_append, List.cons_append, reduceCtorEq, false_and, exists_false, false_or, or_false, Int.reduceLT, rlu, rdp, Bool.true_or, Bool.false_or, Bool.or_false, Bool.or_true, sT _ _ hp]
      rcases turn n x hx hg with c | ⟨c, ht, ho⟩
      · refine ⟨_, _, _, rfl, _, _, rfl, rfl, ?_, ?_⟩
        · cases x with
          | int z => exact ⟨"int", rfl⟩
          | _ => cases c
        · simp only [and_assoc, rst, rs, re, ra, rq, rx, ro, rl, rl2, rsp, rz, rix, rln, rg, rd, ri, rv, rk, rdd, rwi, at0, at1, at2, at3, upd_at, List.getElem?_cons_zero, List.getElem?_cons_succ, Option.some.injEq, exists_eq_left', exists_eq_left, List.set_cons_zero, List.set_cons_succ, true_and, and_true, HO.lst.injEq, HO.tup.injEq, exists_and_left, exists_eq, exists_eq', Br.t, Br.f, Be.t, Be.f, List.cons.injEq, List.append_nil, scal, if_true, if_false, ite_true, ite_false, eq_self_iff_true, decide_true, decide_false, Bool.not_true, Bool.not_false, reduceIte, List.nil_append, List.cons_append, reduceCtorEq, false_and, exists_false, false_or, or_false, Int.reduceLT, rlu, rdp, Bool.true_or, Bool.false_or, Bool.or_false, Bool.or_true, c]
          obtain ⟨m, rfl, m1⟩ : ∃ m : Nat, x = .int (m : Int) ∧ m ≤ xs.length - n := by
            cases x with
            | int z =>
              have z2 : 0 ≤ z ∧ z ≤ (xs.length : Int) - n := of_decide_eq_true c
              exact ⟨z.toNat, by rw [Int.toNat_of_nonneg z2.1], by omega⟩
            | _ => cases c
          refine ⟨_, _, _, rfl, q, ys, xs.length - n, m, _, _, rfl, h5, by rw [show ((xs.length - n : Nat) : Int) = (xs.length : Int) - n by omega], rfl, List.getElem?_eq_getElem (by omega), List.getElem?_eq_getElem (by omega), ?_⟩
          simp only [and_assoc, rst, rs, re, ra, rq, rx, ro, rl, rl2, rsp, rz, rix, rln, rg, rd, ri, rv, rk, rdd, rwi, at0, at1, at2, at3, upd_at, List.getElem?_cons_zero, List.getElem?_cons_succ, Option.some.injEq, exists_eq_left', exists_eq_left, List.set_cons_zero, List.set_cons_succ, true_and, and_true, HO.lst.injEq, HO.tup.injEq, exists_and_left, exists_eq, exists_eq', Br.t, Br.f, Be.t, Be.f, List.cons.injEq, List.append_nil, scal, if_true, if_false, ite_true, ite_false, eq_self_iff_true, decide_true, decide_false, Bool.not_true, Bool.not_false, reduceIte, List.nil_append, List.cons_append, reduceCtorEq, false_and, exists_false, false_or, or_false, Int.reduceLT, rlu, rdp, Bool.true_or, Bool.false_or, Bool.or_false, Bool.or_true]
          refine ⟨Same.mut sT fq, by rw [List.length_set, List.length_set]; exact hy, fun j z hj hz => ?_⟩
          rcases Nat.lt_or_eq_of_le (Nat.le_of_lt_succ hj) with e | e
          · exact hg j z e hz
          · subst e
            rw [hx] at hz
            cases hz
            exact c
      · refine ⟨_, _, _, rfl, _, _, rfl, rfl, ht.same sT, ?_⟩
        simp only [and_assoc, rst, rs, re, ra, rq, rx, ro, rl, rl2, rsp, rz, rix, rln, rg, rd, ri, rv, rk, rdd, rwi, at0, at1, at2, at3, upd_at, List.getElem?_cons_zero, List.getElem?_cons_succ, Option.some.injEq, exists_eq_left', exists_eq_left, List.set_cons_zero, List.set_cons_succ, true_and, and_true, HO.lst.injEq, HO.tup.injEq, exists_and_left, exists_eq, exists_eq', Br.t, Br.f, Be.t, Be.f, List.cons.injEq, List.append_nil, scal, if_true, if_false, ite_true, ite_false, eq_self_iff_true, decide_true, decide_false, Bool.not_true, Bool.not_false, reduceIte, List.nil_append, List.cons_append, reduceCtorEq, false_and, exists_false, false_or, or_false, Int.reduceLT, rlu, rdp, Bool.true_or, Bool.false_or, Bool.or_false, Bool.or_true, c]
        exact fun d hd => ho _ d sT hd
    · rintro σ H' ⟨v2, v3, v4, ys, s, h4, hy, hg, rfl⟩
      simp only [and_assoc, rst, rs, re, ra, rq, rx, ro, rl, rl2, rsp, rz, rix, rln, rg, rd, ri, rv, rk, rdd, rwi, at0, at1, at2, at3, upd_at, List.getElem?_cons_zero, List.getElem?_cons_succ, Option.some.injEq, exists_eq_left', exists_eq_left, List.set_cons_zero, List.set_cons_succ, true_and, and_true, HO.lst.injEq, HO.tup.injEq, exists_and_left, exists_eq, exists_eq', Br.t, Br.f, Be.t, Be.f, List.cons.injEq, List.append_nil, scal, if_true, if_false, ite_true, ite_false, eq_self_iff_true, decide_true, decide_false, Bool.not_true, Bool.not_false, reduceIte, List.nil_append, List.cons_append, reduceCtorEq, false_and, exists_false, false_or, or_false, Int.reduceLT, rlu, rdp, Bool.true_or, Bool.false_or, Bool.or_false, Bool.or_true, h4]
      exact fun l hl => done hg _ _ (Same.trans s (Same.new hl))
theorem ok_numbers_by (T : Tx K mg w) (c_is_order : Cal P w K mg base 3 "is_order" ["thing"] (sp_is_order K)) (c_exchange : Cal P w K mg base 1 "exchange" ["row", "one", "other"] (sp_exchange K)) (c_NoOrder : Exn P w K mg base "NoOrder" "found") : Cal P w K mg base 4 "numbers_by" ["order"] (sp_numbers_by K) := by
  refine cal_mk T.F_numbers_by T.g_numbers_by sc_numbers_by (len1 _) (fun _ _ _ _ _ _ us hl => match us, hl with | [_], _ => rfl) (fun cdv A outer s H vs Q E hr h => ?_)
  obtain ⟨v0, rfl, h⟩ := h
  have hu := hu_of hr
  refine ⟨_, (pss_cons (ps_if (PW.pt (pw_or (pt_not (pt_val (pe_cal c_is_order hr (by decide) (passes_call (takes_of rfl rfl rfl rfl) fun _ _ _ _ h => h) rfl (pa_cons (pv 0) pa_nil)))) (pw_or1 (pt_cmpR op_eq (pe_callB len_q (by rfl) T.n_len (by decide +kernel) (pa_cons (pv 0) pa_nil)) pe_int (nomark _))))) (pss_one (ps_rs1 c_NoOrder rfl (takes_of rfl rfl rfl rfl) hr (by decide) rfl (pa_cons (pv 0) pa_nil))) pss_nil)
      (pss_cons (ps_set (i := 1) sc_numbers_by.nd rfl (Or.inl rfl) (pe_listRg rfl (by rfl) T.n_list (prg_1 (by rfl) T.n_range (pe_callB len_q (by rfl) T.n_len (by decide +kernel) (pa_cons (pv 0) pa_nil)))))
      (pss_cons (ps_set (i := 2) sc_numbers_by.nd rfl (Or.inl rfl) (pe_listRg rfl (by rfl) T.n_list (prg_1 (by rfl) T.n_range (pe_callB len_q (by rfl) T.n_len (by decide +kernel) (pa_cons (pv 0) pa_nil)))))
      (pss_cons (ps_set (i := 3) sc_numbers_by.nd rfl (Or.inl rfl) (pe_lst pa_nil))
      (pss_cons (ps_for (passes_of rfl) rfl (pi_range3 (by rfl) T.n_range (pa_cons (pe_op op_sub (pe_callB len_q (by rfl) T.n_len (by decide +kernel) (pa_cons (pv 0) pa_nil)) pe_int) (pa_cons pe_int (pa_cons (pe_un un_neg pe_int) pa_nil)))) (pg_name (i := 4) sc_numbers_by.nd rfl (Or.inl rfl)) (pss_cons (ps_set (i := 5) sc_numbers_by.nd rfl (Or.inl rfl) (pe_ix ix_q (pv 2) (pe_ix ix_q (pv 0) (pv 4) (fun _ _ => rfl)) (fun _ _ => rfl)))
      (pss_cons (ps_expr (pe_ml PySem.F.slot_list_append PySem.F.type_list_append mt_append (pv 3) (pa_cons (pv 5) pa_nil)))
      (pss_cons (ps_expr (pe_cal c_exchange hr (by decide) (passes_call (takes_of rfl rfl rfl rfl) fun _ _ _ _ h => h) rfl (pa_cons (pv 1) (pa_cons (pv 4) (pa_cons (pv 5) pa_nil)))))
      (pss_cons (ps_asg (pv 4) (pg_sub (pv 2) (pe_ix ix_q (pv 1) (pv 4) (fun _ _ => rfl)) set_list))
      (pss_one (ps_asg (pv 5) (pg_sub (pv 2) (pe_ix ix_q (pv 1) (pv 5) (fun _ _ => rfl)) set_list))))))))
      (pss_one (ps_ret (pv 3)))))))), ?_⟩
  obtain ⟨o, hd, ho⟩ := h
  cases hd with
  | back hb hl =>
  simp only [and_assoc, rst, rs, re, ra, rq, rx, ro, rl, rl2, rsp, rz, rix, rln, rg, rd, ri, rv, rk, rdd, rwi, at0, at1, at2, at3, upd_at, List.getElem?_cons_zero, List.getElem?_cons_succ, Option.some.injEq, exists_eq_left', exists_eq_left, List.set_cons_zero, List.set_cons_succ, true_and, and_true, HO.lst.injEq, HO.tup.injEq, exists_and_left, exists_eq, exists_eq', Br.t, Br.f, Be.t, Be.f, List.cons.injEq, List.append_nil, scal, if_true, if_false, ite_true, ite_false, eq_self_iff_true, decide_true, decide_false, Bool.not_true, Bool.not_false, reduceIte, List.nil_append, List.cons_append, reduceCtorEq, false_and, exists_false, false_or, or_false, Int.reduceLT, rlu, rdp, Bool.true_or, Bool.false_or, Bool.or_false, Bool.or_true]
  refine ⟨_, rfl, _, hb, fun H1 s1 => ?_⟩
  simp only [and_assoc, rst, rs, re, ra, rq, rx, ro, rl, rl2, rsp, rz, rix, rln, rg, rd, ri, rv, rk, rdd, rwi, at0, at1, at2, at3, upd_at, List.getElem?_cons_zero, List.getElem?_cons_succ, Option.some.injEq, exists_eq_left', exists_eq_left, List.set_cons_zero, List.set_cons_succ, true_and, and_true, HO.lst.injEq, HO.tup.injEq, exists_and_left, exists_eq, exists_eq', Br.t, Br.f, Be.t, Be.f, List.cons.injEq, List.append_nil, scal, if_true, if_false, ite_true, ite_false, eq_self_iff_true, decide_true, decide_false, Bool.not_true, Bool.not_false, reduceIte, List.nil_append, List.cons_append, reduceCtorEq, false_and, exists_false, false_or, or_false, Int.reduceLT, rlu, rdp, Bool.true_or, Bool.false_or, Bool.or_false, Bool.or_true]
  refine Be.of (fun c => ?_) fun c => ?_
  · exact fun d hd => ho _ d s1 hd
  · obtain ⟨p, o, rfl, hp, hs⟩ := hl (by simpa using c)
    simp only [and_assoc, rst, rs, re, ra, rq, rx, ro, rl, rl2, rsp, rz, rix, rln, rg, rd, ri, rv, rk, rdd, rwi, at0, at1, at2, at3, upd_at, List.getElem?_cons_zero, List.getElem?_cons_succ, Option.some.injEq, exists_eq_left', exists_eq_left, List.set_cons_zero, List.set_cons_succ, true_and, and_true, HO.lst.injEq, HO.tup.injEq, exists_and_left, exists_eq, exists_eq', Br.t, Br.f, Be.t, Be.f, List.cons.injEq, List.append_nil, scal, if_true, if_false, ite_true, ite_false, eq_self_iff_true, decide_true, decide_false, Bool.not_true, Bool.not_false, reduceIte, List.nil_append, List.cons_append, reduceCtorEq, false_and, exists_false, false_or, or_false, Int.reduceLT, rlu, rdp, Bool.true_or, Bool.false_or, Bool.or_false, Bool.or_true]
    refine ⟨_, s1 _ _ hp, _, hs, ?_⟩
    rw [show decide (((([] : List V).length : Nat) : Int) = 0) = true from rfl]
    simp only [and_assoc, rst, rs, re, ra, rq, rx, ro, rl, rl2, rsp, rz, rix, rln, rg, rd, ri, rv, rk, rdd, rwi, at0, at1, at2, at3, upd_at, List.getElem?_cons_zero, List.getElem?_cons_succ, Option.some.injEq, exists_eq_left', exists_eq_left, List.set_cons_zero, List.set_cons_succ, true_and, and_true, HO.lst.injEq, HO.tup.injEq, exists_and_left, exists_eq, exists_eq', Br.t, Br.f, Be.t, Be.f, List.cons.injEq, List.append_nil, scal, if_true, if_false, ite_true, ite_false, eq_self_iff_true, decide_true, decide_false, Bool.not_true, Bool.not_false, reduceIte, List.nil_append, List.cons_append, reduceCtorEq, false_and, exists_false, false_or, or_false, Int.reduceLT, rlu, rdp, Bool.true_or, Bool.false_or, Bool.or_false, Bool.or_true]
    exact fun d hd => ho _ d s1 hd
end
end Law

-- RDX rlu, rdp, Bool.true_or, Bool.false_or, Bool.or_false, Bool.or_true
namespace Law
open PySem PySem.Spec PyProof.Rows L2 Sw
section
variable {P : Program} {w : World} {K : Fg} {mg : Str → Option Value} {base : Heap}
theorem w60 {n : Nat} (h : n ≤ 60) : within (.int (n : Int)) 0 60 = true := decide_eq_true (by omega)
theorem wl_ok : ∀ n, n ≤ 60 → ∀ k, k ≤ n → 1 ≤ wl n k ∧ wl n k ≤ 10 ^ 18 := by decide +kernel
theorem wys_pos {n k : Nat} (hn : n ≤ 60) (hk : k ≤ n) : 1 ≤ wys n k := by
  rw [wys, if_neg (by omega)]
  exact (wl_ok n hn k hk).1
theorem ok_need_many (T : Tx K mg w) (c_is_within : Cal P w K mg base 2 "is_within" ["thing", "low", "high"] (sp_is_within K)) (c_NoNumber : Exn P w K mg base "NoNumber" "found") : Cal P w K mg base 4 "need_many" ["many"] (sp_need_many K) := by
  refine cal_mk T.F_need_many T.g_need_many sc_need_many (len1 _) (fun _ _ _ _ _ _ us hl => match us, hl with | [_], _ => rfl) (fun cdv A outer s H vs Q E hr h => ?_)
  obtain ⟨v0, rfl, h⟩ := h
  have hu := hu_of hr
  refine ⟨_, (pss_one (ps_if (pt_not (pt_val (pe_cal c_is_within hr (by decide) (passes_call (takes_of rfl rfl rfl rfl) fun _ _ _ _ h => h) rfl (pa_cons (pv 0) (pa_cons pe_int (pa_cons (pe_gint rfl T.k_MOST_OUT_OF) pa_nil)))))) (pss_one (ps_rs1 c_NoNumber rfl (takes_of rfl rfl rfl rfl) hr (by decide) rfl (pa_cons (pv 0) pa_nil))) pss_nil)), ?_⟩
  obtain ⟨ht, q, e⟩ := h
  simp only [and_assoc, rst, rs, re, ra, rq, rx, ro, rl, rl2, rsp, rz, rix, rln, rg, rd, ri, rv, rk, rdd, rwi, at0, at1, at2, at3, upd_at, List.getElem?_cons_zero, List.getElem?_cons_succ, Option.some.injEq, exists_eq_left', exists_eq_left, List.set_cons_zero, List.set_cons_succ, true_and, and_true, HO.lst.injEq, HO.tup.injEq, exists_and_left, exists_eq, exists_eq', Br.t, Br.f, Be.t, Be.f, List.cons.injEq, List.append_nil, scal, if_true, if_false, ite_true, ite_false, eq_self_iff_true, decide_true, decide_false, Bool.not_true, Bool.not_false, reduceIte, List.nil_append, List.cons_append, reduceCtorEq, false_and, exists_false, false_or, or_false, Int.reduceLT, rlu, rdp, Bool.true_or, Bool.false_or, Bool.or_false, Bool.or_true]
  refine ⟨_, _, _, rfl, _, _, rfl, rfl, ht, ?_⟩
  cases hw : within v0 0 60 with
  | false =>
    simp only [and_assoc, rst, rs, re, ra, rq, rx, ro, rl, rl2, rsp, rz, rix, rln, rg, rd, ri, rv, rk, rdd, rwi, at0, at1, at2, at3, upd_at, List.getElem?_cons_zero, List.getElem?_cons_succ, Option.some.injEq, exists_eq_left', exists_eq_left, List.set_cons_zero, List.set_cons_succ, true_and, and_true, HO.lst.injEq, HO.tup.injEq, exists_and_left, exists_eq, exists_eq', Br.t, Br.f, Be.t, Be.f, List.cons.injEq, List.append_nil, scal, if_true, if_false, ite_true, ite_false, eq_self_iff_true, decide_true, decide_false, Bool.not_true, Bool.not_false, reduceIte, List.nil_append, List.cons_append, reduceCtorEq, false_and, exists_false, false_or, or_false, Int.reduceLT, rlu, rdp, Bool.true_or, Bool.false_or, Bool.or_false, Bool.or_true, hw]
    exact fun d hd => e hw _ d (fun _ _ e => e) hd
  | true =>
    simp only [and_assoc, rst, rs, re, ra, rq, rx, ro, rl, rl2, rsp, rz, rix, rln, rg, rd, ri, rv, rk, rdd, rwi, at0, at1, at2, at3, upd_at, List.getElem?_cons_zero, List.getElem?_cons_succ, Option.some.injEq, exists_eq_left', exists_eq_left, List.set_cons_zero, List.set_cons_succ, true_and, and_true, HO.lst.injEq, HO.tup.injEq, exists_and_left, exists_eq, exists_eq', Br.t, Br.f, Be.t, Be.f, List.cons.injEq, List.append_nil, scal, if_true, if_false, ite_true, ite_false, eq_self_iff_true, decide_true, decide_false, Bool.not_true, Bool.not_false, reduceIte, List.nil_append, List.cons_append, reduceCtorEq, false_and, exists_false, false_or, or_false, Int.reduceLT, rlu, rdp, Bool.true_or, Bool.false_or, Bool.or_false, Bool.or_true, hw]
    exact q hw
theorem ok_ways (T : Tx K mg w)   : Cal P w K mg base 1 "ways" ["many", "size"] (sp_ways K) := by
  refine cal_mk T.F_ways T.g_ways sc_ways (len2 _) (fun _ _ _ _ _ _ us hl => match us, hl with | [_, _], _ => rfl) (fun cdv A outer s H vs Q E hr h => ?_)
  obtain ⟨v0, v1, rfl, h⟩ := h
  have hu := hu_of hr
  refine ⟨_, (pss_cons (ps_if (pt_cmpR op_gt (pv 1) (pv 0) (nomark _)) (pss_one (ps_ret pe_int)) pss_nil)
      (pss_cons (ps_set (i := 2) sc_ways.nd rfl (Or.inl rfl) pe_int)
      (pss_cons (ps_for (passes_of rfl) rfl (pi_range1 (by rfl) T.n_range (pa_cons (pv 1) pa_nil)) (pg_name (i := 3) sc_ways.nd rfl (Or.inl rfl)) (pss_one (ps_set (i := 2) sc_ways.nd rfl (Or.inl rfl) (pe_op op_fdivW (pe_op op_mulA (pv 2) (pe_op op_sub (pv 0) (pv 3))) (pe_op op_add (pv 3) pe_int)))))
      (pss_one (ps_ret (pv 2)))))), ?_⟩
  obtain ⟨n, k, rfl, rfl, hn, hk, q⟩ := h
  simp only [and_assoc, rst, rs, re, ra, rq, rx, ro, rl, rl2, rsp, rz, rix, rln, rg, rd, ri, rv, rk, rdd, rwi, at0, at1, at2, at3, upd_at, List.getElem?_cons_zero, List.getElem?_cons_succ, Option.some.injEq, exists_eq_left', exists_eq_left, List.set_cons_zero, List.set_cons_succ, true_and, and_true, HO.lst.injEq, HO.tup.injEq, exists_and_left, exists_eq, exists_eq', Br.t, Br.f, Be.t, Be.f, List.cons.injEq, List.append_nil, scal, if_true, if_false, ite_true, ite_false, eq_self_iff_true, decide_true, decide_false, Bool.not_true, Bool.not_false, reduceIte, List.nil_append, List.cons_append, reduceCtorEq, false_and, exists_false, false_or, or_false, Int.reduceLT, rlu, rdp, Bool.true_or, Bool.false_or, Bool.or_false, Bool.or_true]
  refine Br.d (fun c => ?_) fun c => ?_
  · simp only [and_assoc, rst, rs, re, ra, rq, rx, ro, rl, rl2, rsp, rz, rix, rln, rg, rd, ri, rv, rk, rdd, rwi, at0, at1, at2, at3, upd_at, List.getElem?_cons_zero, List.getElem?_cons_succ, Option.some.injEq, exists_eq_left', exists_eq_left, List.set_cons_zero, List.set_cons_succ, true_and, and_true, HO.lst.injEq, HO.tup.injEq, exists_and_left, exists_eq, exists_eq', Br.t, Br.f, Be.t, Be.f, List.cons.injEq, List.append_nil, scal, if_true, if_false, ite_true, ite_false, eq_self_iff_true, decide_true, decide_false, Bool.not_true, Bool.not_false, reduceIte, List.nil_append, List.cons_append, reduceCtorEq, false_and, exists_false, false_or, or_false, Int.reduceLT, rlu, rdp, Bool.true_or, Bool.false_or, Bool.or_false, Bool.or_true]
    rw [wys, if_pos (by omega)] at q
    exact q
  · simp only [and_assoc, rst, rs, re, ra, rq, rx, ro, rl, rl2, rsp, rz, rix, rln, rg, rd, ri, rv, rk, rdd, rwi, at0, at1, at2, at3, upd_at, List.getElem?_cons_zero, List.getElem?_cons_succ, Option.some.injEq, exists_eq_left', exists_eq_left, List.set_cons_zero, List.set_cons_succ, true_and, and_true, HO.lst.injEq, HO.tup.injEq, exists_and_left, exists_eq, exists_eq', Br.t, Br.f, Be.t, Be.f, List.cons.injEq, List.append_nil, scal, if_true, if_false, ite_true, ite_false, eq_self_iff_true, decide_true, decide_false, Bool.not_true, Bool.not_false, reduceIte, List.nil_append, List.cons_append, reduceCtorEq, false_and, exists_false, false_or, or_false, Int.reduceLT, rlu, rdp, Bool.true_or, Bool.false_or, Bool.or_false, Bool.or_true]
    rw [wys, if_neg (by omega)] at q
    refine ⟨by omega, by omega, ?_⟩
    rw [Int.toNat_natCast]
    refine FI.rng (fun i σ H' => ∃ v3, H' = H ∧ σ = [some (.int n), some (.int k), some (.int (wl n i)), v3]) ⟨none, rfl, rfl⟩ ?_ ?_
    · rintro i σ H' hi ⟨v3, rfl, rfl⟩
      simp only [and_assoc, rst, rs, re, ra, rq, rx, ro, rl, rl2, rsp, rz, rix, rln, rg, rd, ri, rv, rk, rdd, rwi, at0, at1, at2, at3, upd_at, List.getElem?_cons_zero, List.getElem?_cons_succ, Option.some.injEq, exists_eq_left', exists_eq_left, List.set_cons_zero, List.set_cons_succ, true_and, and_true, HO.lst.injEq, HO.tup.injEq, exists_and_left, exists_eq, exists_eq', Br.t, Br.f, Be.t, Be.f, List.cons.injEq, List.append_nil, scal, if_true, if_false, ite_true, ite_false, eq_self_iff_true, decide_true, decide_false, Bool.not_true, Bool.not_false, reduceIte, List.nil_append, List.cons_append, reduceCtorEq, false_and, exists_false, false_or, or_false, Int.reduceLT, rlu, rdp, Bool.true_or, Bool.false_or, Bool.or_false, Bool.or_true]
      rw [Int.zero_add]
      exact ⟨small_mul (by omega) (by omega), wide_div (by omega) (b := 64) (by omega) (by decide) (by decide), rfl⟩
    · rintro σ H' ⟨v3, rfl, rfl⟩
      simp only [and_assoc, rst, rs, re, ra, rq, rx, ro, rl, rl2, rsp, rz, rix, rln, rg, rd, ri, rv, rk, rdd, rwi, at0, at1, at2, at3, upd_at, List.getElem?_cons_zero, List.getElem?_cons_succ, Option.some.injEq, exists_eq_left', exists_eq_left, List.set_cons_zero, List.set_cons_succ, true_and, and_true, HO.lst.injEq, HO.tup.injEq, exists_and_left, exists_eq, exists_eq', Br.t, Br.f, Be.t, Be.f, List.cons.injEq, List.append_nil, scal, if_true, if_false, ite_true, ite_false, eq_self_iff_true, decide_true, decide_false, Bool.not_true, Bool.not_false, reduceIte, List.nil_append, List.cons_append, reduceCtorEq, false_and, exists_false, false_or, or_false, Int.reduceLT, rlu, rdp, Bool.true_or, Bool.false_or, Bool.or_false, Bool.or_true]
      exact q
theorem ok_sets_many (T : Tx K mg w) (c_need_many : Cal P w K mg base 4 "need_many" ["many"] (sp_need_many K)) (c_ways : Cal P w K mg base 1 "ways" ["many", "size"] (sp_ways K))  : Cal P w K mg base 5 "sets_many" ["many", "size"] (sp_sets_many K) := by
  refine cal_mk T.F_sets_many T.g_sets_many sc_sets_many (len2 _) (fun _ _ _ _ _ _ us hl => match us, hl with | [_, _], _ => rfl) (fun cdv A outer s H vs Q E hr h => ?_)
  obtain ⟨v0, v1, rfl, h⟩ := h
  have hu := hu_of hr
  refine ⟨_, (pss_cons (ps_expr (pe_cal c_need_many hr (by decide) (passes_call (takes_of rfl rfl rfl rfl) fun _ _ _ _ h => h) rfl (pa_cons (pv 0) pa_nil)))
      (pss_cons (ps_expr (pe_cal c_need_many hr (by decide) (passes_call (takes_of rfl rfl rfl rfl) fun _ _ _ _ h => h) rfl (pa_cons (pv 1) pa_nil)))
      (pss_one (ps_ret (pe_cal c_ways hr (by decide) (passes_call (takes_of rfl rfl rfl rfl) fun _ _ _ _ h => h) rfl (pa_cons (pv 0) (pa_cons (pv 1) pa_nil))))))), ?_⟩
  rcases h with ⟨o, hd, ho⟩ | ⟨n, k, rfl, rfl, hn, hk, q⟩
  · cases hd with
    | sets1 hm hx hw =>
      simp only [and_assoc, rst, rs, re, ra, rq, rx, ro, rl, rl2, rsp, rz, rix, rln, rg, rd, ri, rv, rk, rdd, rwi, at0, at1, at2, at3, upd_at, List.getElem?_cons_zero, List.getElem?_cons_succ, Option.some.injEq, exists_eq_left', exists_eq_left, List.set_cons_zero, List.set_cons_succ, true_and, and_true, HO.lst.injEq, HO.tup.injEq, exists_and_left, exists_eq, exists_eq', Br.t, Br.f, Be.t, Be.f, List.cons.injEq, List.append_nil, scal, if_true, if_false, ite_true, ite_false, eq_self_iff_true, decide_true, decide_false, Bool.not_true, Bool.not_false, reduceIte, List.nil_append, List.cons_append, reduceCtorEq, false_and, exists_false, false_or, or_false, Int.reduceLT, rlu, rdp, Bool.true_or, Bool.false_or, Bool.or_false, Bool.or_true]
      exact ⟨_, rfl, hm, fun z => absurd (z.symm.trans hw) (by decide), fun _ => ho⟩
    | sets2 hn hx hw =>
      simp only [and_assoc, rst, rs, re, ra, rq, rx, ro, rl, rl2, rsp, rz, rix, rln, rg, rd, ri, rv, rk, rdd, rwi, at0, at1, at2, at3, upd_at, List.getElem?_cons_zero, List.getElem?_cons_succ, Option.some.injEq, exists_eq_left', exists_eq_left, List.set_cons_zero, List.set_cons_succ, true_and, and_true, HO.lst.injEq, HO.tup.injEq, exists_and_left, exists_eq, exists_eq', Br.t, Br.f, Be.t, Be.f, List.cons.injEq, List.append_nil, scal, if_true, if_false, ite_true, ite_false, eq_self_iff_true, decide_true, decide_false, Bool.not_true, Bool.not_false, reduceIte, List.nil_append, List.cons_append, reduceCtorEq, false_and, exists_false, false_or, or_false, Int.reduceLT, rlu, rdp, Bool.true_or, Bool.false_or, Bool.or_false, Bool.or_true]
      refine ⟨_, rfl, ⟨"int", rfl⟩, fun _ => ?_, fun z => absurd (z.symm.trans (w60 hn)) (by decide)⟩
      simp only [and_assoc, rst, rs, re, ra, rq, rx, ro, rl, rl2, rsp, rz, rix, rln, rg, rd, ri, rv, rk, rdd, rwi, at0, at1, at2, at3, upd_at, List.getElem?_cons_zero, List.getElem?_cons_succ, Option.some.injEq, exists_eq_left', exists_eq_left, List.set_cons_zero, List.set_cons_succ, true_and, and_true, HO.lst.injEq, HO.tup.injEq, exists_and_left, exists_eq, exists_eq', Br.t, Br.f, Be.t, Be.f, List.cons.injEq, List.append_nil, scal, if_true, if_false, ite_true, ite_false, eq_self_iff_true, decide_true, decide_false, Bool.not_true, Bool.not_false, reduceIte, List.nil_append, List.cons_append, reduceCtorEq, false_and, exists_false, false_or, or_false, Int.reduceLT, rlu, rdp, Bool.true_or, Bool.false_or, Bool.or_false, Bool.or_true]
      exact ⟨_, rfl, hx, fun z => absurd (z.symm.trans hw) (by decide), fun _ => ho⟩
  · simp only [and_assoc, rst, rs, re, ra, rq, rx, ro, rl, rl2, rsp, rz, rix, rln, rg, rd, ri, rv, rk, rdd, rwi, at0, at1, at2, at3, upd_at, List.getElem?_cons_zero, List.getElem?_cons_succ, Option.some.injEq, exists_eq_left', exists_eq_left, List.set_cons_zero, List.set_cons_succ, true_and, and_true, HO.lst.injEq, HO.tup.injEq, exists_and_left, exists_eq, exists_eq', Br.t, Br.f, Be.t, Be.f, List.cons.injEq, List.append_nil, scal, if_true, if_false, ite_true, ite_false, eq_self_iff_true, decide_true, decide_false, Bool.not_true, Bool.not_false, reduceIte, List.nil_append, List.cons_append, reduceCtorEq, false_and, exists_false, false_or, or_false, Int.reduceLT, rlu, rdp, Bool.true_or, Bool.false_or, Bool.or_false, Bool.or_true]
    refine ⟨_, rfl, ⟨"int", rfl⟩, fun _ => ?_, fun z => absurd (z.symm.trans (w60 hn)) (by decide)⟩
    simp only [and_assoc, rst, rs, re, ra, rq, rx, ro, rl, rl2, rsp, rz, rix, rln, rg, rd, ri, rv, rk, rdd, rwi, at0, at1, at2, at3, upd_at, List.getElem?_cons_zero, List.getElem?_cons_succ, Option.some.injEq, exists_eq_left', exists_eq_left, List.set_cons_zero, List.set_cons_succ, true_and, and_true, HO.lst.injEq, HO.tup.injEq, exists_and_left, exists_eq, exists_eq', Br.t, Br.f, Be.t, Be.f, List.cons.injEq, List.append_nil, scal, if_true, if_false, ite_true, ite_false, eq_self_iff_true, decide_true, decide_false, Bool.not_true, Bool.not_false, reduceIte, List.nil_append, List.cons_append, reduceCtorEq, false_and, exists_false, false_or, or_false, Int.reduceLT, rlu, rdp, Bool.true_or, Bool.false_or, Bool.or_false, Bool.or_true]
    refine ⟨_, rfl, ⟨"int", rfl⟩, fun _ => ?_, fun z => absurd (z.symm.trans (w60 hk)) (by decide)⟩
    simp only [and_assoc, rst, rs, re, ra, rq, rx, ro, rl, rl2, rsp, rz, rix, rln, rg, rd, ri, rv, rk, rdd, rwi, at0, at1, at2, at3, upd_at, List.getElem?_cons_zero, List.getElem?_cons_succ, Option.some.injEq, exists_eq_left', exists_eq_left, List.set_cons_zero, List.set_cons_succ, true_and, and_true, HO.lst.injEq, HO.tup.injEq, exists_and_left, exists_eq, exists_eq', Br.t, Br.f, Be.t, Be.f, List.cons.injEq, List.append_nil, scal, if_true, if_false, ite_true, ite_false, eq_self_iff_true, decide_true, decide_false, Bool.not_true, Bool.not_false, reduceIte, List.nil_append, List.cons_append, reduceCtorEq, false_and, exists_false, false_or, or_false, Int.reduceLT, rlu, rdp, Bool.true_or, Bool.false_or, Bool.or_false, Bool.or_true]
    exact ⟨_, _, rfl, n, k, rfl, rfl, hn, hk, q⟩
theorem ok_set_at (T : Tx K mg w) (c_is_within : Cal P w K mg base 2 "is_within" ["thing", "low", "high"] (sp_is_within K)) (c_ways : Cal P w K mg base 1 "ways" ["many", "size"] (sp_ways K)) (c_sets_many : Cal P w K mg base 5 "sets_many" ["many", "size"] (sp_sets_many K)) (c_NoNumber : Exn P w K mg base "NoNumber" "found") : Cal P w K mg base 6 "set_at" ["many", "size", "rank"] (sp_set_at K) := by
  refine cal_mk T.F_set_at T.g_set_at sc_set_at (len3 _) (fun _ _ _ _ _ _ us hl => match us, hl with | [_, _, _], _ => rfl) (fun cdv A outer s H vs Q E hr h => ?_)
  obtain ⟨v0, v1, v2, rfl, h⟩ := h
  have hu := hu_of hr
  refine ⟨_, (pss_cons (ps_if (pt_not (pt_val (pe_cal c_is_within hr (by decide) (passes_call (takes_of rfl rfl rfl rfl) fun _ _ _ _ h => h) rfl (pa_cons (pv 2) (pa_cons pe_int (pa_cons (pe_op op_sub (pe_cal c_sets_many hr (by decide) (passes_call (takes_of rfl rfl rfl rfl) fun _ _ _ _ h => h) rfl (pa_cons (pv 0) (pa_cons (pv 1) pa_nil))) pe_int) pa_nil)))))) (pss_one (ps_rs1 c_NoNumber rfl (takes_of rfl rfl rfl rfl) hr (by decide) rfl (pa_cons (pv 2) pa_nil))) pss_nil)
      (pss_cons (ps_set (i := 3) sc_set_at.nd rfl (Or.inl rfl) (pe_lst pa_nil))
      (pss_cons (ps_for (passes_of rfl) rfl (pi_range1 (by rfl) T.n_range (pa_cons (pv 0) pa_nil)) (pg_name (i := 4) sc_set_at.nd rfl (Or.inl rfl)) (pss_cons (ps_set (i := 5) sc_set_at.nd rfl (Or.inl rfl) (pe_ifExp (pt_cmpR op_lt (pe_callB len_q (by rfl) T.n_len (by decide +kernel) (pa_cons (pv 3) pa_nil)) (pv 1) (nomark _)) (pe_cal c_ways hr (by decide) (passes_call (takes_of rfl rfl rfl rfl) fun _ _ _ _ h => h) rfl (pa_cons (pe_op op_sub (pe_op op_sub (pv 0) (pv 4)) pe_int) (pa_cons (pe_op op_sub (pe_op op_sub (pv 1) (pe_callB len_q (by rfl) T.n_len (by decide +kernel) (pa_cons (pv 3) pa_nil))) pe_int) pa_nil))) pe_int))
      (pss_one (ps_if (pt_cmpR op_lt (pv 2) (pv 5) (nomark _)) (pss_one (ps_expr (pe_ml PySem.F.slot_list_append PySem.F.type_list_append mt_append (pv 3) (pa_cons (pv 4) pa_nil)))) (pss_one (ps_aug (i := 2) sc_set_at.nd rfl (Or.inl rfl) (pv 5) ip_sub))))))
      (pss_one (ps_ret (pe_callTy tup_q (by rfl) T.n_tuple (by decide +kernel) (pa_cons (pv 3) pa_nil))))))), ?_⟩
  obtain ⟨o, hd, ho⟩ := h
  cases hd with
  | set1 hm hx hy hw =>
    simp only [and_assoc, rst, rs, re, ra, rq, rx, ro, rl, rl2, rsp, rz, rix, rln, rg, rd, ri, rv, rk, rdd, rwi, at0, at1, at2, at3, upd_at, List.getElem?_cons_zero, List.getElem?_cons_succ, Option.some.injEq, exists_eq_left', exists_eq_left, List.set_cons_zero, List.set_cons_succ, true_and, and_true, HO.lst.injEq, HO.tup.injEq, exists_and_left, exists_eq, exists_eq', Br.t, Br.f, Be.t, Be.f, List.cons.injEq, List.append_nil, scal, if_true, if_false, ite_true, ite_false, eq_self_iff_true, decide_true, decide_false, Bool.not_true, Bool.not_false, reduceIte, List.nil_append, List.cons_append, reduceCtorEq, false_and, exists_false, false_or, or_false, Int.reduceLT, rlu, rdp, Bool.true_or, Bool.false_or, Bool.or_false, Bool.or_true]
    exact ⟨_, _, rfl, .inl ⟨_, .sets1 hm hx hw, ho⟩⟩
  | set2 hn hx hy hw =>
    simp only [and_assoc, rst, rs, re, ra, rq, rx, ro, rl, rl2, rsp, rz, rix, rln, rg, rd, ri, rv, rk, rdd, rwi, at0, at1, at2, at3, upd_at, List.getElem?_cons_zero, List.getElem?_cons_succ, Option.some.injEq, exists_eq_left', exists_eq_left, List.set_cons_zero, List.set_cons_succ, true_and, and_true, HO.lst.injEq, HO.tup.injEq, exists_and_left, exists_eq, exists_eq', Br.t, Br.f, Be.t, Be.f, List.cons.injEq, List.append_nil, scal, if_true, if_false, ite_true, ite_false, eq_self_iff_true, decide_true, decide_false, Bool.not_true, Bool.not_false, reduceIte, List.nil_append, List.cons_append, reduceCtorEq, false_and, exists_false, false_or, or_false, Int.reduceLT, rlu, rdp, Bool.true_or, Bool.false_or, Bool.or_false, Bool.or_true]
    exact ⟨_, _, rfl, .inl ⟨_, .sets2 hn hx hw, ho⟩⟩
  | @set3 n k y r hn hk hy hw =>
    simp only [and_assoc, rst, rs, re, ra, rq, rx, ro, rl, rl2, rsp, rz, rix, rln, rg, rd, ri, rv, rk, rdd, rwi, at0, at1, at2, at3, upd_at, List.getElem?_cons_zero, List.getElem?_cons_succ, Option.some.injEq, exists_eq_left', exists_eq_left, List.set_cons_zero, List.set_cons_succ, true_and, and_true, HO.lst.injEq, HO.tup.injEq, exists_and_left, exists_eq, exists_eq', Br.t, Br.f, Be.t, Be.f, List.cons.injEq, List.append_nil, scal, if_true, if_false, ite_true, ite_false, eq_self_iff_true, decide_true, decide_false, Bool.not_true, Bool.not_false, reduceIte, List.nil_append, List.cons_append, reduceCtorEq, false_and, exists_false, false_or, or_false, Int.reduceLT, rlu, rdp, Bool.true_or, Bool.false_or, Bool.or_false, Bool.or_true]
    refine ⟨_, _, rfl, .inr ⟨n, k, rfl, rfl, hn, hk, ?_⟩⟩
    simp only [and_assoc, rst, rs, re, ra, rq, rx, ro, rl, rl2, rsp, rz, rix, rln, rg, rd, ri, rv, rk, rdd, rwi, at0, at1, at2, at3, upd_at, List.getElem?_cons_zero, List.getElem?_cons_succ, Option.some.injEq, exists_eq_left', exists_eq_left, List.set_cons_zero, List.set_cons_succ, true_and, and_true, HO.lst.injEq, HO.tup.injEq, exists_and_left, exists_eq, exists_eq', Br.t, Br.f, Be.t, Be.f, List.cons.injEq, List.append_nil, scal, if_true, if_false, ite_true, ite_false, eq_self_iff_true, decide_true, decide_false, Bool.not_true, Bool.not_false, reduceIte, List.nil_append, List.cons_append, reduceCtorEq, false_and, exists_false, false_or, or_false, Int.reduceLT, rlu, rdp, Bool.true_or, Bool.false_or, Bool.or_false, Bool.or_true]
    refine ⟨_, _, _, rfl, _, _, rfl, rfl, hy, ?_⟩
    simp only [and_assoc, rst, rs, re, ra, rq, rx, ro, rl, rl2, rsp, rz, rix, rln, rg, rd, ri, rv, rk, rdd, rwi, at0, at1, at2, at3, upd_at, List.getElem?_cons_zero, List.getElem?_cons_succ, Option.some.injEq, exists_eq_left', exists_eq_left, List.set_cons_zero, List.set_cons_succ, true_and, and_true, HO.lst.injEq, HO.tup.injEq, exists_and_left, exists_eq, exists_eq', Br.t, Br.f, Be.t, Be.f, List.cons.injEq, List.append_nil, scal, if_true, if_false, ite_true, ite_false, eq_self_iff_true, decide_true, decide_false, Bool.not_true, Bool.not_false, reduceIte, List.nil_append, List.cons_append, reduceCtorEq, false_and, exists_false, false_or, or_false, Int.reduceLT, rlu, rdp, Bool.true_or, Bool.false_or, Bool.or_false, Bool.or_true, hw]
    exact fun d hd => ho _ d (fun _ _ e => e) hd
  | @set4 n k r hn hk =>
    have w1 := wys_pos hn hk
    simp only [and_assoc, rst, rs, re, ra, rq, rx, ro, rl, rl2, rsp, rz, rix, rln, rg, rd, ri, rv, rk, rdd, rwi, at0, at1, at2, at3, upd_at, List.getElem?_cons_zero, List.getElem?_cons_succ, Option.some.injEq, exists_eq_left', exists_eq_left, List.set_cons_zero, List.set_cons_succ, true_and, and_true, HO.lst.injEq, HO.tup.injEq, exists_and_left, exists_eq, exists_eq', Br.t, Br.f, Be.t, Be.f, List.cons.injEq, List.append_nil, scal, if_true, if_false, ite_true, ite_false, eq_self_iff_true, decide_true, decide_false, Bool.not_true, Bool.not_false, reduceIte, List.nil_append, List.cons_append, reduceCtorEq, false_and, exists_false, false_or, or_false, Int.reduceLT, rlu, rdp, Bool.true_or, Bool.false_or, Bool.or_false, Bool.or_true]
    refine ⟨_, _, rfl, .inr ⟨n, k, rfl, rfl, hn, by omega, ?_⟩⟩
    simp only [and_assoc, rst, rs, re, ra, rq, rx, ro, rl, rl2, rsp, rz, rix, rln, rg, rd, ri, rv, rk, rdd, rwi, at0, at1, at2, at3, upd_at, List.getElem?_cons_zero, List.getElem?_cons_succ, Option.some.injEq, exists_eq_left', exists_eq_left, List.set_cons_zero, List.set_cons_succ, true_and, and_true, HO.lst.injEq, HO.tup.injEq, exists_and_left, exists_eq, exists_eq', Br.t, Br.f, Be.t, Be.f, List.cons.injEq, List.append_nil, scal, if_true, if_false, ite_true, ite_false, eq_self_iff_true, decide_true, decide_false, Bool.not_true, Bool.not_false, reduceIte, List.nil_append, List.cons_append, reduceCtorEq, false_and, exists_false, false_or, or_false, Int.reduceLT, rlu, rdp, Bool.true_or, Bool.false_or, Bool.or_false, Bool.or_true]
    refine ⟨_, _, _, rfl, _, _, rfl, rfl, ⟨"int", rfl⟩, ?_⟩
    have hw : within (.int 0) 0 (wys n k - 1) = true := decide_eq_true ⟨by omega, by omega⟩
    simp only [and_assoc, rst, rs, re, ra, rq, rx, ro, rl, rl2, rsp, rz, rix, rln, rg, rd, ri, rv, rk, rdd, rwi, at0, at1, at2, at3, upd_at, List.getElem?_cons_zero, List.getElem?_cons_succ, Option.some.injEq, exists_eq_left', exists_eq_left, List.set_cons_zero, List.set_cons_succ, true_and, and_true, HO.lst.injEq, HO.tup.injEq, exists_and_left, exists_eq, exists_eq', Br.t, Br.f, Be.t, Be.f, List.cons.injEq, List.append_nil, scal, if_true, if_false, ite_true, ite_false, eq_self_iff_true, decide_true, decide_false, Bool.not_true, Bool.not_false, reduceIte, List.nil_append, List.cons_append, reduceCtorEq, false_and, exists_false, false_or, or_false, Int.reduceLT, rlu, rdp, Bool.true_or, Bool.false_or, Bool.or_false, Bool.or_true, hw]
    intro f hf
    refine ⟨by omega, by omega, ?_⟩
    rw [Int.toNat_natCast]
    refine FI.rng (fun i σ H' => ∃ v4 v5 xs z, Same H H' ∧ H' f = some (.lst xs) ∧ xs.length ≤ i ∧ σ = [some (.int n), some (.int k), some (.int z), some (.ref f), v4, v5]) ⟨none, none, [], 0, Same.new hf, upd_same, by decide, rfl⟩ ?_ ?_
    · rintro i σ H' hi ⟨v4, v5, xs, z, s, h1, hl, rfl⟩
      simp only [and_assoc, rst, rs, re, ra, rq, rx, ro, rl, rl2, rsp, rz, rix, rln, rg, rd, ri, rv, rk, rdd, rwi, at0, at1, at2, at3, upd_at, List.getElem?_cons_zero, List.getElem?_cons_succ, Option.some.injEq, exists_eq_left', exists_eq_left, List.set_cons_zero, List.set_cons_succ, true_and, and_true, HO.lst.injEq, HO.tup.injEq, exists_and_left, exists_eq, exists_eq', Br.t, Br.f, Be.t, Be.f, List.cons.injEq, List.append_nil, scal, if_true, if_false, ite_true, ite_false, eq_self_iff_true, decide_true, decide_false, Bool.not_true, Bool.not_false, reduceIte, List.nil_append, List.cons_append, reduceCtorEq, false_and, exists_false, false_or, or_false, Int.reduceLT, rlu, rdp, Bool.true_or, Bool.false_or, Bool.or_false, Bool.or_true, h1]
      refine Be.d (fun c => ?_) fun c => ?_
      · simp only [and_assoc, rst, rs, re, ra, rq, rx, ro, rl, rl2, rsp, rz, rix, rln, rg, rd, ri, rv, rk, rdd, rwi, at0, at1, at2, at3, upd_at, List.getElem?_cons_zero, List.getElem?_cons_succ, Option.some.injEq, exists_eq_left', exists_eq_left, List.set_cons_zero, List.set_cons_succ, true_and, and_true, HO.lst.injEq, HO.tup.injEq, exists_and_left, exists_eq, exists_eq', Br.t, Br.f, Be.t, Be.f, List.cons.injEq, List.append_nil, scal, if_true, if_false, ite_true, ite_false, eq_self_iff_true, decide_true, decide_false, Bool.not_true, Bool.not_false, reduceIte, List.nil_append, List.cons_append, reduceCtorEq, false_and, exists_false, false_or, or_false, Int.reduceLT, rlu, rdp, Bool.true_or, Bool.false_or, Bool.or_false, Bool.or_true, h1]
        refine ⟨_, _, rfl, n - i - 1, k - xs.length - 1, by rw [show (n : Int) - (0 + (i : Int)) - 1 = ((n - i - 1 : Nat) : Int) by omega], by rw [show (k : Int) - (xs.length : Int) - 1 = ((k - xs.length - 1 : Nat) : Int) by omega], by omega, by omega, ?_⟩
        simp only [and_assoc, rst, rs, re, ra, rq, rx, ro, rl, rl2, rsp, rz, rix, rln, rg, rd, ri, rv, rk, rdd, rwi, at0, at1, at2, at3, upd_at, List.getElem?_cons_zero, List.getElem?_cons_succ, Option.some.injEq, exists_eq_left', exists_eq_left, List.set_cons_zero, List.set_cons_succ, true_and, and_true, HO.lst.injEq, HO.tup.injEq, exists_and_left, exists_eq, exists_eq', Br.t, Br.f, Be.t, Be.f, List.cons.injEq, List.append_nil, scal, if_true, if_false, ite_true, ite_false, eq_self_iff_true, decide_true, decide_false, Bool.not_true, Bool.not_false, reduceIte, List.nil_append, List.cons_append, reduceCtorEq, false_and, exists_false, false_or, or_false, Int.reduceLT, rlu, rdp, Bool.true_or, Bool.false_or, Bool.or_false, Bool.or_true]
        refine Br.d (fun c2 => ?_) fun c2 => ?_
        · simp only [and_assoc, rst, rs, re, ra, rq, rx, ro, rl, rl2, rsp, rz, rix, rln, rg, rd, ri, rv, rk, rdd, rwi, at0, at1, at2, at3, upd_at, List.getElem?_cons_zero, List.getElem?_cons_succ, Option.some.injEq, exists_eq_left', exists_eq_left, List.set_cons_zero, List.set_cons_succ, true_and, and_true, HO.lst.injEq, HO.tup.injEq, exists_and_left, exists_eq, exists_eq', Br.t, Br.f, Be.t, Be.f, List.cons.injEq, List.append_nil, scal, if_true, if_false, ite_true, ite_false, eq_self_iff_true, decide_true, decide_false, Bool.not_true, Bool.not_false, reduceIte, List.nil_append, List.cons_append, reduceCtorEq, false_and, exists_false, false_or, or_false, Int.reduceLT, rlu, rdp, Bool.true_or, Bool.false_or, Bool.or_false, Bool.or_true, h1]
          exact ⟨by rw [sizeLine_eq]; omega, Same.mut s hf, by rw [List.length_append, List.length_singleton]; omega⟩
        · simp only [and_assoc, rst, rs, re, ra, rq, rx, ro, rl, rl2, rsp, rz, rix, rln, rg, rd, ri, rv, rk, rdd, rwi, at0, at1, at2, at3, upd_at, List.getElem?_cons_zero, List.getElem?_cons_succ, Option.some.injEq, exists_eq_left', exists_eq_left, List.set_cons_zero, List.set_cons_succ, true_and, and_true, HO.lst.injEq, HO.tup.injEq, exists_and_left, exists_eq, exists_eq', Br.t, Br.f, Be.t, Be.f, List.cons.injEq, List.append_nil, scal, if_true, if_false, ite_true, ite_false, eq_self_iff_true, decide_true, decide_false, Bool.not_true, Bool.not_false, reduceIte, List.nil_append, List.cons_append, reduceCtorEq, false_and, exists_false, false_or, or_false, Int.reduceLT, rlu, rdp, Bool.true_or, Bool.false_or, Bool.or_false, Bool.or_true, h1]
          exact ⟨s, by omega⟩
      · refine Br.d (fun c2 => ?_) fun c2 => ?_
        · simp only [and_assoc, rst, rs, re, ra, rq, rx, ro, rl, rl2, rsp, rz, rix, rln, rg, rd, ri, rv, rk, rdd, rwi, at0, at1, at2, at3, upd_at, List.getElem?_cons_zero, List.getElem?_cons_succ, Option.some.injEq, exists_eq_left', exists_eq_left, List.set_cons_zero, List.set_cons_succ, true_and, and_true, HO.lst.injEq, HO.tup.injEq, exists_and_left, exists_eq, exists_eq', Br.t, Br.f, Be.t, Be.f, List.cons.injEq, List.append_nil, scal, if_true, if_false, ite_true, ite_false, eq_self_iff_true, decide_true, decide_false, Bool.not_true, Bool.not_false, reduceIte, List.nil_append, List.cons_append, reduceCtorEq, false_and, exists_false, false_or, or_false, Int.reduceLT, rlu, rdp, Bool.true_or, Bool.false_or, Bool.or_false, Bool.or_true, h1]
          exact ⟨by rw [sizeLine_eq]; omega, Same.mut s hf, by rw [List.length_append, List.length_singleton]; omega⟩
        · simp only [and_assoc, rst, rs, re, ra, rq, rx, ro, rl, rl2, rsp, rz, rix, rln, rg, rd, ri, rv, rk, rdd, rwi, at0, at1, at2, at3, upd_at, List.getElem?_cons_zero, List.getElem?_cons_succ, Option.some.injEq, exists_eq_left', exists_eq_left, List.set_cons_zero, List.set_cons_succ, true_and, and_true, HO.lst.injEq, HO.tup.injEq, exists_and_left, exists_eq, exists_eq', Br.t, Br.f, Be.t, Be.f, List.cons.injEq, List.append_nil, scal, if_true, if_false, ite_true, ite_false, eq_self_iff_true, decide_true, decide_false, Bool.not_true, Bool.not_false, reduceIte, List.nil_append, List.cons_append, reduceCtorEq, false_and, exists_false, false_or, or_false, Int.reduceLT, rlu, rdp, Bool.true_or, Bool.false_or, Bool.or_false, Bool.or_true, h1]
          exact ⟨s, by omega⟩
    · rintro σ H' ⟨v4, v5, xs, z, s, h1, hl, rfl⟩
      simp only [and_assoc, rst, rs, re, ra, rq, rx, ro, rl, rl2, rsp, rz, rix, rln, rg, rd, ri, rv, rk, rdd, rwi, at0, at1, at2, at3, upd_at, List.getElem?_cons_zero, List.getElem?_cons_succ, Option.some.injEq, exists_eq_left', exists_eq_left, List.set_cons_zero, List.set_cons_succ, true_and, and_true, HO.lst.injEq, HO.tup.injEq, exists_and_left, exists_eq, exists_eq', Br.t, Br.f, Be.t, Be.f, List.cons.injEq, List.append_nil, scal, if_true, if_false, ite_true, ite_false, eq_self_iff_true, decide_true, decide_false, Bool.not_true, Bool.not_false, reduceIte, List.nil_append, List.cons_append, reduceCtorEq, false_and, exists_false, false_or, or_false, Int.reduceLT, rlu, rdp, Bool.true_or, Bool.false_or, Bool.or_false, Bool.or_true, h1]
      exact fun q hq => ho _ _ (Same.trans s (Same.new hq))
theorem ok_is_set (T : Tx K mg w) (c_is_within : Cal P w K mg base 2 "is_within" ["thing", "low", "high"] (sp_is_within K))  : Cal P w K mg base 3 "is_set" ["many", "thing"] (sp_is_set K) := by
  refine cal_mk T.F_is_set T.g_is_set sc_is_set (len2 _) (fun _ _ _ _ _ _ us hl => match us, hl with | [_, _], _ => rfl) (fun cdv A outer s H vs Q E hr h => ?_)
  obtain ⟨v0, v1, rfl, h⟩ := h
  have hu := hu_of hr
  refine ⟨_, (pss_cons (ps_if (pt_not (pt_val (pe_callB is_2 (by rfl) T.n_isinstance (by decide +kernel) (pa_cons (pv 1) (pa_cons (pe_tup (pa_cons (pe_bltn (v := .ty "list") (by rfl) T.n_list (by decide +kernel) rfl) (pa_cons (pe_bltn (v := .ty "tuple") (by rfl) T.n_tuple (by decide +kernel) rfl) pa_nil))) pa_nil))))) (pss_one (ps_ret pe_bl)) pss_nil)
      (pss_cons (ps_set (i := 2) sc_is_set.nd rfl (Or.inl rfl) (pe_un un_neg pe_int))
      (pss_cons (ps_for (passes_of rfl) rfl (pi_q (pv 1)) (pg_name (i := 3) sc_is_set.nd rfl (Or.inl rfl)) (pss_cons (ps_if (pt_not (pt_val (pe_cal c_is_within hr (by decide) passL rfl (pa_cons (pv 3) (pa_cons (pe_op op_add (pv 2) pe_int) (pa_cons (pe_op op_sub (pv 0) pe_int) pa_nil)))))) (pss_one (ps_ret pe_bl)) pss_nil)
      (pss_one (ps_set (i := 2) sc_is_set.nd rfl (Or.inl rfl) (pv 3)))))
      (pss_one (ps_ret pe_bl))))), ?_⟩
  obtain ⟨n, b, rfl, hb, q⟩ := h
  rcases hb with ⟨xs, ⟨p, o, rfl, hp, hs⟩, ht, rfl⟩ | ⟨hx, rfl⟩
  · have kb := kindB hp hs
    have tr : (!isT o || isT o) = true := by cases isT o <;> rfl
    simp only [and_assoc, rst, rs, re, ra, rq, rx, ro, rl, rl2, rsp, rz, rix, rln, rg, rd, ri, rv, rk, rdd, rwi, at0, at1, at2, at3, upd_at, List.getElem?_cons_zero, List.getElem?_cons_succ, Option.some.injEq, exists_eq_left', exists_eq_left, List.set_cons_zero, List.set_cons_succ, true_and, and_true, HO.lst.injEq, HO.tup.injEq, exists_and_left, exists_eq, exists_eq', Br.t, Br.f, Be.t, Be.f, List.cons.injEq, List.append_nil, scal, if_true, if_false, ite_true, ite_false, eq_self_iff_true, decide_true, decide_false, Bool.not_true, Bool.not_false, reduceIte, List.nil_append, List.cons_append, reduceCtorEq, false_and, exists_false, false_or, or_false, Int.reduceLT, rlu, rdp, Bool.true_or, Bool.false_or, Bool.or_false, Bool.or_true]
    intro a ha
    have sa : Same H (upd H a (.tup [.ty "list", .ty "tuple"])) := Same.new ha
    refine ⟨_, a, "list", "tuple", _, _, rfl, upd_same, isB_same sa kb.2.2.2.2.1, isB_same sa kb.2.2.2.2.2, ?_⟩
    rw [tr]
    generalize upd H a _ = H1 at sa
    simp only [and_assoc, rst, rs, re, ra, rq, rx, ro, rl, rl2, rsp, rz, rix, rln, rg, rd, ri, rv, rk, rdd, rwi, at0, at1, at2, at3, upd_at, List.getElem?_cons_zero, List.getElem?_cons_succ, Option.some.injEq, exists_eq_left', exists_eq_left, List.set_cons_zero, List.set_cons_succ, true_and, and_true, HO.lst.injEq, HO.tup.injEq, exists_and_left, exists_eq, exists_eq', Br.t, Br.f, Be.t, Be.f, List.cons.injEq, List.append_nil, scal, if_true, if_false, ite_true, ite_false, eq_self_iff_true, decide_true, decide_false, Bool.not_true, Bool.not_false, reduceIte, List.nil_append, List.cons_append, reduceCtorEq, false_and, exists_false, false_or, or_false, Int.reduceLT, rlu, rdp, Bool.true_or, Bool.false_or, Bool.or_false, Bool.or_true]
    refine ⟨o, sa _ _ hp, xs, hs, FI.seq hs (fun i σ H' => ∃ c v3, Same H H' ∧ setL n c (xs.drop i) = setL n (-1) xs ∧ σ = [some (.int n), some (.ref p), some (.int c), v3]) ⟨-1, none, sa, rfl, rfl⟩ (fun i σ H' _ ⟨_, _, s, _⟩ => s _ _ hp) ?_ ?_⟩
    · rintro i x σ H' hx ⟨c, v3, s, e, rfl⟩
      rw [drop_at hx] at e
      simp only [and_assoc, rst, rs, re, ra, rq, rx, ro, rl, rl2, rsp, rz, rix, rln, rg, rd, ri, rv, rk, rdd, rwi, at0, at1, at2, at3, upd_at, List.getElem?_cons_zero, List.getElem?_cons_succ, Option.some.injEq, exists_eq_left', exists_eq_left, List.set_cons_zero, List.set_cons_succ, true_and, and_true, HO.lst.injEq, HO.tup.injEq, exists_and_left, exists_eq, exists_eq', Br.t, Br.f, Be.t, Be.f, List.cons.injEq, List.append_nil, scal, if_true, if_false, ite_true, ite_false, eq_self_iff_true, decide_true, decide_false, Bool.not_true, Bool.not_false, reduceIte, List.nil_append, List.cons_append, reduceCtorEq, false_and, exists_false, false_or, or_false, Int.reduceLT, rlu, rdp, Bool.true_or, Bool.false_or, Bool.or_false, Bool.or_true]
      refine ⟨_, _, _, rfl, _, _, rfl, rfl, (ht x (List.mem_of_getElem? hx)).same s, ?_⟩
      cases hw : within x (c + 1) (n - 1) with
      | false =>
        simp only [and_assoc, rst, rs, re, ra, rq, rx, ro, rl, rl2, rsp, rz, rix, rln, rg, rd, ri, rv, rk, rdd, rwi, at0, at1, at2, at3, upd_at, List.getElem?_cons_zero, List.getElem?_cons_succ, Option.some.injEq, exists_eq_left', exists_eq_left, List.set_cons_zero, List.set_cons_succ, true_and, and_true, HO.lst.injEq, HO.tup.injEq, exists_and_left, exists_eq, exists_eq', Br.t, Br.f, Be.t, Be.f, List.cons.injEq, List.append_nil, scal, if_true, if_false, ite_true, ite_false, eq_self_iff_true, decide_true, decide_false, Bool.not_true, Bool.not_false, reduceIte, List.nil_append, List.cons_append, reduceCtorEq, false_and, exists_false, false_or, or_false, Int.reduceLT, rlu, rdp, Bool.true_or, Bool.false_or, Bool.or_false, Bool.or_true, hw]
        have e2 : setL n c (x :: xs.drop (i + 1)) = false := by
          cases x with
          | int z =>
            show (decide _ && _) = false
            rw [show decide (c + 1 ≤ z ∧ z ≤ n - 1) = false from hw, Bool.false_and]
          | _ => rfl
        rw [← e, e2] at q
        exact q _ s
      | true =>
        simp only [and_assoc, rst, rs, re, ra, rq, rx, ro, rl, rl2, rsp, rz, rix, rln, rg, rd, ri, rv, rk, rdd, rwi, at0, at1, at2, at3, upd_at, List.getElem?_cons_zero, List.getElem?_cons_succ, Option.some.injEq, exists_eq_left', exists_eq_left, List.set_cons_zero, List.set_cons_succ, true_and, and_true, HO.lst.injEq, HO.tup.injEq, exists_and_left, exists_eq, exists_eq', Br.t, Br.f, Be.t, Be.f, List.cons.injEq, List.append_nil, scal, if_true, if_false, ite_true, ite_false, eq_self_iff_true, decide_true, decide_false, Bool.not_true, Bool.not_false, reduceIte, List.nil_append, List.cons_append, reduceCtorEq, false_and, exists_false, false_or, or_false, Int.reduceLT, rlu, rdp, Bool.true_or, Bool.false_or, Bool.or_false, Bool.or_true, hw]
        cases x with
        | int z =>
          refine ⟨s, z, ?_, rfl⟩
          rw [← e]
          show _ = (decide (c + 1 ≤ z ∧ z ≤ n - 1) && setL n z (xs.drop (i + 1)))
          rw [show decide (c + 1 ≤ z ∧ z ≤ n - 1) = true from hw, Bool.true_and]
        | _ => cases hw
    · rintro σ H' ⟨c, v3, s, e, rfl⟩
      simp only [and_assoc, rst, rs, re, ra, rq, rx, ro, rl, rl2, rsp, rz, rix, rln, rg, rd, ri, rv, rk, rdd, rwi, at0, at1, at2, at3, upd_at, List.getElem?_cons_zero, List.getElem?_cons_succ, Option.some.injEq, exists_eq_left', exists_eq_left, List.set_cons_zero, List.set_cons_succ, true_and, and_true, HO.lst.injEq, HO.tup.injEq, exists_and_left, exists_eq, exists_eq', Br.t, Br.f, Be.t, Be.f, List.cons.injEq, List.append_nil, scal, if_true, if_false, ite_true, ite_false, eq_self_iff_true, decide_true, decide_false, Bool.not_true, Bool.not_false, reduceIte, List.nil_append, List.cons_append, reduceCtorEq, false_and, exists_false, false_or, or_false, Int.reduceLT, rlu, rdp, Bool.true_or, Bool.false_or, Bool.or_false, Bool.or_true]
      rw [List.drop_length] at e
      rw [← e] at q
      exact q _ s
  · simp only [and_assoc, rst, rs, re, ra, rq, rx, ro, rl, rl2, rsp, rz, rix, rln, rg, rd, ri, rv, rk, rdd, rwi, at0, at1, at2, at3, upd_at, List.getElem?_cons_zero, List.getElem?_cons_succ, Option.some.injEq, exists_eq_left', exists_eq_left, List.set_cons_zero, List.set_cons_succ, true_and, and_true, HO.lst.injEq, HO.tup.injEq, exists_and_left, exists_eq, exists_eq', Br.t, Br.f, Be.t, Be.f, List.cons.injEq, List.append_nil, scal, if_true, if_false, ite_true, ite_false, eq_self_iff_true, decide_true, decide_false, Bool.not_true, Bool.not_false, reduceIte, List.nil_append, List.cons_append, reduceCtorEq, false_and, exists_false, false_or, or_false, Int.reduceLT, rlu, rdp, Bool.true_or, Bool.false_or, Bool.or_false, Bool.or_true]
    intro a ha
    have sa : Same H (upd H a (.tup [.ty "list", .ty "tuple"])) := Same.new ha
    refine ⟨_, a, "list", "tuple", false, false, rfl, upd_same, isB_same sa hx.1, isB_same sa hx.2, ?_⟩
    simp only [and_assoc, rst, rs, re, ra, rq, rx, ro, rl, rl2, rsp, rz, rix, rln, rg, rd, ri, rv, rk, rdd, rwi, at0, at1, at2, at3, upd_at, List.getElem?_cons_zero, List.getElem?_cons_succ, Option.some.injEq, exists_eq_left', exists_eq_left, List.set_cons_zero, List.set_cons_succ, true_and, and_true, HO.lst.injEq, HO.tup.injEq, exists_and_left, exists_eq, exists_eq', Br.t, Br.f, Be.t, Be.f, List.cons.injEq, List.append_nil, scal, if_true, if_false, ite_true, ite_false, eq_self_iff_true, decide_true, decide_false, Bool.not_true, Bool.not_false, reduceIte, List.nil_append, List.cons_append, reduceCtorEq, false_and, exists_false, false_or, or_false, Int.reduceLT, rlu, rdp, Bool.true_or, Bool.false_or, Bool.or_false, Bool.or_true]
    exact q _ sa
theorem ok_need_set (T : Tx K mg w) (c_need_many : Cal P w K mg base 4 "need_many" ["many"] (sp_need_many K)) (c_is_set : Cal P w K mg base 3 "is_set" ["many", "thing"] (sp_is_set K)) (c_NoSet : Exn P w K mg base "NoSet" "found") : Cal P w K mg base 5 "need_set" ["many", "told"] (sp_need_set K) := by
  refine cal_mk T.F_need_set T.g_need_set sc_need_set (len2 _) (fun _ _ _ _ _ _ us hl => match us, hl with | [_, _], _ => rfl) (fun cdv A outer s H vs Q E hr h => ?_)
  obtain ⟨v0, v1, rfl, h⟩ := h
  have hu := hu_of hr
  refine ⟨_, (pss_cons (ps_expr (pe_cal c_need_many hr (by decide) (passes_call (takes_of rfl rfl rfl rfl) fun _ _ _ _ h => h) rfl (pa_cons (pv 0) pa_nil)))
      (pss_one (ps_if (pt_not (pt_val (pe_cal c_is_set hr (by decide) (passes_call (takes_of rfl rfl rfl rfl) fun _ _ _ _ h => h) rfl (pa_cons (pv 0) (pa_cons (pv 1) pa_nil))))) (pss_one (ps_rs1 c_NoSet rfl (takes_of rfl rfl rfl rfl) hr (by decide) rfl (pa_cons (pv 1) pa_nil))) pss_nil))), ?_⟩
  rcases h with ⟨ht, hw, e⟩ | ⟨n, rfl, hn, hb, e⟩
  · simp only [and_assoc, rst, rs, re, ra, rq, rx, ro, rl, rl2, rsp, rz, rix, rln, rg, rd, ri, rv, rk, rdd, rwi, at0, at1, at2, at3, upd_at, List.getElem?_cons_zero, List.getElem?_cons_succ, Option.some.injEq, exists_eq_left', exists_eq_left, List.set_cons_zero, List.set_cons_succ, true_and, and_true, HO.lst.injEq, HO.tup.injEq, exists_and_left, exists_eq, exists_eq', Br.t, Br.f, Be.t, Be.f, List.cons.injEq, List.append_nil, scal, if_true, if_false, ite_true, ite_false, eq_self_iff_true, decide_true, decide_false, Bool.not_true, Bool.not_false, reduceIte, List.nil_append, List.cons_append, reduceCtorEq, false_and, exists_false, false_or, or_false, Int.reduceLT, rlu, rdp, Bool.true_or, Bool.false_or, Bool.or_false, Bool.or_true]
    exact ⟨_, rfl, ht, fun z => absurd (z.symm.trans hw) (by decide), fun _ => e⟩
  · simp only [and_assoc, rst, rs, re, ra, rq, rx, ro, rl, rl2, rsp, rz, rix, rln, rg, rd, ri, rv, rk, rdd, rwi, at0, at1, at2, at3, upd_at, List.getElem?_cons_zero, List.getElem?_cons_succ, Option.some.injEq, exists_eq_left', exists_eq_left, List.set_cons_zero, List.set_cons_succ, true_and, and_true, HO.lst.injEq, HO.tup.injEq, exists_and_left, exists_eq, exists_eq', Br.t, Br.f, Be.t, Be.f, List.cons.injEq, List.append_nil, scal, if_true, if_false, ite_true, ite_false, eq_self_iff_true, decide_true, decide_false, Bool.not_true, Bool.not_false, reduceIte, List.nil_append, List.cons_append, reduceCtorEq, false_and, exists_false, false_or, or_false, Int.reduceLT, rlu, rdp, Bool.true_or, Bool.false_or, Bool.or_false, Bool.or_true]
    refine ⟨_, rfl, ⟨"int", rfl⟩, fun _ => ?_, fun z => absurd (z.symm.trans (w60 hn)) (by decide)⟩
    simp only [and_assoc, rst, rs, re, ra, rq, rx, ro, rl, rl2, rsp, rz, rix, rln, rg, rd, ri, rv, rk, rdd, rwi, at0, at1, at2, at3, upd_at, List.getElem?_cons_zero, List.getElem?_cons_succ, Option.some.injEq, exists_eq_left', exists_eq_left, List.set_cons_zero, List.set_cons_succ, true_and, and_true, HO.lst.injEq, HO.tup.injEq, exists_and_left, exists_eq, exists_eq', Br.t, Br.f, Be.t, Be.f, List.cons.injEq, List.append_nil, scal, if_true, if_false, ite_true, ite_false, eq_self_iff_true, decide_true, decide_false, Bool.not_true, Bool.not_false, reduceIte, List.nil_append, List.cons_append, reduceCtorEq, false_and, exists_false, false_or, or_false, Int.reduceLT, rlu, rdp, Bool.true_or, Bool.false_or, Bool.or_false, Bool.or_true]
    refine ⟨_, _, rfl, n, false, rfl, hb, fun H1 s1 => ?_⟩
    simp only [and_assoc, rst, rs, re, ra, rq, rx, ro, rl, rl2, rsp, rz, rix, rln, rg, rd, ri, rv, rk, rdd, rwi, at0, at1, at2, at3, upd_at, List.getElem?_cons_zero, List.getElem?_cons_succ, Option.some.injEq, exists_eq_left', exists_eq_left, List.set_cons_zero, List.set_cons_succ, true_and, and_true, HO.lst.injEq, HO.tup.injEq, exists_and_left, exists_eq, exists_eq', Br.t, Br.f, Be.t, Be.f, List.cons.injEq, List.append_nil, scal, if_true, if_false, ite_true, ite_false, eq_self_iff_true, decide_true, decide_false, Bool.not_true, Bool.not_false, reduceIte, List.nil_append, List.cons_append, reduceCtorEq, false_and, exists_false, false_or, or_false, Int.reduceLT, rlu, rdp, Bool.true_or, Bool.false_or, Bool.or_false, Bool.or_true]
    exact fun d hd => e _ d s1 hd
theorem ok_set_rank (T : Tx K mg w) (c_ways : Cal P w K mg base 1 "ways" ["many", "size"] (sp_ways K)) (c_need_set : Cal P w K mg base 5 "need_set" ["many", "told"] (sp_need_set K))  : Cal P w K mg base 6 "set_rank" ["many", "told"] (sp_set_rank K) := by
  refine cal_mk T.F_set_rank T.g_set_rank sc_set_rank (len2 _) (fun _ _ _ _ _ _ us hl => match us, hl with | [_, _], _ => rfl) (fun cdv A outer s H vs Q E hr h => ?_)
  obtain ⟨v0, v1, rfl, h⟩ := h
  have hu := hu_of hr
  refine ⟨_, (pss_cons (ps_expr (pe_cal c_need_set hr (by decide) (passes_call (takes_of rfl rfl rfl rfl) fun _ _ _ _ h => h) rfl (pa_cons (pv 0) (pa_cons (pv 1) pa_nil))))
      (pss_cons (ps_set (i := 2) sc_set_rank.nd rfl (Or.inl rfl) pe_int)
      (pss_cons (ps_set (i := 3) sc_set_rank.nd rfl (Or.inl rfl) (pe_un un_neg pe_int))
      (pss_cons (ps_for (passes_of rfl) rfl (pi_enum (by rfl) T.n_enumerate (pa_cons (pv 1) pa_nil)) (pg_tup rfl (pgs_cons (pg_name (i := 4) sc_set_rank.nd rfl (Or.inl rfl)) (pgs_cons (pg_name (i := 5) sc_set_rank.nd rfl (Or.inl rfl)) pgs_nil))) (pss_cons (ps_for (passes_of rfl) rfl (pi_range2 (by rfl) T.n_range (pa_cons (pe_op op_add (pv 3) pe_int) (pa_cons (pv 5) pa_nil))) (pg_name (i := 6) sc_set_rank.nd rfl (Or.inl rfl)) (pss_one (ps_aug (i := 2) sc_set_rank.nd rfl (Or.inl rfl) (pe_cal c_ways hr (by decide) (passes_call (takes_of rfl rfl rfl rfl) fun _ _ _ _ h => h) rfl (pa_cons (pe_op op_sub (pe_op op_sub (pv 0) (pv 6)) pe_int) (pa_cons (pe_op op_sub (pe_op op_sub (pe_callB len_q (by rfl) T.n_len (by decide +kernel) (pa_cons (pv 1) pa_nil)) (pv 4)) pe_int) pa_nil))) ip_add)))
      (pss_one (ps_set (i := 3) sc_set_rank.nd rfl (Or.inl rfl) (pv 5)))))
      (pss_one (ps_ret (pv 2))))))), ?_⟩
  obtain ⟨o, hd, ho⟩ := h
  cases hd with
  | srank1 hm hw =>
    simp only [and_assoc, rst, rs, re, ra, rq, rx, ro, rl, rl2, rsp, rz, rix, rln, rg, rd, ri, rv, rk, rdd, rwi, at0, at1, at2, at3, upd_at, List.getElem?_cons_zero, List.getElem?_cons_succ, Option.some.injEq, exists_eq_left', exists_eq_left, List.set_cons_zero, List.set_cons_succ, true_and, and_true, HO.lst.injEq, HO.tup.injEq, exists_and_left, exists_eq, exists_eq', Br.t, Br.f, Be.t, Be.f, List.cons.injEq, List.append_nil, scal, if_true, if_false, ite_true, ite_false, eq_self_iff_true, decide_true, decide_false, Bool.not_true, Bool.not_false, reduceIte, List.nil_append, List.cons_append, reduceCtorEq, false_and, exists_false, false_or, or_false, Int.reduceLT, rlu, rdp, Bool.true_or, Bool.false_or, Bool.or_false, Bool.or_true]
    exact ⟨_, _, rfl, .inl ⟨hm, hw, ho⟩⟩
  | srank2 hn hb =>
    simp only [and_assoc, rst, rs, re, ra, rq, rx, ro, rl, rl2, rsp, rz, rix, rln, rg, rd, ri, rv, rk, rdd, rwi, at0, at1, at2, at3, upd_at, List.getElem?_cons_zero, List.getElem?_cons_succ, Option.some.injEq, exists_eq_left', exists_eq_left, List.set_cons_zero, List.set_cons_succ, true_and, and_true, HO.lst.injEq, HO.tup.injEq, exists_and_left, exists_eq, exists_eq', Br.t, Br.f, Be.t, Be.f, List.cons.injEq, List.append_nil, scal, if_true, if_false, ite_true, ite_false, eq_self_iff_true, decide_true, decide_false, Bool.not_true, Bool.not_false, reduceIte, List.nil_append, List.cons_append, reduceCtorEq, false_and, exists_false, false_or, or_false, Int.reduceLT, rlu, rdp, Bool.true_or, Bool.false_or, Bool.or_false, Bool.or_true]
    exact ⟨_, _, rfl, .inr ⟨_, rfl, hn, hb, ho⟩⟩
theorem ok_next_set (T : Tx K mg w) (c_need_set : Cal P w K mg base 5 "need_set" ["many", "told"] (sp_need_set K))  : Cal P w K mg base 6 "next_set" ["many", "told"] (sp_next_set K) := by
  refine cal_mk T.F_next_set T.g_next_set sc_next_set (len2 _) (fun _ _ _ _ _ _ us hl => match us, hl with | [_, _], _ => rfl) (fun cdv A outer s H vs Q E hr h => ?_)
  obtain ⟨v0, v1, rfl, h⟩ := h
  have hu := hu_of hr
  refine ⟨_, (pss_cons (ps_expr (pe_cal c_need_set hr (by decide) (passes_call (takes_of rfl rfl rfl rfl) fun _ _ _ _ h => h) rfl (pa_cons (pv 0) (pa_cons (pv 1) pa_nil))))
      (pss_cons (ps_set (i := 2) sc_next_set.nd rfl (Or.inl rfl) (pe_callB len_q (by rfl) T.n_len (by decide +kernel) (pa_cons (pv 1) pa_nil)))
      (pss_cons (ps_set (i := 3) sc_next_set.nd rfl (Or.inr rfl) (pe_op op_sub (pv 2) pe_int))
      (pss_cons (ps_while (passes_of rfl) (PW.pt (pw_and (pt_cmpR op_ge (pv 3) pe_int (nomark _)) (pw_and1 (pt_cmpR op_eq (pe_ix ix_q (pv 1) (pv 3) (fun _ _ => rfl)) (pe_op op_add (pe_op op_sub (pv 0) (pv 2)) (pv 3)) (nomark _))))) (pss_one (ps_aug (i := 3) sc_next_set.nd rfl (Or.inr rfl) pe_int ip_sub)))
      (pss_cons (ps_if (pt_cmpR op_lt (pv 3) pe_int (nomark _)) (pss_one (ps_ret pe_non)) pss_nil)
      (pss_one (ps_ret (pe_callTy tup_q (by rfl) T.n_tuple (by decide +kernel) (pa_cons (pe_op op_cat (pe_callTy lst_q (by rfl) T.n_list (by decide +kernel) (pa_cons (pe_slice sl_list (pv 1) po_none (po_some (pv 3))) pa_nil)) (pe_lc (own := [("k", 4)]) (g := (gName 4)) rfl sc_next_set.nd (pi_range1 (by rfl) T.n_range (pa_cons (pe_op op_sub (pv 2) (pv 3)) pa_nil)) (blkOk_by (N := nm_next_set) (sc := defScope s_next_set) (by decide +kernel)) (fun _ _ _ _ _ => (pg_name (i := 4) sc_next_set.nd rfl (Or.inl rfl))) (fun _ _ _ _ _ => pts_nil) (fun _ _ _ _ _ => (pe_op op_add (pe_op op_add (pe_ix ix_q (pv 1) (pv 3) (fun _ _ => rfl)) pe_int) (pv 4))))) pa_nil))))))))), ?_⟩
  obtain ⟨o, hd, ho⟩ := h
  cases hd with
  | snext1 hm hw =>
    simp only [and_assoc, rst, rs, re, ra, rq, rx, ro, rl, rl2, rsp, rz, rix, rln, rg, rd, ri, rv, rk, rdd, rwi, at0, at1, at2, at3, upd_at, List.getElem?_cons_zero, List.getElem?_cons_succ, Option.some.injEq, exists_eq_left', exists_eq_left, List.set_cons_zero, List.set_cons_succ, true_and, and_true, HO.lst.injEq, HO.tup.injEq, exists_and_left, exists_eq, exists_eq', Br.t, Br.f, Be.t, Be.f, List.cons.injEq, List.append_nil, scal, if_true, if_false, ite_true, ite_false, eq_self_iff_true, decide_true, decide_false, Bool.not_true, Bool.not_false, reduceIte, List.nil_append, List.cons_append, reduceCtorEq, false_and, exists_false, false_or, or_false, Int.reduceLT, rlu, rdp, Bool.true_or, Bool.false_or, Bool.or_false, Bool.or_true]
    exact ⟨_, _, rfl, .inl ⟨hm, hw, ho⟩⟩
  | snext2 hn hb =>
    simp only [and_assoc, rst, rs, re, ra, rq, rx, ro, rl, rl2, rsp, rz, rix, rln, rg, rd, ri, rv, rk, rdd, rwi, at0, at1, at2, at3, upd_at, List.getElem?_cons_zero, List.getElem?_cons_succ, Option.some.injEq, exists_eq_left', exists_eq_left, List.set_cons_zero, List.set_cons_succ, true_and, and_true, HO.lst.injEq, HO.tup.injEq, exists_and_left, exists_eq, exists_eq', Br.t, Br.f, Be.t, Be.f, List.cons.injEq, List.append_nil, scal, if_true, if_false, ite_true, ite_false, eq_self_iff_true, decide_true, decide_false, Bool.not_true, Bool.not_false, reduceIte, List.nil_append, List.cons_append, reduceCtorEq, false_and, exists_false, false_or, or_false, Int.reduceLT, rlu, rdp, Bool.true_or, Bool.false_or, Bool.or_false, Bool.or_true]
    exact ⟨_, _, rfl, .inr ⟨_, rfl, hn, hb, ho⟩⟩
end
end Law

-- RDX rsq, rlu, rdp, Bool.true_or, Bool.false_or, Bool.or_false, Bool.or_true
namespace Law
open PySem PySem.Spec PyProof.Rows L2 Sw
section
variable {P : Program} {w : World} {K : Fg} {mg : Str → Option Value} {base : Heap}
theorem seq_ints {H : Hp} {x : V} {xs ys : List V} (h : Sq H x xs) (k : Sq H x ys) : xs = ys := by
  obtain ⟨p, o, rfl, hp, hs⟩ := h
  obtain ⟨p', o', e, hp', hs'⟩ := k
  cases e
  rw [hp] at hp'
  cases hp'
  exact Option.some.inj (hs.symm.trans hs')
theorem cutV_ints {ns : List Int} {lo hi : Option Int} : cutV (ns.map V.int) lo hi = ((ns.drop (HT.sIx (ns.map V.int).length 0 lo)).take (HT.sIx (ns.map V.int).length (ns.map V.int).length hi - HT.sIx (ns.map V.int).length 0 lo)).map V.int := by
  unfold cutV
  rw [List.map_take, List.map_drop]
theorem within_ints {xs : List V} {hi : Int} (h : ∀ x ∈ xs, within x 0 hi = true) : xs = (xs.map numV).map V.int := by
  rw [List.map_map]
  refine (List.map_id _).symm.trans (List.map_congr_left fun x hx => ?_)
  have := h x hx
  cases x with
  | int z => rfl
  | _ => cases this
theorem sh_ints {xs : List V} (h : shL xs = true) : ∃ ns : List Int, xs = ns.map V.int ∧ 1 ≤ ns.length ∧ ns.length ≤ 60 ∧ (∀ n ∈ ns, 0 ≤ n ∧ n ≤ 1000000) ∧ ns.sum ≠ 0 := by
  simp only [shL, Bool.and_eq_true, decide_eq_true_eq] at h
  obtain ⟨h1, h2, h3⟩ := h
  have e : xs = (xs.map numV).map V.int := by
    rw [List.map_map]
    refine (List.map_id _).symm.trans (List.map_congr_left fun x hx => ?_)
    have := h2 x hx
    cases x with
    | int z => rfl
    | _ => cases this
  refine ⟨xs.map numV, e, by rw [List.length_map]; exact h1.1, by rw [List.length_map]; exact h1.2, fun n hn => ?_, h3⟩
  obtain ⟨x, hx, rfl⟩ := List.mem_map.mp hn
  have := h2 x hx
  cases x with
  | int z => exact of_decide_eq_true this
  | _ => cases this
theorem ok_need_shares (T : Tx K mg w) (c_is_within : Cal P w K mg base 2 "is_within" ["thing", "low", "high"] (sp_is_within K)) (c_NoShares : Exn P w K mg base "NoShares" "found") : Cal P w K mg base 4 "need_shares" ["thing"] (sp_need_shares K) := by
  refine cal_mk T.F_need_shares T.g_need_shares sc_need_shares (len1 _) (fun _ _ _ _ _ _ us hl => match us, hl with | [_], _ => rfl) (fun cdv A outer s H vs Q E hr h => ?_)
  obtain ⟨v0, rfl, h⟩ := h
  have hu := hu_of hr
  refine ⟨_, (pss_cons (ps_if (PW.pt (pw_or (pt_not (pt_val (pe_callB is_2 (by rfl) T.n_isinstance (by decide +kernel) (pa_cons (pv 0) (pa_cons (pe_tup (pa_cons (pe_bltn (v := .ty "list") (by rfl) T.n_list (by decide +kernel) rfl) (pa_cons (pe_bltn (v := .ty "tuple") (by rfl) T.n_tuple (by decide +kernel) rfl) pa_nil))) pa_nil))))) (pw_or1 (pt_not (pt_chain op_le op_le pe_int (pe_callB len_q (by rfl) T.n_len (by decide +kernel) (pa_cons (pv 0) pa_nil)) (pe_gint rfl T.k_MOST_SHARES)))))) (pss_one (ps_rs1 c_NoShares rfl (takes_of rfl rfl rfl rfl) hr (by decide) rfl (pa_cons (pv 0) pa_nil))) pss_nil)
      (pss_one (ps_if (PW.pt (pw_or (pt_not (pt_truth (pe_callB (cr_all rfl) (by rfl) T.n_all (by decide +kernel) (pa_cons (pe_lc (own := [("share", 1)]) (g := (gName 1)) rfl sc_need_shares.nd (pi_q (pv 0)) (blkOk_by (N := nm_need_shares) (sc := defScope s_need_shares) (by decide +kernel)) (fun _ _ _ _ _ => (pg_name (i := 1) sc_need_shares.nd rfl (Or.inl rfl))) (fun _ _ _ _ _ => pts_nil) (fun _ _ _ _ _ => (pe_cal c_is_within hr (by decide) passL rfl (pa_cons (pv 1) (pa_cons pe_int (pa_cons (pe_gint rfl T.k_MOST_SHARE) pa_nil)))))) pa_nil)) (by intro _; rfl))) (pw_or1 (pt_cmpR op_eq (pe_callB (sum_q rfl) (by rfl) T.n_sum (by decide +kernel) (pa_cons (pv 0) pa_nil)) pe_int (nomark _))))) (pss_one (ps_rs1 c_NoShares rfl (takes_of rfl rfl rfl rfl) hr (by decide) rfl (pa_cons (pv 0) pa_nil))) pss_nil))), ?_⟩
  obtain ⟨b, hb, q, e⟩ := h
  rcases hb with ⟨xs, ⟨p, o, rfl, hp, hs⟩, ht, rfl⟩ | ⟨hx, rfl⟩
  · have kb := kindB hp hs
    have tr : (!isT o || isT o) = true := by cases isT o <;> rfl
    simp only [and_assoc, rst, rs, re, ra, rq, rx, ro, rl, rl2, rsp, rz, rix, rln, rg, rd, ri, rv, rk, rdd, rwi, at0, at1, at2, at3, upd_at, List.getElem?_cons_zero, List.getElem?_cons_succ, Option.some.injEq, exists_eq_left', exists_eq_left, List.set_cons_zero, List.set_cons_succ, true_and, and_true, HO.lst.injEq, HO.tup.injEq, exists_and_left, exists_eq, exists_eq', Br.t, Br.f, Be.t, Be.f, List.cons.injEq, List.append_nil, scal, if_true, if_false, ite_true, ite_false, eq_self_iff_true, decide_true, decide_false, Bool.not_true, Bool.not_false, reduceIte, List.nil_append, List.cons_append, reduceCtorEq, false_and, exists_false, false_or, or_false, Int.reduceLT, rsq, rlu, rdp, Bool.true_or, Bool.false_or, Bool.or_false, Bool.or_true]
    intro a ha
    have sa : Same H (upd H a (.tup [.ty "list", .ty "tuple"])) := Same.new ha
    refine ⟨_, a, "list", "tuple", _, _, rfl, upd_same, isB_same sa kb.2.2.2.2.1, isB_same sa kb.2.2.2.2.2, ?_⟩
    rw [tr]
    generalize upd H a _ = H1 at sa
    simp only [and_assoc, rst, rs, re, ra, rq, rx, ro, rl, rl2, rsp, rz, rix, rln, rg, rd, ri, rv, rk, rdd, rwi, at0, at1, at2, at3, upd_at, List.getElem?_cons_zero, List.getElem?_cons_succ, Option.some.injEq, exists_eq_left', exists_eq_left, List.set_cons_zero, List.set_cons_succ, true_and, and_true, HO.lst.injEq, HO.tup.injEq, exists_and_left, exists_eq, exists_eq', Br.t, Br.f, Be.t, Be.f, List.cons.injEq, List.append_nil, scal, if_true, if_false, ite_true, ite_false, eq_self_iff_true, decide_true, decide_false, Bool.not_true, Bool.not_false, reduceIte, List.nil_append, List.cons_append, reduceCtorEq, false_and, exists_false, false_or, or_false, Int.reduceLT, rsq, rlu, rdp, Bool.true_or, Bool.false_or, Bool.or_false, Bool.or_true]
    refine ⟨o, sa _ _ hp, xs, hs, ?_⟩
    have no : ∀ b, shL xs = b → b = false → Ref K H "NoShares" (.ref p) E := fun b h1 h2 => e (h1.trans h2)
    refine Be.d (fun c1 => ?_) fun c1 => ?_
    · refine Br.n (fun c2 => ?_) fun c2 => ?_
      · simp only [and_assoc, rst, rs, re, ra, rq, rx, ro, rl, rl2, rsp, rz, rix, rln, rg, rd, ri, rv, rk, rdd, rwi, at0, at1, at2, at3, upd_at, List.getElem?_cons_zero, List.getElem?_cons_succ, Option.some.injEq, exists_eq_left', exists_eq_left, List.set_cons_zero, List.set_cons_succ, true_and, and_true, HO.lst.injEq, HO.tup.injEq, exists_and_left, exists_eq, exists_eq', Br.t, Br.f, Be.t, Be.f, List.cons.injEq, List.append_nil, scal, if_true, if_false, ite_true, ite_false, eq_self_iff_true, decide_true, decide_false, Bool.not_true, Bool.not_false, reduceIte, List.nil_append, List.cons_append, reduceCtorEq, false_and, exists_false, false_or, or_false, Int.reduceLT, rsq, rlu, rdp, Bool.true_or, Bool.false_or, Bool.or_false, Bool.or_true]
        refine fun d hd => no false ?_ rfl _ d sa hd
        rw [shL, show decide (1 ≤ xs.length ∧ xs.length ≤ 60) = false from decide_eq_false (by omega), Bool.false_and]
      · simp only [and_assoc, rst, rs, re, ra, rq, rx, ro, rl, rl2, rsp, rz, rix, rln, rg, rd, ri, rv, rk, rdd, rwi, at0, at1, at2, at3, upd_at, List.getElem?_cons_zero, List.getElem?_cons_succ, Option.some.injEq, exists_eq_left', exists_eq_left, List.set_cons_zero, List.set_cons_succ, true_and, and_true, HO.lst.injEq, HO.tup.injEq, exists_and_left, exists_eq, exists_eq', Br.t, Br.f, Be.t, Be.f, List.cons.injEq, List.append_nil, scal, if_true, if_false, ite_true, ite_false, eq_self_iff_true, decide_true, decide_false, Bool.not_true, Bool.not_false, reduceIte, List.nil_append, List.cons_append, reduceCtorEq, false_and, exists_false, false_or, or_false, Int.reduceLT, rsq, rlu, rdp, Bool.true_or, Bool.false_or, Bool.or_false, Bool.or_true]
        refine ⟨o, sa _ _ hp, xs, hs, LC.seq hs (fun D i H' => Same H1 H' ∧ H' D = some (.lst ((xs.take i).map fun x => V.bl (within x 0 1000000)))) (fun D hD => ⟨Same.new hD, upd_same⟩) (fun D i H' _ _ h => h.1 _ _ (sa _ _ hp)) ?_ ?_⟩
        · rintro D i x H' hD hx ⟨s, h1⟩
          simp only [and_assoc, rst, rs, re, ra, rq, rx, ro, rl, rl2, rsp, rz, rix, rln, rg, rd, ri, rv, rk, rdd, rwi, at0, at1, at2, at3, upd_at, List.getElem?_cons_zero, List.getElem?_cons_succ, Option.some.injEq, exists_eq_left', exists_eq_left, List.set_cons_zero, List.set_cons_succ, true_and, and_true, HO.lst.injEq, HO.tup.injEq, exists_and_left, exists_eq, exists_eq', Br.t, Br.f, Be.t, Be.f, List.cons.injEq, List.append_nil, scal, if_true, if_false, ite_true, ite_false, eq_self_iff_true, decide_true, decide_false, Bool.not_true, Bool.not_false, reduceIte, List.nil_append, List.cons_append, reduceCtorEq, false_and, exists_false, false_or, or_false, Int.reduceLT, rsq, rlu, rdp, Bool.true_or, Bool.false_or, Bool.or_false, Bool.or_true]
          refine ⟨_, _, _, rfl, _, _, rfl, rfl, (ht x (List.mem_of_getElem? hx)).same (Same.trans sa s), ?_⟩
          have hl : ((xs.take i).map fun x => V.bl (within x 0 1000000)).length ≤ 60 := by rw [List.length_map, List.length_take]; omega
          refine ⟨_, h1, by rw [sizeLine_eq]; omega, Same.mut s hD, ?_⟩
          rw [take_snoc hx, List.map_append]
          rfl
        · rintro D H' hD ⟨s, h1⟩
          rw [List.take_length] at h1
          have h2 : H' D = some (.lst ((xs.map fun x => within x 0 1000000).map V.bl)) := by rw [h1, List.map_map]; rfl
          refine ⟨D, rfl, _, SqL.of h2, _, rfl, Be.of (fun c => ?_) fun c => ?_⟩
          · refine fun d hd => no false ?_ rfl _ d (Same.trans sa s) hd
            have c3 : ¬ ∀ x ∈ xs, within x 0 1000000 = true := fun z => by
              have : (xs.map fun x => within x 0 1000000).all id = true := by
                rw [List.all_map, List.all_eq_true]
                exact z
              rw [this] at c
              cases c
            rw [shL, show decide (∀ x ∈ xs, within x 0 1000000 = true) = false from decide_eq_false c3, Bool.false_and, Bool.and_false]
          · have c3 : ∀ x ∈ xs, within x 0 1000000 = true := by
              have c : (xs.map fun x => within x 0 1000000).all id = true := by simpa using c
              rw [List.all_map, List.all_eq_true] at c
              exact c
            obtain ⟨ns, rfl, ens⟩ : ∃ ns : List Int, xs = ns.map V.int ∧ (xs.map numV) = ns := ⟨xs.map numV, within_ints c3, rfl⟩
            refine ⟨o, s _ _ (sa _ _ hp), ns, hs, Br.d (fun c4 => ?_) fun c4 => ?_⟩
            · simp only [and_assoc, rst, rs, re, ra, rq, rx, ro, rl, rl2, rsp, rz, rix, rln, rg, rd, ri, rv, rk, rdd, rwi, at0, at1, at2, at3, upd_at, List.getElem?_cons_zero, List.getElem?_cons_succ, Option.some.injEq, exists_eq_left', exists_eq_left, List.set_cons_zero, List.set_cons_succ, true_and, and_true, HO.lst.injEq, HO.tup.injEq, exists_and_left, exists_eq, exists_eq', Br.t, Br.f, Be.t, Be.f, List.cons.injEq, List.append_nil, scal, if_true, if_false, ite_true, ite_false, eq_self_iff_true, decide_true, decide_false, Bool.not_true, Bool.not_false, reduceIte, List.nil_append, List.cons_append, reduceCtorEq, false_and, exists_false, false_or, or_false, Int.reduceLT, rsq, rlu, rdp, Bool.true_or, Bool.false_or, Bool.or_false, Bool.or_true]
              refine fun d hd => no false ?_ rfl _ d (Same.trans sa s) hd
              rw [shL, ens, show decide (ns.sum ≠ 0) = false from decide_eq_false fun z => z c4, Bool.and_false, Bool.and_false]
            · simp only [and_assoc, rst, rs, re, ra, rq, rx, ro, rl, rl2, rsp, rz, rix, rln, rg, rd, ri, rv, rk, rdd, rwi, at0, at1, at2, at3, upd_at, List.getElem?_cons_zero, List.getElem?_cons_succ, Option.some.injEq, exists_eq_left', exists_eq_left, List.set_cons_zero, List.set_cons_succ, true_and, and_true, HO.lst.injEq, HO.tup.injEq, exists_and_left, exists_eq, exists_eq', Br.t, Br.f, Be.t, Be.f, List.cons.injEq, List.append_nil, scal, if_true, if_false, ite_true, ite_false, eq_self_iff_true, decide_true, decide_false, Bool.not_true, Bool.not_false, reduceIte, List.nil_append, List.cons_append, reduceCtorEq, false_and, exists_false, false_or, or_false, Int.reduceLT, rsq, rlu, rdp, Bool.true_or, Bool.false_or, Bool.or_false, Bool.or_true]
              refine q ?_ _ (Same.trans sa s)
              rw [shL, ens, show decide (ns.sum ≠ 0) = true from decide_eq_true c4, decide_eq_true c3, Bool.and_true, Bool.and_true]
              exact decide_eq_true (by omega)
    · refine fun d hd => no false ?_ rfl _ d sa hd
      rw [shL, show decide (1 ≤ xs.length ∧ xs.length ≤ 60) = false from decide_eq_false (by omega), Bool.false_and]
  · simp only [and_assoc, rst, rs, re, ra, rq, rx, ro, rl, rl2, rsp, rz, rix, rln, rg, rd, ri, rv, rk, rdd, rwi, at0, at1, at2, at3, upd_at, List.getElem?_cons_zero, List.getElem?_cons_succ, Option.some.injEq, exists_eq_left', exists_eq_left, List.set_cons_zero, List.set_cons_succ, true_and, and_true, HO.lst.injEq, HO.tup.injEq, exists_and_left, exists_eq, exists_eq', Br.t, Br.f, Be.t, Be.f, List.cons.injEq, List.append_nil, scal, if_true, if_false, ite_true, ite_false, eq_self_iff_true, decide_true, decide_false, Bool.not_true, Bool.not_false, reduceIte, List.nil_append, List.cons_append, reduceCtorEq, false_and, exists_false, false_or, or_false, Int.reduceLT, rsq, rlu, rdp, Bool.true_or, Bool.false_or, Bool.or_false, Bool.or_true]
    intro a ha
    have sa : Same H (upd H a (.tup [.ty "list", .ty "tuple"])) := Same.new ha
    refine ⟨_, a, "list", "tuple", false, false, rfl, upd_same, isB_same sa hx.1, isB_same sa hx.2, ?_⟩
    simp only [and_assoc, rst, rs, re, ra, rq, rx, ro, rl, rl2, rsp, rz, rix, rln, rg, rd, ri, rv, rk, rdd, rwi, at0, at1, at2, at3, upd_at, List.getElem?_cons_zero, List.getElem?_cons_succ, Option.some.injEq, exists_eq_left', exists_eq_left, List.set_cons_zero, List.set_cons_succ, true_and, and_true, HO.lst.injEq, HO.tup.injEq, exists_and_left, exists_eq, exists_eq', Br.t, Br.f, Be.t, Be.f, List.cons.injEq, List.append_nil, scal, if_true, if_false, ite_true, ite_false, eq_self_iff_true, decide_true, decide_false, Bool.not_true, Bool.not_false, reduceIte, List.nil_append, List.cons_append, reduceCtorEq, false_and, exists_false, false_or, or_false, Int.reduceLT, rsq, rlu, rdp, Bool.true_or, Bool.false_or, Bool.or_false, Bool.or_true]
    exact fun d hd => e rfl _ d sa hd
theorem ok_shares_many (T : Tx K mg w) (c_need_shares : Cal P w K mg base 4 "need_shares" ["thing"] (sp_need_shares K))  : Cal P w K mg base 5 "shares_many" ["shares"] (sp_shares_many K) := by
  refine cal_mk T.F_shares_many T.g_shares_many sc_shares_many (len1 _) (fun _ _ _ _ _ _ us hl => match us, hl with | [_], _ => rfl) (fun cdv A outer s H vs Q E hr h => ?_)
  obtain ⟨v0, rfl, h⟩ := h
  have hu := hu_of hr
  refine ⟨_, (pss_cons (ps_expr (pe_cal c_need_shares hr (by decide) (passes_call (takes_of rfl rfl rfl rfl) fun _ _ _ _ h => h) rfl (pa_cons (pv 0) pa_nil)))
      (pss_one (ps_ret (pe_callB (sum_q rfl) (by rfl) T.n_sum (by decide +kernel) (pa_cons (pv 0) pa_nil))))), ?_⟩
  rcases h with ⟨o, hd, ho⟩ | ⟨ns, hb, hx, q⟩
  · cases hd with
    | shares hb =>
    simp only [and_assoc, rst, rs, re, ra, rq, rx, ro, rl, rl2, rsp, rz, rix, rln, rg, rd, ri, rv, rk, rdd, rwi, at0, at1, at2, at3, upd_at, List.getElem?_cons_zero, List.getElem?_cons_succ, Option.some.injEq, exists_eq_left', exists_eq_left, List.set_cons_zero, List.set_cons_succ, true_and, and_true, HO.lst.injEq, HO.tup.injEq, exists_and_left, exists_eq, exists_eq', Br.t, Br.f, Be.t, Be.f, List.cons.injEq, List.append_nil, scal, if_true, if_false, ite_true, ite_false, eq_self_iff_true, decide_true, decide_false, Bool.not_true, Bool.not_false, reduceIte, List.nil_append, List.cons_append, reduceCtorEq, false_and, exists_false, false_or, or_false, Int.reduceLT, rsq, rlu, rdp, Bool.true_or, Bool.false_or, Bool.or_false, Bool.or_true]
    exact ⟨_, rfl, _, hb, nofun, fun _ => ho⟩
  · simp only [and_assoc, rst, rs, re, ra, rq, rx, ro, rl, rl2, rsp, rz, rix, rln, rg, rd, ri, rv, rk, rdd, rwi, at0, at1, at2, at3, upd_at, List.getElem?_cons_zero, List.getElem?_cons_succ, Option.some.injEq, exists_eq_left', exists_eq_left, List.set_cons_zero, List.set_cons_succ, true_and, and_true, HO.lst.injEq, HO.tup.injEq, exists_and_left, exists_eq, exists_eq', Br.t, Br.f, Be.t, Be.f, List.cons.injEq, List.append_nil, scal, if_true, if_false, ite_true, ite_false, eq_self_iff_true, decide_true, decide_false, Bool.not_true, Bool.not_false, reduceIte, List.nil_append, List.cons_append, reduceCtorEq, false_and, exists_false, false_or, or_false, Int.reduceLT, rsq, rlu, rdp, Bool.true_or, Bool.false_or, Bool.or_false, Bool.or_true]
    refine ⟨_, rfl, _, hb, fun _ H1 s1 => ?_, nofun⟩
    obtain ⟨p, o, rfl, hp, hs⟩ := hx
    simp only [and_assoc, rst, rs, re, ra, rq, rx, ro, rl, rl2, rsp, rz, rix, rln, rg, rd, ri, rv, rk, rdd, rwi, at0, at1, at2, at3, upd_at, List.getElem?_cons_zero, List.getElem?_cons_succ, Option.some.injEq, exists_eq_left', exists_eq_left, List.set_cons_zero, List.set_cons_succ, true_and, and_true, HO.lst.injEq, HO.tup.injEq, exists_and_left, exists_eq, exists_eq', Br.t, Br.f, Be.t, Be.f, List.cons.injEq, List.append_nil, scal, if_true, if_false, ite_true, ite_false, eq_self_iff_true, decide_true, decide_false, Bool.not_true, Bool.not_false, reduceIte, List.nil_append, List.cons_append, reduceCtorEq, false_and, exists_false, false_or, or_false, Int.reduceLT, rsq, rlu, rdp, Bool.true_or, Bool.false_or, Bool.or_false, Bool.or_true]
    exact ⟨o, s1 _ _ hp, _, hs, q _ s1⟩
theorem ok_parted_at (T : Tx K mg w) (c_is_within : Cal P w K mg base 2 "is_within" ["thing", "low", "high"] (sp_is_within K)) (c_shares_many : Cal P w K mg base 5 "shares_many" ["shares"] (sp_shares_many K)) (c_NoNumber : Exn P w K mg base "NoNumber" "found") : Cal P w K mg base 6 "parted_at" ["shares", "number"] (sp_parted_at K) := by
  refine cal_mk T.F_parted_at T.g_parted_at sc_parted_at (len2 _) (fun _ _ _ _ _ _ us hl => match us, hl with | [_, _], _ => rfl) (fun cdv A outer s H vs Q E hr h => ?_)
  obtain ⟨v0, v1, rfl, h⟩ := h
  have hu := hu_of hr
  refine ⟨_, (pss_cons (ps_if (pt_not (pt_val (pe_cal c_is_within hr (by decide) (passes_call (takes_of rfl rfl rfl rfl) fun _ _ _ _ h => h) rfl (pa_cons (pv 1) (pa_cons pe_int (pa_cons (pe_op op_sub (pe_cal c_shares_many hr (by decide) (passes_call (takes_of rfl rfl rfl rfl) fun _ _ _ _ h => h) rfl (pa_cons (pv 0) pa_nil)) pe_int) pa_nil)))))) (pss_one (ps_rs1 c_NoNumber rfl (takes_of rfl rfl rfl rfl) hr (by decide) rfl (pa_cons (pv 1) pa_nil))) pss_nil)
      (pss_cons (ps_set (i := 2) sc_parted_at.nd rfl (Or.inl rfl) pe_int)
      (pss_cons (ps_while (passes_of rfl) (pt_cmpR op_ge (pv 1) (pe_ix ix_q (pv 0) (pv 2) (fun _ _ => rfl)) (nomark _)) (pss_cons (ps_aug (i := 1) sc_parted_at.nd rfl (Or.inl rfl) (pe_ix ix_q (pv 0) (pv 2) (fun _ _ => rfl)) ip_sub)
      (pss_one (ps_aug (i := 2) sc_parted_at.nd rfl (Or.inl rfl) pe_int ip_add))))
      (pss_one (ps_ret (pe_tup (pa_cons (pv 2) (pa_cons (pv 1) pa_nil)))))))), ?_⟩
  rcases h with ⟨c, v, hd, ho⟩ | ⟨hd, q⟩
  · cases hd with
    | share1 hb =>
      simp only [and_assoc, rst, rs, re, ra, rq, rx, ro, rl, rl2, rsp, rz, rix, rln, rg, rd, ri, rv, rk, rdd, rwi, at0, at1, at2, at3, upd_at, List.getElem?_cons_zero, List.getElem?_cons_succ, Option.some.injEq, exists_eq_left', exists_eq_left, List.set_cons_zero, List.set_cons_succ, true_and, and_true, HO.lst.injEq, HO.tup.injEq, exists_and_left, exists_eq, exists_eq', Br.t, Br.f, Be.t, Be.f, List.cons.injEq, List.append_nil, scal, if_true, if_false, ite_true, ite_false, eq_self_iff_true, decide_true, decide_false, Bool.not_true, Bool.not_false, reduceIte, List.nil_append, List.cons_append, reduceCtorEq, false_and, exists_false, false_or, or_false, Int.reduceLT, rsq, rlu, rdp, Bool.true_or, Bool.false_or, Bool.or_false, Bool.or_true]
      exact ⟨_, rfl, .inl ⟨_, .shares hb, ho⟩⟩
    | share2 hb hx hy hw =>
      simp only [and_assoc, rst, rs, re, ra, rq, rx, ro, rl, rl2, rsp, rz, rix, rln, rg, rd, ri, rv, rk, rdd, rwi, at0, at1, at2, at3, upd_at, List.getElem?_cons_zero, List.getElem?_cons_succ, Option.some.injEq, exists_eq_left', exists_eq_left, List.set_cons_zero, List.set_cons_succ, true_and, and_true, HO.lst.injEq, HO.tup.injEq, exists_and_left, exists_eq, exists_eq', Br.t, Br.f, Be.t, Be.f, List.cons.injEq, List.append_nil, scal, if_true, if_false, ite_true, ite_false, eq_self_iff_true, decide_true, decide_false, Bool.not_true, Bool.not_false, reduceIte, List.nil_append, List.cons_append, reduceCtorEq, false_and, exists_false, false_or, or_false, Int.reduceLT, rsq, rlu, rdp, Bool.true_or, Bool.false_or, Bool.or_false, Bool.or_true]
      refine ⟨_, rfl, .inr ⟨_, hb, hx, fun H1 s1 => ?_⟩⟩
      simp only [and_assoc, rst, rs, re, ra, rq, rx, ro, rl, rl2, rsp, rz, rix, rln, rg, rd, ri, rv, rk, rdd, rwi, at0, at1, at2, at3, upd_at, List.getElem?_cons_zero, List.getElem?_cons_succ, Option.some.injEq, exists_eq_left', exists_eq_left, List.set_cons_zero, List.set_cons_succ, true_and, and_true, HO.lst.injEq, HO.tup.injEq, exists_and_left, exists_eq, exists_eq', Br.t, Br.f, Be.t, Be.f, List.cons.injEq, List.append_nil, scal, if_true, if_false, ite_true, ite_false, eq_self_iff_true, decide_true, decide_false, Bool.not_true, Bool.not_false, reduceIte, List.nil_append, List.cons_append, reduceCtorEq, false_and, exists_false, false_or, or_false, Int.reduceLT, rsq, rlu, rdp, Bool.true_or, Bool.false_or, Bool.or_false, Bool.or_true]
      refine ⟨_, _, _, rfl, _, _, rfl, rfl, hy.same s1, ?_⟩
      simp only [and_assoc, rst, rs, re, ra, rq, rx, ro, rl, rl2, rsp, rz, rix, rln, rg, rd, ri, rv, rk, rdd, rwi, at0, at1, at2, at3, upd_at, List.getElem?_cons_zero, List.getElem?_cons_succ, Option.some.injEq, exists_eq_left', exists_eq_left, List.set_cons_zero, List.set_cons_succ, true_and, and_true, HO.lst.injEq, HO.tup.injEq, exists_and_left, exists_eq, exists_eq', Br.t, Br.f, Be.t, Be.f, List.cons.injEq, List.append_nil, scal, if_true, if_false, ite_true, ite_false, eq_self_iff_true, decide_true, decide_false, Bool.not_true, Bool.not_false, reduceIte, List.nil_append, List.cons_append, reduceCtorEq, false_and, exists_false, false_or, or_false, Int.reduceLT, rsq, rlu, rdp, Bool.true_or, Bool.false_or, Bool.or_false, Bool.or_true, hw]
      exact fun d hd => ho _ d s1 hd
  · generalize e : (none : Option (Str × V)) = o at hd
    cases hd with
    | @share3 x z ns r hb hx z0 z1 =>
      simp only [and_assoc, rst, rs, re, ra, rq, rx, ro, rl, rl2, rsp, rz, rix, rln, rg, rd, ri, rv, rk, rdd, rwi, at0, at1, at2, at3, upd_at, List.getElem?_cons_zero, List.getElem?_cons_succ, Option.some.injEq, exists_eq_left', exists_eq_left, List.set_cons_zero, List.set_cons_succ, true_and, and_true, HO.lst.injEq, HO.tup.injEq, exists_and_left, exists_eq, exists_eq', Br.t, Br.f, Be.t, Be.f, List.cons.injEq, List.append_nil, scal, if_true, if_false, ite_true, ite_false, eq_self_iff_true, decide_true, decide_false, Bool.not_true, Bool.not_false, reduceIte, List.nil_append, List.cons_append, reduceCtorEq, false_and, exists_false, false_or, or_false, Int.reduceLT, rsq, rlu, rdp, Bool.true_or, Bool.false_or, Bool.or_false, Bool.or_true]
      refine ⟨_, rfl, .inr ⟨_, hb, hx, fun H1 s1 => ?_⟩⟩
      simp only [and_assoc, rst, rs, re, ra, rq, rx, ro, rl, rl2, rsp, rz, rix, rln, rg, rd, ri, rv, rk, rdd, rwi, at0, at1, at2, at3, upd_at, List.getElem?_cons_zero, List.getElem?_cons_succ, Option.some.injEq, exists_eq_left', exists_eq_left, List.set_cons_zero, List.set_cons_succ, true_and, and_true, HO.lst.injEq, HO.tup.injEq, exists_and_left, exists_eq, exists_eq', Br.t, Br.f, Be.t, Be.f, List.cons.injEq, List.append_nil, scal, if_true, if_false, ite_true, ite_false, eq_self_iff_true, decide_true, decide_false, Bool.not_true, Bool.not_false, reduceIte, List.nil_append, List.cons_append, reduceCtorEq, false_and, exists_false, false_or, or_false, Int.reduceLT, rsq, rlu, rdp, Bool.true_or, Bool.false_or, Bool.or_false, Bool.or_true]
      refine ⟨_, _, _, rfl, _, _, rfl, rfl, ⟨"int", rfl⟩, ?_⟩
      have hw : within (.int z) 0 (ns.sum - 1) = true := decide_eq_true ⟨z0, by omega⟩
      obtain ⟨p, o, rfl, hp, hs⟩ := hx
      simp only [and_assoc, rst, rs, re, ra, rq, rx, ro, rl, rl2, rsp, rz, rix, rln, rg, rd, ri, rv, rk, rdd, rwi, at0, at1, at2, at3, upd_at, List.getElem?_cons_zero, List.getElem?_cons_succ, Option.some.injEq, exists_eq_left', exists_eq_left, List.set_cons_zero, List.set_cons_succ, true_and, and_true, HO.lst.injEq, HO.tup.injEq, exists_and_left, exists_eq, exists_eq', Br.t, Br.f, Be.t, Be.f, List.cons.injEq, List.append_nil, scal, if_true, if_false, ite_true, ite_false, eq_self_iff_true, decide_true, decide_false, Bool.not_true, Bool.not_false, reduceIte, List.nil_append, List.cons_append, reduceCtorEq, false_and, exists_false, false_or, or_false, Int.reduceLT, rsq, rlu, rdp, Bool.true_or, Bool.false_or, Bool.or_false, Bool.or_true, hw]
      obtain ⟨xs', hx', _⟩ : ∃ xs, Sq H (.ref p) xs ∧ shL xs = true := by
        rcases hb with ⟨xs, h1, h2, h3⟩ | ⟨_, h3⟩
        · exact ⟨xs, h1, h3.symm⟩
        · cases h3
      refine wh (fun m σ H' => ∃ (i : Nat) (z : Int), Same H H' ∧ i + m = ns.length ∧ 0 ≤ z ∧ z < (ns.drop i).sum ∧ σ = [some (.ref p), some (.int z), some (.int (i : Int))]) ns.length ⟨0, z, s1, by omega, z0, z1, rfl⟩ ?_
      rintro m σ H' ⟨i, z, s, hm, z0, z1, rfl⟩
      have hi : i < ns.length := by
        rcases Nat.lt_or_ge i ns.length with c | c
        · exact c
        · rw [List.drop_eq_nil_of_le c] at z1
          simp at z1
          omega
      simp only [and_assoc, rst, rs, re, ra, rq, rx, ro, rl, rl2, rsp, rz, rix, rln, rg, rd, ri, rv, rk, rdd, rwi, at0, at1, at2, at3, upd_at, List.getElem?_cons_zero, List.getElem?_cons_succ, Option.some.injEq, exists_eq_left', exists_eq_left, List.set_cons_zero, List.set_cons_succ, true_and, and_true, HO.lst.injEq, HO.tup.injEq, exists_and_left, exists_eq, exists_eq', Br.t, Br.f, Be.t, Be.f, List.cons.injEq, List.append_nil, scal, if_true, if_false, ite_true, ite_false, eq_self_iff_true, decide_true, decide_false, Bool.not_true, Bool.not_false, reduceIte, List.nil_append, List.cons_append, reduceCtorEq, false_and, exists_false, false_or, or_false, Int.reduceLT, rsq, rlu, rdp, Bool.true_or, Bool.false_or, Bool.or_false, Bool.or_true]
      refine ⟨o, s _ _ hp, _, hs, _, atI_nat (by rw [List.getElem?_map, List.getElem?_eq_getElem hi]; rfl), _, rfl, Br.d (fun c => ?_) fun c => ?_⟩
      · refine Nx.go ?_
        simp only [and_assoc, rst, rs, re, ra, rq, rx, ro, rl, rl2, rsp, rz, rix, rln, rg, rd, ri, rv, rk, rdd, rwi, at0, at1, at2, at3, upd_at, List.getElem?_cons_zero, List.getElem?_cons_succ, Option.some.injEq, exists_eq_left', exists_eq_left, List.set_cons_zero, List.set_cons_succ, true_and, and_true, HO.lst.injEq, HO.tup.injEq, exists_and_left, exists_eq, exists_eq', Br.t, Br.f, Be.t, Be.f, List.cons.injEq, List.append_nil, scal, if_true, if_false, ite_true, ite_false, eq_self_iff_true, decide_true, decide_false, Bool.not_true, Bool.not_false, reduceIte, List.nil_append, List.cons_append, reduceCtorEq, false_and, exists_false, false_or, or_false, Int.reduceLT, rsq, rlu, rdp, Bool.true_or, Bool.false_or, Bool.or_false, Bool.or_true]
        refine ⟨o, s _ _ hp, _, hs, _, atI_nat (by rw [List.getElem?_map, List.getElem?_eq_getElem hi]; rfl), ?_⟩
        simp only [and_assoc, rst, rs, re, ra, rq, rx, ro, rl, rl2, rsp, rz, rix, rln, rg, rd, ri, rv, rk, rdd, rwi, at0, at1, at2, at3, upd_at, List.getElem?_cons_zero, List.getElem?_cons_succ, Option.some.injEq, exists_eq_left', exists_eq_left, List.set_cons_zero, List.set_cons_succ, true_and, and_true, HO.lst.injEq, HO.tup.injEq, exists_and_left, exists_eq, exists_eq', Br.t, Br.f, Be.t, Be.f, List.cons.injEq, List.append_nil, scal, if_true, if_false, ite_true, ite_false, eq_self_iff_true, decide_true, decide_false, Bool.not_true, Bool.not_false, reduceIte, List.nil_append, List.cons_append, reduceCtorEq, false_and, exists_false, false_or, or_false, Int.reduceLT, rsq, rlu, rdp, Bool.true_or, Bool.false_or, Bool.or_false, Bool.or_true]
        rw [List.drop_eq_getElem_cons hi, List.sum_cons] at z1
        exact ⟨m - 1, by omega, s, i + 1, by omega, _, by omega, by omega, rfl, by omega⟩
      · simp only [and_assoc, rst, rs, re, ra, rq, rx, ro, rl, rl2, rsp, rz, rix, rln, rg, rd, ri, rv, rk, rdd, rwi, at0, at1, at2, at3, upd_at, List.getElem?_cons_zero, List.getElem?_cons_succ, Option.some.injEq, exists_eq_left', exists_eq_left, List.set_cons_zero, List.set_cons_succ, true_and, and_true, HO.lst.injEq, HO.tup.injEq, exists_and_left, exists_eq, exists_eq', Br.t, Br.f, Be.t, Be.f, List.cons.injEq, List.append_nil, scal, if_true, if_false, ite_true, ite_false, eq_self_iff_true, decide_true, decide_false, Bool.not_true, Bool.not_false, reduceIte, List.nil_append, List.cons_append, reduceCtorEq, false_and, exists_false, false_or, or_false, Int.reduceLT, rsq, rlu, rdp, Bool.true_or, Bool.false_or, Bool.or_false, Bool.or_true]
        exact fun q1 hq1 => q _ _ _ _ (Same.trans s (Same.new hq1)) upd_same
    | _ => cases e
theorem ok_share_at (T : Tx K mg w) (c_parted_at : Cal P w K mg base 6 "parted_at" ["shares", "number"] (sp_parted_at K))  : Cal P w K mg base 7 "share_at" ["shares", "number"] (sp_share_at K) := by
  refine cal_mk T.F_share_at T.g_share_at sc_share_at (len2 _) (fun _ _ _ _ _ _ us hl => match us, hl with | [_, _], _ => rfl) (fun cdv A outer s H vs Q E hr h => ?_)
  obtain ⟨v0, v1, rfl, h⟩ := h
  have hu := hu_of hr
  refine ⟨_, (pss_one (ps_ret (pe_ix ix_q (pe_cal c_parted_at hr (by decide) (passes_call (takes_of rfl rfl rfl rfl) fun _ _ _ _ h => h) rfl (pa_cons (pv 0) (pa_cons (pv 1) pa_nil))) pe_int (fun _ _ => rfl)))), ?_⟩
  obtain ⟨o, hd, ho⟩ := h
  simp only [and_assoc, rst, rs, re, ra, rq, rx, ro, rl, rl2, rsp, rz, rix, rln, rg, rd, ri, rv, rk, rdd, rwi, at0, at1, at2, at3, upd_at, List.getElem?_cons_zero, List.getElem?_cons_succ, Option.some.injEq, exists_eq_left', exists_eq_left, List.set_cons_zero, List.set_cons_succ, true_and, and_true, HO.lst.injEq, HO.tup.injEq, exists_and_left, exists_eq, exists_eq', Br.t, Br.f, Be.t, Be.f, List.cons.injEq, List.append_nil, scal, if_true, if_false, ite_true, ite_false, eq_self_iff_true, decide_true, decide_false, Bool.not_true, Bool.not_false, reduceIte, List.nil_append, List.cons_append, reduceCtorEq, false_and, exists_false, false_or, or_false, Int.reduceLT, rsq, rlu, rdp, Bool.true_or, Bool.false_or, Bool.or_false, Bool.or_true]
  refine ⟨_, _, rfl, ?_⟩
  cases o with
  | some cv => exact .inl ⟨cv.1, cv.2, hd, ho⟩
  | none =>
    refine .inr ⟨hd, fun a b p H1 s1 h1 => ?_⟩
    simp only [and_assoc, rst, rs, re, ra, rq, rx, ro, rl, rl2, rsp, rz, rix, rln, rg, rd, ri, rv, rk, rdd, rwi, at0, at1, at2, at3, upd_at, List.getElem?_cons_zero, List.getElem?_cons_succ, Option.some.injEq, exists_eq_left', exists_eq_left, List.set_cons_zero, List.set_cons_succ, true_and, and_true, HO.lst.injEq, HO.tup.injEq, exists_and_left, exists_eq, exists_eq', Br.t, Br.f, Be.t, Be.f, List.cons.injEq, List.append_nil, scal, if_true, if_false, ite_true, ite_false, eq_self_iff_true, decide_true, decide_false, Bool.not_true, Bool.not_false, reduceIte, List.nil_append, List.cons_append, reduceCtorEq, false_and, exists_false, false_or, or_false, Int.reduceLT, rsq, rlu, rdp, Bool.true_or, Bool.false_or, Bool.or_false, Bool.or_true, h1]
    exact ho _ _ s1
theorem ok_rest_in (T : Tx K mg w) (c_parted_at : Cal P w K mg base 6 "parted_at" ["shares", "number"] (sp_parted_at K))  : Cal P w K mg base 7 "rest_in" ["shares", "number"] (sp_rest_in K) := by
  refine cal_mk T.F_rest_in T.g_rest_in sc_rest_in (len2 _) (fun _ _ _ _ _ _ us hl => match us, hl with | [_, _], _ => rfl) (fun cdv A outer s H vs Q E hr h => ?_)
  obtain ⟨v0, v1, rfl, h⟩ := h
  have hu := hu_of hr
  refine ⟨_, (pss_one (ps_ret (pe_ix ix_q (pe_cal c_parted_at hr (by decide) (passes_call (takes_of rfl rfl rfl rfl) fun _ _ _ _ h => h) rfl (pa_cons (pv 0) (pa_cons (pv 1) pa_nil))) pe_int (fun _ _ => rfl)))), ?_⟩
  obtain ⟨o, hd, ho⟩ := h
  cases hd with
  | rest1 hb =>
    simp only [and_assoc, rst, rs, re, ra, rq, rx, ro, rl, rl2, rsp, rz, rix, rln, rg, rd, ri, rv, rk, rdd, rwi, at0, at1, at2, at3, upd_at, List.getElem?_cons_zero, List.getElem?_cons_succ, Option.some.injEq, exists_eq_left', exists_eq_left, List.set_cons_zero, List.set_cons_succ, true_and, and_true, HO.lst.injEq, HO.tup.injEq, exists_and_left, exists_eq, exists_eq', Br.t, Br.f, Be.t, Be.f, List.cons.injEq, List.append_nil, scal, if_true, if_false, ite_true, ite_false, eq_self_iff_true, decide_true, decide_false, Bool.not_true, Bool.not_false, reduceIte, List.nil_append, List.cons_append, reduceCtorEq, false_and, exists_false, false_or, or_false, Int.reduceLT, rsq, rlu, rdp, Bool.true_or, Bool.false_or, Bool.or_false, Bool.or_true]
    exact ⟨_, _, rfl, .inl ⟨_, _, .share1 hb, ho⟩⟩
  | rest2 hb hx hy hw =>
    simp only [and_assoc, rst, rs, re, ra, rq, rx, ro, rl, rl2, rsp, rz, rix, rln, rg, rd, ri, rv, rk, rdd, rwi, at0, at1, at2, at3, upd_at, List.getElem?_cons_zero, List.getElem?_cons_succ, Option.some.injEq, exists_eq_left', exists_eq_left, List.set_cons_zero, List.set_cons_succ, true_and, and_true, HO.lst.injEq, HO.tup.injEq, exists_and_left, exists_eq, exists_eq', Br.t, Br.f, Be.t, Be.f, List.cons.injEq, List.append_nil, scal, if_true, if_false, ite_true, ite_false, eq_self_iff_true, decide_true, decide_false, Bool.not_true, Bool.not_false, reduceIte, List.nil_append, List.cons_append, reduceCtorEq, false_and, exists_false, false_or, or_false, Int.reduceLT, rsq, rlu, rdp, Bool.true_or, Bool.false_or, Bool.or_false, Bool.or_true]
    exact ⟨_, _, rfl, .inl ⟨_, _, .share2 hb hx hy hw, ho⟩⟩
theorem ok_first_of (T : Tx K mg w) (c_is_within : Cal P w K mg base 2 "is_within" ["thing", "low", "high"] (sp_is_within K)) (c_need_shares : Cal P w K mg base 4 "need_shares" ["thing"] (sp_need_shares K)) (c_NoNumber : Exn P w K mg base "NoNumber" "found") : Cal P w K mg base 5 "first_of" ["shares", "at"] (sp_first_of K) := by
  refine cal_mk T.F_first_of T.g_first_of sc_first_of (len2 _) (fun _ _ _ _ _ _ us hl => match us, hl with | [_, _], _ => rfl) (fun cdv A outer s H vs Q E hr h => ?_)
  obtain ⟨v0, v1, rfl, h⟩ := h
  have hu := hu_of hr
  refine ⟨_, (pss_cons (ps_expr (pe_cal c_need_shares hr (by decide) (passes_call (takes_of rfl rfl rfl rfl) fun _ _ _ _ h => h) rfl (pa_cons (pv 0) pa_nil)))
      (pss_cons (ps_if (pt_not (pt_val (pe_cal c_is_within hr (by decide) (passes_call (takes_of rfl rfl rfl rfl) fun _ _ _ _ h => h) rfl (pa_cons (pv 1) (pa_cons pe_int (pa_cons (pe_op op_sub (pe_callB len_q (by rfl) T.n_len (by decide +kernel) (pa_cons (pv 0) pa_nil)) pe_int) pa_nil)))))) (pss_one (ps_rs1 c_NoNumber rfl (takes_of rfl rfl rfl rfl) hr (by decide) rfl (pa_cons (pv 1) pa_nil))) pss_nil)
      (pss_one (ps_ret (pe_callB (cr_sum rfl) (by rfl) T.n_sum (by decide +kernel) (pa_cons (pe_slice sl_list (pv 0) po_none (po_some (pv 1))) pa_nil)))))), ?_⟩
  rcases h with ⟨c, v, hd, ho⟩ | ⟨hd, q⟩
  · cases hd with
    | first1 hb =>
      simp only [and_assoc, rst, rs, re, ra, rq, rx, ro, rl, rl2, rsp, rz, rix, rln, rg, rd, ri, rv, rk, rdd, rwi, at0, at1, at2, at3, upd_at, List.getElem?_cons_zero, List.getElem?_cons_succ, Option.some.injEq, exists_eq_left', exists_eq_left, List.set_cons_zero, List.set_cons_succ, true_and, and_true, HO.lst.injEq, HO.tup.injEq, exists_and_left, exists_eq, exists_eq', Br.t, Br.f, Be.t, Be.f, List.cons.injEq, List.append_nil, scal, if_true, if_false, ite_true, ite_false, eq_self_iff_true, decide_true, decide_false, Bool.not_true, Bool.not_false, reduceIte, List.nil_append, List.cons_append, reduceCtorEq, false_and, exists_false, false_or, or_false, Int.reduceLT, rsq, rlu, rdp, Bool.true_or, Bool.false_or, Bool.or_false, Bool.or_true]
      exact ⟨_, rfl, _, hb, nofun, fun _ => ho⟩
    | @first2 x y ns r hb hx hy hw =>
      simp only [and_assoc, rst, rs, re, ra, rq, rx, ro, rl, rl2, rsp, rz, rix, rln, rg, rd, ri, rv, rk, rdd, rwi, at0, at1, at2, at3, upd_at, List.getElem?_cons_zero, List.getElem?_cons_succ, Option.some.injEq, exists_eq_left', exists_eq_left, List.set_cons_zero, List.set_cons_succ, true_and, and_true, HO.lst.injEq, HO.tup.injEq, exists_and_left, exists_eq, exists_eq', Br.t, Br.f, Be.t, Be.f, List.cons.injEq, List.append_nil, scal, if_true, if_false, ite_true, ite_false, eq_self_iff_true, decide_true, decide_false, Bool.not_true, Bool.not_false, reduceIte, List.nil_append, List.cons_append, reduceCtorEq, false_and, exists_false, false_or, or_false, Int.reduceLT, rsq, rlu, rdp, Bool.true_or, Bool.false_or, Bool.or_false, Bool.or_true]
      refine ⟨_, rfl, _, hb, fun _ H1 s1 => ?_, nofun⟩
      obtain ⟨p, o, rfl, hp, hs⟩ := hx
      simp only [and_assoc, rst, rs, re, ra, rq, rx, ro, rl, rl2, rsp, rz, rix, rln, rg, rd, ri, rv, rk, rdd, rwi, at0, at1, at2, at3, upd_at, List.getElem?_cons_zero, List.getElem?_cons_succ, Option.some.injEq, exists_eq_left', exists_eq_left, List.set_cons_zero, List.set_cons_succ, true_and, and_true, HO.lst.injEq, HO.tup.injEq, exists_and_left, exists_eq, exists_eq', Br.t, Br.f, Be.t, Be.f, List.cons.injEq, List.append_nil, scal, if_true, if_false, ite_true, ite_false, eq_self_iff_true, decide_true, decide_false, Bool.not_true, Bool.not_false, reduceIte, List.nil_append, List.cons_append, reduceCtorEq, false_and, exists_false, false_or, or_false, Int.reduceLT, rsq, rlu, rdp, Bool.true_or, Bool.false_or, Bool.or_false, Bool.or_true]
      refine ⟨o, s1 _ _ hp, _, hs, ?_⟩
      rw [List.length_map]
      refine ⟨_, _, _, rfl, _, _, rfl, rfl, hy.same s1, ?_⟩
      simp only [and_assoc, rst, rs, re, ra, rq, rx, ro, rl, rl2, rsp, rz, rix, rln, rg, rd, ri, rv, rk, rdd, rwi, at0, at1, at2, at3, upd_at, List.getElem?_cons_zero, List.getElem?_cons_succ, Option.some.injEq, exists_eq_left', exists_eq_left, List.set_cons_zero, List.set_cons_succ, true_and, and_true, HO.lst.injEq, HO.tup.injEq, exists_and_left, exists_eq, exists_eq', Br.t, Br.f, Be.t, Be.f, List.cons.injEq, List.append_nil, scal, if_true, if_false, ite_true, ite_false, eq_self_iff_true, decide_true, decide_false, Bool.not_true, Bool.not_false, reduceIte, List.nil_append, List.cons_append, reduceCtorEq, false_and, exists_false, false_or, or_false, Int.reduceLT, rsq, rlu, rdp, Bool.true_or, Bool.false_or, Bool.or_false, Bool.or_true, hw]
      exact fun d hd => ho _ d s1 hd
  · generalize e : (none : Option (Str × V)) = o at hd
    cases hd with
    | @first3 p k ns r hb hp hk =>
      simp only [and_assoc, rst, rs, re, ra, rq, rx, ro, rl, rl2, rsp, rz, rix, rln, rg, rd, ri, rv, rk, rdd, rwi, at0, at1, at2, at3, upd_at, List.getElem?_cons_zero, List.getElem?_cons_succ, Option.some.injEq, exists_eq_left', exists_eq_left, List.set_cons_zero, List.set_cons_succ, true_and, and_true, HO.lst.injEq, HO.tup.injEq, exists_and_left, exists_eq, exists_eq', Br.t, Br.f, Be.t, Be.f, List.cons.injEq, List.append_nil, scal, if_true, if_false, ite_true, ite_false, eq_self_iff_true, decide_true, decide_false, Bool.not_true, Bool.not_false, reduceIte, List.nil_append, List.cons_append, reduceCtorEq, false_and, exists_false, false_or, or_false, Int.reduceLT, rsq, rlu, rdp, Bool.true_or, Bool.false_or, Bool.or_false, Bool.or_true]
      refine ⟨_, rfl, _, hb, fun _ H1 s1 => ?_, nofun⟩
      simp only [and_assoc, rst, rs, re, ra, rq, rx, ro, rl, rl2, rsp, rz, rix, rln, rg, rd, ri, rv, rk, rdd, rwi, at0, at1, at2, at3, upd_at, List.getElem?_cons_zero, List.getElem?_cons_succ, Option.some.injEq, exists_eq_left', exists_eq_left, List.set_cons_zero, List.set_cons_succ, true_and, and_true, HO.lst.injEq, HO.tup.injEq, exists_and_left, exists_eq, exists_eq', Br.t, Br.f, Be.t, Be.f, List.cons.injEq, List.append_nil, scal, if_true, if_false, ite_true, ite_false, eq_self_iff_true, decide_true, decide_false, Bool.not_true, Bool.not_false, reduceIte, List.nil_append, List.cons_append, reduceCtorEq, false_and, exists_false, false_or, or_false, Int.reduceLT, rsq, rlu, rdp, Bool.true_or, Bool.false_or, Bool.or_false, Bool.or_true]
      refine ⟨_, s1 _ _ hp, _, rfl, ?_⟩
      rw [List.length_map]
      refine ⟨_, _, _, rfl, _, _, rfl, rfl, ⟨"int", rfl⟩, ?_⟩
      have hw : within (.int (k : Int)) 0 ((ns.length : Int) - 1) = true := decide_eq_true (by omega)
      simp only [and_assoc, rst, rs, re, ra, rq, rx, ro, rl, rl2, rsp, rz, rix, rln, rg, rd, ri, rv, rk, rdd, rwi, at0, at1, at2, at3, upd_at, List.getElem?_cons_zero, List.getElem?_cons_succ, Option.some.injEq, exists_eq_left', exists_eq_left, List.set_cons_zero, List.set_cons_succ, true_and, and_true, HO.lst.injEq, HO.tup.injEq, exists_and_left, exists_eq, exists_eq', Br.t, Br.f, Be.t, Be.f, List.cons.injEq, List.append_nil, scal, if_true, if_false, ite_true, ite_false, eq_self_iff_true, decide_true, decide_false, Bool.not_true, Bool.not_false, reduceIte, List.nil_append, List.cons_append, reduceCtorEq, false_and, exists_false, false_or, or_false, Int.reduceLT, rsq, rlu, rdp, Bool.true_or, Bool.false_or, Bool.or_false, Bool.or_true, hw]
      exact ⟨_, SqL.of (s1 _ _ hp), fun q1 hq1 => ⟨_, SqL.of (by rw [upd_same, cutV_ints]), q _ _ (Same.trans s1 (Same.new hq1))⟩⟩
    | _ => cases e
theorem ok_number_of (T : Tx K mg w) (c_is_within : Cal P w K mg base 2 "is_within" ["thing", "low", "high"] (sp_is_within K)) (c_first_of : Cal P w K mg base 5 "first_of" ["shares", "at"] (sp_first_of K)) (c_NoNumber : Exn P w K mg base "NoNumber" "found") : Cal P w K mg base 6 "number_of" ["shares", "at", "rest"] (sp_number_of K) := by
  refine cal_mk T.F_number_of T.g_number_of sc_number_of (len3 _) (fun _ _ _ _ _ _ us hl => match us, hl with | [_, _, _], _ => rfl) (fun cdv A outer s H vs Q E hr h => ?_)
  obtain ⟨v0, v1, v2, rfl, h⟩ := h
  have hu := hu_of hr
  refine ⟨_, (pss_cons (ps_set (i := 3) sc_number_of.nd rfl (Or.inl rfl) (pe_cal c_first_of hr (by decide) (passes_call (takes_of rfl rfl rfl rfl) fun _ _ _ _ h => h) rfl (pa_cons (pv 0) (pa_cons (pv 1) pa_nil))))
      (pss_cons (ps_if (pt_not (pt_val (pe_cal c_is_within hr (by decide) (passes_call (takes_of rfl rfl rfl rfl) fun _ _ _ _ h => h) rfl (pa_cons (pv 2) (pa_cons pe_int (pa_cons (pe_op op_sub (pe_ix ix_q (pv 0) (pv 1) (fun _ _ => rfl)) pe_int) pa_nil)))))) (pss_one (ps_rs1 c_NoNumber rfl (takes_of rfl rfl rfl rfl) hr (by decide) rfl (pa_cons (pv 2) pa_nil))) pss_nil)
      (pss_one (ps_ret (pe_op op_add (pv 3) (pv 2)))))), ?_⟩
  obtain ⟨o, hd, ho⟩ := h
  cases hd with
  | number1 hb =>
    simp only [and_assoc, rst, rs, re, ra, rq, rx, ro, rl, rl2, rsp, rz, rix, rln, rg, rd, ri, rv, rk, rdd, rwi, at0, at1, at2, at3, upd_at, List.getElem?_cons_zero, List.getElem?_cons_succ, Option.some.injEq, exists_eq_left', exists_eq_left, List.set_cons_zero, List.set_cons_succ, true_and, and_true, HO.lst.injEq, HO.tup.injEq, exists_and_left, exists_eq, exists_eq', Br.t, Br.f, Be.t, Be.f, List.cons.injEq, List.append_nil, scal, if_true, if_false, ite_true, ite_false, eq_self_iff_true, decide_true, decide_false, Bool.not_true, Bool.not_false, reduceIte, List.nil_append, List.cons_append, reduceCtorEq, false_and, exists_false, false_or, or_false, Int.reduceLT, rsq, rlu, rdp, Bool.true_or, Bool.false_or, Bool.or_false, Bool.or_true]
    exact ⟨_, _, rfl, .inl ⟨_, _, .first1 hb, ho⟩⟩
  | number2 hb hx hy hw =>
    simp only [and_assoc, rst, rs, re, ra, rq, rx, ro, rl, rl2, rsp, rz, rix, rln, rg, rd, ri, rv, rk, rdd, rwi, at0, at1, at2, at3, upd_at, List.getElem?_cons_zero, List.getElem?_cons_succ, Option.some.injEq, exists_eq_left', exists_eq_left, List.set_cons_zero, List.set_cons_succ, true_and, and_true, HO.lst.injEq, HO.tup.injEq, exists_and_left, exists_eq, exists_eq', Br.t, Br.f, Be.t, Be.f, List.cons.injEq, List.append_nil, scal, if_true, if_false, ite_true, ite_false, eq_self_iff_true, decide_true, decide_false, Bool.not_true, Bool.not_false, reduceIte, List.nil_append, List.cons_append, reduceCtorEq, false_and, exists_false, false_or, or_false, Int.reduceLT, rsq, rlu, rdp, Bool.true_or, Bool.false_or, Bool.or_false, Bool.or_true]
    exact ⟨_, _, rfl, .inl ⟨_, _, .first2 hb hx hy hw, ho⟩⟩
  | @number3 p z k n ns r hb hp hk hz hw =>
    simp only [and_assoc, rst, rs, re, ra, rq, rx, ro, rl, rl2, rsp, rz, rix, rln, rg, rd, ri, rv, rk, rdd, rwi, at0, at1, at2, at3, upd_at, List.getElem?_cons_zero, List.getElem?_cons_succ, Option.some.injEq, exists_eq_left', exists_eq_left, List.set_cons_zero, List.set_cons_succ, true_and, and_true, HO.lst.injEq, HO.tup.injEq, exists_and_left, exists_eq, exists_eq', Br.t, Br.f, Be.t, Be.f, List.cons.injEq, List.append_nil, scal, if_true, if_false, ite_true, ite_false, eq_self_iff_true, decide_true, decide_false, Bool.not_true, Bool.not_false, reduceIte, List.nil_append, List.cons_append, reduceCtorEq, false_and, exists_false, false_or, or_false, Int.reduceLT, rsq, rlu, rdp, Bool.true_or, Bool.false_or, Bool.or_false, Bool.or_true]
    refine ⟨_, _, rfl, .inr ⟨.first3 hb hp (List.getElem?_eq_some_iff.mp hk).1, fun f H1 s1 => ?_⟩⟩
    simp only [and_assoc, rst, rs, re, ra, rq, rx, ro, rl, rl2, rsp, rz, rix, rln, rg, rd, ri, rv, rk, rdd, rwi, at0, at1, at2, at3, upd_at, List.getElem?_cons_zero, List.getElem?_cons_succ, Option.some.injEq, exists_eq_left', exists_eq_left, List.set_cons_zero, List.set_cons_succ, true_and, and_true, HO.lst.injEq, HO.tup.injEq, exists_and_left, exists_eq, exists_eq', Br.t, Br.f, Be.t, Be.f, List.cons.injEq, List.append_nil, scal, if_true, if_false, ite_true, ite_false, eq_self_iff_true, decide_true, decide_false, Bool.not_true, Bool.not_false, reduceIte, List.nil_append, List.cons_append, reduceCtorEq, false_and, exists_false, false_or, or_false, Int.reduceLT, rsq, rlu, rdp, Bool.true_or, Bool.false_or, Bool.or_false, Bool.or_true]
    refine ⟨_, s1 _ _ hp, _, rfl, _, atI_nat (by rw [List.getElem?_map, hk]; rfl), _, rfl, ?_⟩
    refine ⟨_, _, _, rfl, _, _, rfl, rfl, hz.same s1, ?_⟩
    simp only [and_assoc, rst, rs, re, ra, rq, rx, ro, rl, rl2, rsp, rz, rix, rln, rg, rd, ri, rv, rk, rdd, rwi, at0, at1, at2, at3, upd_at, List.getElem?_cons_zero, List.getElem?_cons_succ, Option.some.injEq, exists_eq_left', exists_eq_left, List.set_cons_zero, List.set_cons_succ, true_and, and_true, HO.lst.injEq, HO.tup.injEq, exists_and_left, exists_eq, exists_eq', Br.t, Br.f, Be.t, Be.f, List.cons.injEq, List.append_nil, scal, if_true, if_false, ite_true, ite_false, eq_self_iff_true, decide_true, decide_false, Bool.not_true, Bool.not_false, reduceIte, List.nil_append, List.cons_append, reduceCtorEq, false_and, exists_false, false_or, or_false, Int.reduceLT, rsq, rlu, rdp, Bool.true_or, Bool.false_or, Bool.or_false, Bool.or_true, hw]
    exact fun d hd => ho _ d s1 hd
end
end Law

-- RDX ral, rsq, rlu, rdp, Bool.true_or, Bool.false_or, Bool.or_false, Bool.or_true
namespace Law
open PySem PySem.Spec PyProof.Rows L2 Sw
theorem Well.same {H H' : Hp} {p : Addr} (s : Same H H') (h : Well H p) : Well H' p := by
  obtain ⟨x0, x1, x2, e⟩ := h
  exact ⟨x0, x1, x2, s _ _ e⟩
theorem Wl.mut {p q : Addr} {H H1 : Hp} {o : HO} (w : Wl p H H1) (n : q ≠ p) (f : H q = none) : Wl p H (upd H1 q o) := by
  obtain ⟨⟨x0, x1, x2, e⟩, s⟩ := w
  refine ⟨⟨x0, x1, x2, by rw [upd_ne n.symm]; exact e⟩, fun a u h => ?_⟩
  have h2 := s a u h
  unfold wo at h h2 ⊢
  split at h
  · cases h
  · rename_i k
    rw [if_neg k] at h2 ⊢
    rw [upd_ne (ne_of_none h f)]
    exact h2
theorem Wl.draw {p : Addr} {H1 H2 : Hp} (h : Well H2 p) (e : ∀ a, a ≠ p → H2 a = H1 a) : Wl p H1 H2 := ⟨h, fun a o k => by
  unfold wo at k ⊢
  split at k
  · cases k
  · rename_i n
    rw [if_neg n, e a n]
    exact k⟩
theorem flat_ty {G : Hp} {v : V} (h : flat v = true) : TyA G v := by
  cases v with
  | byt _ => exact Bool.noConfusion (show false = true from h)
  | flt _ => exact Bool.noConfusion (show false = true from h)
  | ref _ => exact Bool.noConfusion (show false = true from h)
  | ty _ => exact Bool.noConfusion (show false = true from h)
  | _ => exact ⟨_, rfl⟩
theorem kB {G : Hp} {v : V} {n : String} (h : tyN G v = some n) (h1 : kitB n "list" = some false) (h2 : kitB n "tuple" = some false) : NoSeq G v := by
  constructor
  · rw [isB, h, Option.bind_some, h1]
  · rw [isB, h, Option.bind_some, h2]
theorem flat_no {G : Hp} {v : V} (h : flat v = true) : NoSeq G v := by
  cases v with
  | non => exact kB (n := "NoneType") rfl (by decide +kernel) (by decide +kernel)
  | bl b => exact kB (n := "bool") rfl (by decide +kernel) (by decide +kernel)
  | int i => exact kB (n := "int") rfl (by decide +kernel) (by decide +kernel)
  | str s => exact kB (n := "str") rfl (by decide +kernel) (by decide +kernel)
  | _ => exact Bool.noConfusion (show false = true from h)
theorem dict_no {G : Hp} {p : Addr} {ks : List (Key × V)} (h : G p = some (.dK ks)) : NoSeq G (.ref p) := kB (n := "dict") (by rw [tyN, h] <;> rfl) (by decide +kernel) (by decide +kernel)
/-! a bad thing: nice, and judged not -/
def Bad (f : List V → Bool) (G : Hp) (v : V) : Prop := Nice G v ∧ Jd f G v false
theorem Bad.same {f : List V → Bool} {H H' : Hp} (s : Same H H') {v : V} (h : Bad f H v) : Bad f H' v := ⟨h.1.same s, h.2.same s⟩
theorem all_flat {xs : List V} (h : xs.all flat = true) : ∀ x ∈ xs, flat x = true := fun x hx => List.all_eq_true.mp h x hx
theorem bad_l {f : List V → Bool} {G : Hp} {p : Addr} {xs : List V} (w : G p = some (.lst xs)) (h : xs.all flat = true) (l : xs.length ≤ 1000) (e : f xs = false) : Bad f G (.ref p) :=
  ⟨.inl (.inr ⟨p, xs, rfl, .inl w, all_flat h, l⟩), .inl ⟨xs, ⟨p, _, rfl, w, rfl⟩, fun x hx => flat_ty (all_flat h x hx), e.symm⟩⟩
theorem bad_t {f : List V → Bool} {G : Hp} {p : Addr} {xs : List V} (w : G p = some (.tup xs)) (h : xs.all flat = true) (l : xs.length ≤ 1000) (e : f xs = false) : Bad f G (.ref p) :=
  ⟨.inl (.inr ⟨p, xs, rfl, .inr w, all_flat h, l⟩), .inl ⟨xs, ⟨p, _, rfl, w, rfl⟩, fun x hx => flat_ty (all_flat h x hx), e.symm⟩⟩
theorem bad_f {f : List V → Bool} {G : Hp} {v : V} (h : flat v = true) : Bad f G v := ⟨.inl (.inl h), .inr ⟨flat_no h, rfl⟩⟩
theorem bad_d {f : List V → Bool} {G : Hp} {p : Addr} (w : G p = some (.dK [])) : Bad f G (.ref p) := ⟨.inr (.inr ⟨p, rfl, w⟩), .inr ⟨dict_no w, rfl⟩⟩
theorem bad_n {f : List V → Bool} {G : Hp} {p q : Addr} {xs : List V} (w : G p = some (.lst [.ref q])) (w2 : G q = some (.lst xs)) (h : xs.all flat = true) (l : xs.length ≤ 1000) (e : f [.ref q] = false) : Bad f G (.ref p) := by
  have n1 : Nice1 G (.ref q) := .inr ⟨q, xs, rfl, .inl w2, all_flat h, l⟩
  refine ⟨.inr (.inl ⟨p, _, rfl, w, fun x hx => ?_, by simp⟩), .inl ⟨_, ⟨p, _, rfl, w, rfl⟩, fun x hx => ?_, e.symm⟩⟩
  · rw [List.mem_singleton.mp hx]
    exact n1
  · rw [List.mem_singleton.mp hx]
    exact n1.ty
theorem wide29 : CPow 10 29 := ⟨by decide, by decide, by decide⟩
theorem wide9 : CPow 10 9 := ⟨by decide, by decide, by decide⟩
section
variable {P : Program} {w : World} {K : Fg} {mg : Str → Option Value} {base : Heap}
theorem seq_nat {k n : Nat} (h : k < n) : seqIndex? (k : Int) n = some k := by
  have h0 : ¬ ((k : Int) < 0) := by omega
  simp [seqIndex?, h0, h]
theorem ok__law_order (T : Tx K mg w) (c__law_draw : Cal P w K mg base 1 "_law_draw" ["well", "many"] (sp__law_draw K))  : Cal P w K mg base 2 "_law_order" ["well", "many"] (sp__law_order K) := by
  refine cal_mk T.F__law_order T.g__law_order sc__law_order (len2 _) (fun _ _ _ _ _ _ us hl => match us, hl with | [_, _], _ => rfl) (fun cdv A outer s H vs Q E hr h => ?_)
  obtain ⟨v0, v1, rfl, h⟩ := h
  have hu := hu_of hr
  refine ⟨_, (pss_cons (ps_set (i := 2) sc__law_order.nd rfl (Or.inl rfl) (pe_listRgA rfl (by rfl) T.n_list (prg_1 (by rfl) T.n_range (pv 1))))
      (pss_cons (ps_set (i := 3) sc__law_order.nd rfl (Or.inl rfl) (pe_lstA pa_nil))
      (pss_cons (ps_while (passes_of rfl) (pt_cmpR (op_neA hr.units) (pv 2) (pe_lstA pa_nil) (nomark _)) (pss_one (ps_expr (pe_ml PySem.F.slot_list_append PySem.F.type_list_append mt_append (pv 3) (pa_cons (pe_ml PySem.F.slot_list_pop PySem.F.type_list_pop mt_popAt (pv 2) (pa_cons (pe_cal c__law_draw hr (by decide) passL rfl (pa_cons (pv 0) (pa_cons (pe_callB len_q (by rfl) T.n_len (by decide +kernel) (pa_cons (pv 2) pa_nil)) pa_nil))) pa_nil)) pa_nil)))))
      (pss_one (ps_ret (pv 3)))))), ?_⟩
  obtain ⟨p, n, rfl, hw, rfl, hn, q⟩ := h
  obtain ⟨z0, z1, z2, hp⟩ := id hw
  simp only [and_assoc, rst, rs, re, ra, rq, rx, ro, rl, rl2, rsp, rz, rix, rln, rg, rd, ri, rv, rk, rdd, rwi, at0, at1, at2, at3, upd_at, List.getElem?_cons_zero, List.getElem?_cons_succ, Option.some.injEq, exists_eq_left', exists_eq_left, List.set_cons_zero, List.set_cons_succ, true_and, and_true, HO.lst.injEq, HO.tup.injEq, exists_and_left, exists_eq, exists_eq', Br.t, Br.f, Be.t, Be.f, List.cons.injEq, List.append_nil, scal, if_true, if_false, ite_true, ite_false, eq_self_iff_true, decide_true, decide_false, Bool.not_true, Bool.not_false, reduceIte, List.nil_append, List.cons_append, reduceCtorEq, false_and, exists_false, false_or, or_false, Int.reduceLT, ral, rsq, rlu, rdp, Bool.true_or, Bool.false_or, Bool.or_false, Bool.or_true]
  refine ⟨⟨by decide, by decide, by omega, by omega, by omega⟩, fun p1 H1 a1 p2 H2 a2 => ?_⟩
  have n1 := a1.ne hp
  have n2 := a2.ne (Al.k a1 hp)
  have n3 := a2.ne (Al.e a1)
  have f2 : H p2 = none := Same.free a1.s a2.f
  refine wh (fun m σ H' => ∃ ms ys, Wl p H H' ∧ H' p1 = some (.lst (ms.map V.int)) ∧ H' p2 = some (.lst ys) ∧ ms.length = m ∧ ms.length + ys.length = n ∧ (ms.map V.int ++ ys).Perm ((List.range n).map fun j : Nat => V.int (j : Int)) ∧ σ = [some (.ref p), some (.int n), some (.ref p1), some (.ref p2)])
    n ⟨(List.range n).map fun j : Nat => (j : Int), [], Wl.of_same hw (Same.trans a1.s (a2.s)), ?_, a2.e, by simp, by simp, ?_, rfl⟩ ?_
  · rw [(Al.k a2 (Al.e a1)), rgV, List.map_map]
    simp [Function.comp_def]
  · rw [List.append_nil, List.map_map]
    exact List.Perm.refl _
  · rintro m σ H' ⟨ms, ys, s, h1, h2, hm, hl, pm, rfl⟩
    simp only [and_assoc, rst, rs, re, ra, rq, rx, ro, rl, rl2, rsp, rz, rix, rln, rg, rd, ri, rv, rk, rdd, rwi, at0, at1, at2, at3, upd_at, List.getElem?_cons_zero, List.getElem?_cons_succ, Option.some.injEq, exists_eq_left', exists_eq_left, List.set_cons_zero, List.set_cons_succ, true_and, and_true, HO.lst.injEq, HO.tup.injEq, exists_and_left, exists_eq, exists_eq', Br.t, Br.f, Be.t, Be.f, List.cons.injEq, List.append_nil, scal, if_true, if_false, ite_true, ite_false, eq_self_iff_true, decide_true, decide_false, Bool.not_true, Bool.not_false, reduceIte, List.nil_append, List.cons_append, reduceCtorEq, false_and, exists_false, false_or, or_false, Int.reduceLT, ral, rsq, rlu, rdp, Bool.true_or, Bool.false_or, Bool.or_false, Bool.or_true]
    intro q3 G3 b3
    refine .inl (ne_ints (ms := []) (SqL.of (b3.k h1)) (SqL.of b3.e) ?_)
    refine ⟨_, rfl, Br.n (fun c => Nx.go ?_) fun c => ?_⟩
    · have hm0 : 0 < ms.length := by
        cases ms with
        | nil => exact absurd rfl c
        | cons a b => simp
      simp only [and_assoc, rst, rs, re, ra, rq, rx, ro, rl, rl2, rsp, rz, rix, rln, rg, rd, ri, rv, rk, rdd, rwi, at0, at1, at2, at3, upd_at, List.getElem?_cons_zero, List.getElem?_cons_succ, Option.some.injEq, exists_eq_left', exists_eq_left, List.set_cons_zero, List.set_cons_succ, true_and, and_true, HO.lst.injEq, HO.tup.injEq, exists_and_left, exists_eq, exists_eq', Br.t, Br.f, Be.t, Be.f, List.cons.injEq, List.append_nil, scal, if_true, if_false, ite_true, ite_false, eq_self_iff_true, decide_true, decide_false, Bool.not_true, Bool.not_false, reduceIte, List.nil_append, List.cons_append, reduceCtorEq, false_and, exists_false, false_or, or_false, Int.reduceLT, ral, rsq, rlu, rdp, Bool.true_or, Bool.false_or, Bool.or_false, Bool.or_true, b3.k h1]
      rw [List.length_map]
      refine ⟨_, b3.k h2, _, _, rfl, p, _, rfl, Well.same b3.s s.1, rfl, by omega, by omega, fun r G4 r0 r1 hw4 he => ?_⟩
      obtain ⟨k, rfl⟩ : ∃ k : Nat, r = (k : Int) := ⟨r.toNat, by omega⟩
      have hk : k < ms.length := by omega
      have h14 : G4 p1 = some (.lst (ms.map V.int)) := (he _ n1).trans (b3.k h1)
      have h24 : G4 p2 = some (.lst ys) := (he _ n2).trans (b3.k h2)
      have s4 : Wl p H G4 := s.trans ((Wl.of_same s.1 b3.s).trans (Wl.draw hw4 he))
      simp only [and_assoc, rst, rs, re, ra, rq, rx, ro, rl, rl2, rsp, rz, rix, rln, rg, rd, ri, rv, rk, rdd, rwi, at0, at1, at2, at3, upd_at, List.getElem?_cons_zero, List.getElem?_cons_succ, Option.some.injEq, exists_eq_left', exists_eq_left, List.set_cons_zero, List.set_cons_succ, true_and, and_true, HO.lst.injEq, HO.tup.injEq, exists_and_left, exists_eq, exists_eq', Br.t, Br.f, Be.t, Be.f, List.cons.injEq, List.append_nil, scal, if_true, if_false, ite_true, ite_false, eq_self_iff_true, decide_true, decide_false, Bool.not_true, Bool.not_false, reduceIte, List.nil_append, List.cons_append, reduceCtorEq, false_and, exists_false, false_or, or_false, Int.reduceLT, ral, rsq, rlu, rdp, Bool.true_or, Bool.false_or, Bool.or_false, Bool.or_true, h14, h24, eq_false n3, eq_false n3.symm]
      have gk : (ms.map V.int)[k]? = some (V.int ms[k]) := by rw [List.getElem?_map, List.getElem?_eq_getElem hk]; rfl
      have ee : (ms.map V.int).eraseIdx k = (ms.eraseIdx k).map V.int := by rw [List.eraseIdx_eq_take_drop_succ, List.eraseIdx_eq_take_drop_succ, List.map_append, List.map_take, List.map_drop]
      refine ⟨by omega, by omega, k, by rw [List.length_map]; exact seq_nat hk, _, gk, by rw [sizeLine_eq]; omega, m - 1, by omega, (s4.mut n1 a1.f).mut n2 f2, ms.eraseIdx k, by rw [ee], ?_, ?_, ?_⟩
      · rw [List.length_eraseIdx_of_lt hk]
        omega
      · rw [List.length_eraseIdx_of_lt hk, List.length_append, List.length_singleton]
        omega
      · rw [← ee]
        have hk2 : k < (ms.map V.int).length := by rw [List.length_map]; exact hk
        have p1 : (V.int ms[k] :: (ms.map V.int).eraseIdx k).Perm (ms.map V.int) := by
          have e3 : ms.map V.int = (ms.map V.int).take k ++ V.int ms[k] :: (ms.map V.int).drop (k + 1) := by
            rw [← drop_at gk, List.take_append_drop]
          rw [List.eraseIdx_eq_take_drop_succ]
          exact List.Perm.trans List.perm_middle.symm (List.Perm.of_eq e3.symm)
        refine List.Perm.trans ?_ ((List.Perm.append_right ys p1).trans pm)
        rw [← List.append_assoc]
        exact List.perm_append_singleton _ _
    · simp only [and_assoc, rst, rs, re, ra, rq, rx, ro, rl, rl2, rsp, rz, rix, rln, rg, rd, ri, rv, rk, rdd, rwi, at0, at1, at2, at3, upd_at, List.getElem?_cons_zero, List.getElem?_cons_succ, Option.some.injEq, exists_eq_left', exists_eq_left, List.set_cons_zero, List.set_cons_succ, true_and, and_true, HO.lst.injEq, HO.tup.injEq, exists_and_left, exists_eq, exists_eq', Br.t, Br.f, Be.t, Be.f, List.cons.injEq, List.append_nil, scal, if_true, if_false, ite_true, ite_false, eq_self_iff_true, decide_true, decide_false, Bool.not_true, Bool.not_false, reduceIte, List.nil_append, List.cons_append, reduceCtorEq, false_and, exists_false, false_or, or_false, Int.reduceLT, ral, rsq, rlu, rdp, Bool.true_or, Bool.false_or, Bool.or_false, Bool.or_true]
      have e : ms = [] := c
      subst e
      exact q _ _ _ (s.trans (Wl.of_same s.1 b3.s)) f2 (b3.k h2) pm
theorem ok__law_bad_set (T : Tx K mg w) (c__law_draw : Cal P w K mg base 1 "_law_draw" ["well", "many"] (sp__law_draw K))  : Cal P w K mg base 2 "_law_bad_set" ["well", "many"] (sp__law_bad_set K) := by
  refine cal_mk T.F__law_bad_set T.g__law_bad_set sc__law_bad_set (len2 _) (fun _ _ _ _ _ _ us hl => match us, hl with | [_, _], _ => rfl) (fun cdv A outer s H vs Q E hr h => ?_)
  obtain ⟨v0, v1, rfl, h⟩ := h
  have hu := hu_of hr
  refine ⟨_, (pss_cons (ps_set (i := 2) sc__law_bad_set.nd rfl (Or.inl rfl) (pe_lstA (pa_cons (pe_lstA (pa_cons (pv 1) pa_nil)) (pa_cons (pe_lstA (pa_cons pe_int (pa_cons pe_int pa_nil))) (pa_cons (pe_lstA (pa_cons pe_int (pa_cons pe_int pa_nil))) (pa_cons (pe_lstA (pa_cons (pe_un un_neg pe_int) pa_nil)) (pa_cons (pe_lstA (pa_cons pe_bl pa_nil)) (pa_cons (pe_tupA (pa_cons pe_bl pa_nil)) (pa_cons pe_non (pa_cons pe_str (pa_cons pe_int (pa_cons pe_dnewA (pa_cons (pe_lstA (pa_cons pe_non pa_nil)) (pa_cons (pe_lstA (pa_cons pe_int (pa_cons (pv 1) pa_nil))) (pa_cons (pe_lstA (pa_cons (pe_lstA (pa_cons pe_int pa_nil)) pa_nil)) (pa_cons pe_bl pa_nil))))))))))))))))
      (pss_one (ps_ret (pe_ix ix_q (pv 2) (pe_cal c__law_draw hr (by decide) passL rfl (pa_cons (pv 0) (pa_cons (pe_callB len_q (by rfl) T.n_len (by decide +kernel) (pa_cons (pv 2) pa_nil)) pa_nil))) (fun _ _ => rfl))))), ?_⟩
  obtain ⟨p, n, rfl, hw, rfl, q⟩ := h
  obtain ⟨z0, z1, z2, hp⟩ := id hw
  simp only [and_assoc, rst, rs, re, ra, rq, rx, ro, rl, rl2, rsp, rz, rix, rln, rg, rd, ri, rv, rk, rdd, rwi, at0, at1, at2, at3, upd_at, List.getElem?_cons_zero, List.getElem?_cons_succ, Option.some.injEq, exists_eq_left', exists_eq_left, List.set_cons_zero, List.set_cons_succ, true_and, and_true, HO.lst.injEq, HO.tup.injEq, exists_and_left, exists_eq, exists_eq', Br.t, Br.f, Be.t, Be.f, List.cons.injEq, List.append_nil, scal, if_true, if_false, ite_true, ite_false, eq_self_iff_true, decide_true, decide_false, Bool.not_true, Bool.not_false, reduceIte, List.nil_append, List.cons_append, reduceCtorEq, false_and, exists_false, false_or, or_false, Int.reduceLT, ral, rsq, rlu, rdp, Bool.true_or, Bool.false_or, Bool.or_false, Bool.or_true]
  intro p1 H1 a1 p2 H2 a2 p3 H3 a3 p4 H4 a4 p5 H5 a5 p6 H6 a6 p7 H7 a7 p8 H8 a8 p9 H9 a9 p10 H10 a10 p11 H11 a11
  refine ⟨by rw [sizeLine_eq]; simp, fun p12 H12 a12 => ⟨_, a12.e, _, rfl, ?_⟩⟩
  have w1 := (wo_at (H := H12) (a1.ne hp)).trans (Al.k a12 (Al.k a11 (Al.k a10 (Al.k a9 (Al.k a8 (Al.k a7 (Al.k a6 (Al.k a5 (Al.k a4 (Al.k a3 (Al.k a2 (Al.e a1))))))))))))
  have w2 := (wo_at (H := H12) (a2.ne (Al.k a1 hp))).trans (Al.k a12 (Al.k a11 (Al.k a10 (Al.k a9 (Al.k a8 (Al.k a7 (Al.k a6 (Al.k a5 (Al.k a4 (Al.k a3 (Al.e a2)))))))))))
  have w3 := (wo_at (H := H12) (a3.ne (Al.k a2 (Al.k a1 hp)))).trans (Al.k a12 (Al.k a11 (Al.k a10 (Al.k a9 (Al.k a8 (Al.k a7 (Al.k a6 (Al.k a5 (Al.k a4 (Al.e a3))))))))))
  have w4 := (wo_at (H := H12) (a4.ne (Al.k a3 (Al.k a2 (Al.k a1 hp))))).trans (Al.k a12 (Al.k a11 (Al.k a10 (Al.k a9 (Al.k a8 (Al.k a7 (Al.k a6 (Al.k a5 (Al.e a4)))))))))
  have w5 := (wo_at (H := H12) (a5.ne (Al.k a4 (Al.k a3 (Al.k a2 (Al.k a1 hp)))))).trans (Al.k a12 (Al.k a11 (Al.k a10 (Al.k a9 (Al.k a8 (Al.k a7 (Al.k a6 (Al.e a5))))))))
  have w6 := (wo_at (H := H12) (a6.ne (Al.k a5 (Al.k a4 (Al.k a3 (Al.k a2 (Al.k a1 hp))))))).trans (Al.k a12 (Al.k a11 (Al.k a10 (Al.k a9 (Al.k a8 (Al.k a7 (Al.e a6)))))))
  have w7 := (wo_at (H := H12) (a7.ne (Al.k a6 (Al.k a5 (Al.k a4 (Al.k a3 (Al.k a2 (Al.k a1 hp)))))))).trans (Al.k a12 (Al.k a11 (Al.k a10 (Al.k a9 (Al.k a8 (Al.e a7))))))
  have w8 := (wo_at (H := H12) (a8.ne (Al.k a7 (Al.k a6 (Al.k a5 (Al.k a4 (Al.k a3 (Al.k a2 (Al.k a1 hp))))))))).trans (Al.k a12 (Al.k a11 (Al.k a10 (Al.k a9 (Al.e a8)))))
  have w9 := (wo_at (H := H12) (a9.ne (Al.k a8 (Al.k a7 (Al.k a6 (Al.k a5 (Al.k a4 (Al.k a3 (Al.k a2 (Al.k a1 hp)))))))))).trans (Al.k a12 (Al.k a11 (Al.k a10 (Al.e a9))))
  have w10 := (wo_at (H := H12) (a10.ne (Al.k a9 (Al.k a8 (Al.k a7 (Al.k a6 (Al.k a5 (Al.k a4 (Al.k a3 (Al.k a2 (Al.k a1 hp))))))))))).trans (Al.k a12 (Al.k a11 (Al.e a10)))
  have w11 := (wo_at (H := H12) (a11.ne (Al.k a10 (Al.k a9 (Al.k a8 (Al.k a7 (Al.k a6 (Al.k a5 (Al.k a4 (Al.k a3 (Al.k a2 (Al.k a1 hp)))))))))))).trans (Al.k a12 (Al.e a11))
  have w12 := (wo_at (H := H12) (a12.ne (Al.k a11 (Al.k a10 (Al.k a9 (Al.k a8 (Al.k a7 (Al.k a6 (Al.k a5 (Al.k a4 (Al.k a3 (Al.k a2 (Al.k a1 hp))))))))))))).trans (Al.e a12)
  refine ⟨_, _, rfl, p, _, rfl, Well.same (Same.trans a1.s (Same.trans a2.s (Same.trans a3.s (Same.trans a4.s (Same.trans a5.s (Same.trans a6.s (Same.trans a7.s (Same.trans a8.s (Same.trans a9.s (Same.trans a10.s (Same.trans a11.s (a12.s)))))))))))) hw, rfl, by simp, by simp, fun r H13 r0 r1 hw3 he => ?_⟩
  obtain ⟨v, hv, hm⟩ := at_mem r0 r1
  have W := (Wl.of_same hw (Same.trans a1.s (Same.trans a2.s (Same.trans a3.s (Same.trans a4.s (Same.trans a5.s (Same.trans a6.s (Same.trans a7.s (Same.trans a8.s (Same.trans a9.s (Same.trans a10.s (Same.trans a11.s (a12.s))))))))))))).trans (Wl.draw hw3 he)
  have good : Bad (setL n (-1)) (wo p H12) v := by
    simp only [List.mem_cons, List.not_mem_nil, or_false] at hm
    rcases hm with rfl | rfl | rfl | rfl | rfl | rfl | rfl | rfl | rfl | rfl | rfl | rfl | rfl | rfl
    · exact bad_l w1 rfl (by simp) (by simp [setL]; omega)
    · exact bad_l w2 rfl (by simp) (by simp [setL])
    · exact bad_l w3 rfl (by simp) (by simp [setL])
    · exact bad_l w4 rfl (by simp) (by simp [setL])
    · exact bad_l w5 rfl (by simp) rfl
    · exact bad_t w6 rfl (by simp) rfl
    · exact bad_f rfl
    · exact bad_f (flat_str _)
    · exact bad_f rfl
    · exact bad_d w7
    · exact bad_l w8 rfl (by simp) rfl
    · exact bad_l w9 rfl (by simp) (by simp [setL]; omega)
    · exact bad_n w11 w10 rfl (by simp) rfl
    · exact bad_f rfl
  have good := good.same (Wl.draw hw3 he).2
  simp only [and_assoc, rst, rs, re, ra, rq, rx, ro, rl, rl2, rsp, rz, rix, rln, rg, rd, ri, rv, rk, rdd, rwi, at0, at1, at2, at3, upd_at, List.getElem?_cons_zero, List.getElem?_cons_succ, Option.some.injEq, exists_eq_left', exists_eq_left, List.set_cons_zero, List.set_cons_succ, true_and, and_true, HO.lst.injEq, HO.tup.injEq, exists_and_left, exists_eq, exists_eq', Br.t, Br.f, Be.t, Be.f, List.cons.injEq, List.append_nil, scal, if_true, if_false, ite_true, ite_false, eq_self_iff_true, decide_true, decide_false, Bool.not_true, Bool.not_false, reduceIte, List.nil_append, List.cons_append, reduceCtorEq, false_and, exists_false, false_or, or_false, Int.reduceLT, ral, rsq, rlu, rdp, Bool.true_or, Bool.false_or, Bool.or_false, Bool.or_true]
  exact ⟨_, (he _ (a12.ne (Al.k a11 (Al.k a10 (Al.k a9 (Al.k a8 (Al.k a7 (Al.k a6 (Al.k a5 (Al.k a4 (Al.k a3 (Al.k a2 (Al.k a1 hp))))))))))))).trans a12.e, _, rfl, v, hv, q v _ W good.1 good.2⟩
theorem ok__law_bad_number (T : Tx K mg w) (c__law_draw : Cal P w K mg base 1 "_law_draw" ["well", "many"] (sp__law_draw K))  : Cal P w K mg base 2 "_law_bad_number" ["well", "last"] (sp__law_bad_number K) := by
  refine cal_mk T.F__law_bad_number T.g__law_bad_number sc__law_bad_number (len2 _) (fun _ _ _ _ _ _ us hl => match us, hl with | [_, _], _ => rfl) (fun cdv A outer s H vs Q E hr h => ?_)
  obtain ⟨v0, v1, rfl, h⟩ := h
  have hu := hu_of hr
  refine ⟨_, (pss_cons (ps_set (i := 2) sc__law_bad_number.nd rfl (Or.inl rfl) (pe_lstA (pa_cons (pe_op op_add (pv 1) pe_int) (pa_cons (pe_op op_add (pe_op op_add (pv 1) pe_int) (pe_cal c__law_draw hr (by decide) passL rfl (pa_cons (pv 0) (pa_cons (pe_op op_pow pe_int pe_int) pa_nil)))) (pa_cons (pe_un un_neg pe_int) (pa_cons (pe_op op_sub (pe_un un_neg pe_int) (pe_cal c__law_draw hr (by decide) passL rfl (pa_cons (pv 0) (pa_cons (pe_op op_pow pe_int pe_int) pa_nil)))) (pa_cons pe_bl (pa_cons pe_bl (pa_cons pe_non pa_nil)))))))))
      (pss_cons (ps_set (i := 2) sc__law_bad_number.nd rfl (Or.inl rfl) (pe_op op_catAl (pv 2) (pe_lstA (pa_cons (pe_callTy call_str_int (by rfl) T.n_str (by decide +kernel) (pa_cons (pe_callB (call_max2 rfl) (by rfl) T.n_max (by decide +kernel) (pa_cons pe_int (pa_cons (pv 1) pa_nil))) pa_nil)) (pa_cons (pe_lstA (pa_cons pe_int pa_nil)) (pa_cons (pe_tupA (pa_cons pe_int pa_nil)) (pa_cons pe_dnewA (pa_cons (pe_op op_pow pe_int pe_int) pa_nil))))))))
      (pss_one (ps_ret (pe_ix ix_q (pv 2) (pe_cal c__law_draw hr (by decide) passL rfl (pa_cons (pv 0) (pa_cons (pe_callB len_q (by rfl) T.n_len (by decide +kernel) (pa_cons (pv 2) pa_nil)) pa_nil))) (fun _ _ => rfl)))))), ?_⟩
  obtain ⟨p, l, rfl, hw, rfl, l0, l1, q⟩ := h
  simp only [and_assoc, rst, rs, re, ra, rq, rx, ro, rl, rl2, rsp, rz, rix, rln, rg, rd, ri, rv, rk, rdd, rwi, at0, at1, at2, at3, upd_at, List.getElem?_cons_zero, List.getElem?_cons_succ, Option.some.injEq, exists_eq_left', exists_eq_left, List.set_cons_zero, List.set_cons_succ, true_and, and_true, HO.lst.injEq, HO.tup.injEq, exists_and_left, exists_eq, exists_eq', Br.t, Br.f, Be.t, Be.f, List.cons.injEq, List.append_nil, scal, if_true, if_false, ite_true, ite_false, eq_self_iff_true, decide_true, decide_false, Bool.not_true, Bool.not_false, reduceIte, List.nil_append, List.cons_append, reduceCtorEq, false_and, exists_false, false_or, or_false, Int.reduceLT, ral, rsq, rlu, rdp, Bool.true_or, Bool.false_or, Bool.or_false, Bool.or_true]
  refine ⟨wide9, _, _, rfl, p, _, rfl, hw, rfl, by decide, by decide, fun x K1 x0 x1 hw1 he1 => ?_⟩
  simp only [and_assoc, rst, rs, re, ra, rq, rx, ro, rl, rl2, rsp, rz, rix, rln, rg, rd, ri, rv, rk, rdd, rwi, at0, at1, at2, at3, upd_at, List.getElem?_cons_zero, List.getElem?_cons_succ, Option.some.injEq, exists_eq_left', exists_eq_left, List.set_cons_zero, List.set_cons_succ, true_and, and_true, HO.lst.injEq, HO.tup.injEq, exists_and_left, exists_eq, exists_eq', Br.t, Br.f, Be.t, Be.f, List.cons.injEq, List.append_nil, scal, if_true, if_false, ite_true, ite_false, eq_self_iff_true, decide_true, decide_false, Bool.not_true, Bool.not_false, reduceIte, List.nil_append, List.cons_append, reduceCtorEq, false_and, exists_false, false_or, or_false, Int.reduceLT, ral, rsq, rlu, rdp, Bool.true_or, Bool.false_or, Bool.or_false, Bool.or_true]
  refine ⟨wide9, _, _, rfl, p, _, rfl, hw1, rfl, by decide, by decide, fun y H0 y0 y1 hw2 he2 => ?_⟩
  obtain ⟨z0, z1, z2, hp⟩ := id hw2
  simp only [and_assoc, rst, rs, re, ra, rq, rx, ro, rl, rl2, rsp, rz, rix, rln, rg, rd, ri, rv, rk, rdd, rwi, at0, at1, at2, at3, upd_at, List.getElem?_cons_zero, List.getElem?_cons_succ, Option.some.injEq, exists_eq_left', exists_eq_left, List.set_cons_zero, List.set_cons_succ, true_and, and_true, HO.lst.injEq, HO.tup.injEq, exists_and_left, exists_eq, exists_eq', Br.t, Br.f, Be.t, Be.f, List.cons.injEq, List.append_nil, scal, if_true, if_false, ite_true, ite_false, eq_self_iff_true, decide_true, decide_false, Bool.not_true, Bool.not_false, reduceIte, List.nil_append, List.cons_append, reduceCtorEq, false_and, exists_false, false_or, or_false, Int.reduceLT, ral, rsq, rlu, rdp, Bool.true_or, Bool.false_or, Bool.or_false, Bool.or_true]
  intro p1 H1 a1
  refine ⟨?_, fun p2 H2 a2 p3 H3 a3 p4 H4 a4 => ⟨wide29, fun p5 H5 a5 => ⟨_, (Al.k a5 (Al.k a4 (Al.k a3 (Al.k a2 (Al.e a1))))), _, a5.e, by rw [sizeLine_eq]; simp, fun p6 H6 a6 => ⟨_, a6.e, _, rfl, ?_⟩⟩⟩⟩
  · refine Nat.lt_of_lt_of_le (PySem.Flt.log2_lt_of (k := 100) (by decide) ?_) (by decide)
    split <;> omega
  have w1 := (wo_at (H := H6) (a1.ne hp)).trans (Al.k a6 (Al.k a5 (Al.k a4 (Al.k a3 (Al.k a2 (Al.e a1))))))
  have w2 := (wo_at (H := H6) (a2.ne (Al.k a1 hp))).trans (Al.k a6 (Al.k a5 (Al.k a4 (Al.k a3 (Al.e a2)))))
  have w3 := (wo_at (H := H6) (a3.ne (Al.k a2 (Al.k a1 hp)))).trans (Al.k a6 (Al.k a5 (Al.k a4 (Al.e a3))))
  have w4 := (wo_at (H := H6) (a4.ne (Al.k a3 (Al.k a2 (Al.k a1 hp))))).trans (Al.k a6 (Al.k a5 (Al.e a4)))
  have w5 := (wo_at (H := H6) (a5.ne (Al.k a4 (Al.k a3 (Al.k a2 (Al.k a1 hp)))))).trans (Al.k a6 (Al.e a5))
  have w6 := (wo_at (H := H6) (a6.ne (Al.k a5 (Al.k a4 (Al.k a3 (Al.k a2 (Al.k a1 hp))))))).trans (Al.e a6)
  refine ⟨_, _, rfl, p, _, rfl, Well.same (Same.trans a1.s (Same.trans a2.s (Same.trans a3.s (Same.trans a4.s (Same.trans a5.s (a6.s)))))) hw2, rfl, by simp, by simp, fun r H7 r0 r1 hw3 he => ?_⟩
  obtain ⟨v, hv, hm⟩ := at_mem r0 r1
  have W := ((Wl.draw hw1 he1).trans (Wl.draw hw2 he2)).trans ((Wl.of_same hw2 (Same.trans a1.s (Same.trans a2.s (Same.trans a3.s (Same.trans a4.s (Same.trans a5.s (a6.s))))))).trans (Wl.draw hw3 he))
  have good : BadN (wo p H6) l v := by
    simp only [List.cons_append, List.nil_append, List.mem_cons, List.not_mem_nil, or_false] at hm
    have r29 : (10 : Int) ^ (29 : Int).toNat = 10 ^ 29 := rfl
    rcases hm with rfl | rfl | rfl | rfl | rfl | rfl | rfl | rfl | rfl | rfl | rfl | rfl
    · exact ⟨.inl (.inl rfl), fun z e => .inr (by cases e; omega)⟩
    · exact ⟨.inl (.inl rfl), fun z e => .inr (by cases e; omega)⟩
    · exact ⟨.inl (.inl rfl), fun z e => .inl (by cases e; omega)⟩
    · exact ⟨.inl (.inl rfl), fun z e => .inl (by cases e; omega)⟩
    · exact ⟨.inl (.inl rfl), fun z e => by cases e⟩
    · exact ⟨.inl (.inl rfl), fun z e => by cases e⟩
    · exact ⟨.inl (.inl rfl), fun z e => by cases e⟩
    · exact ⟨.inl (.inl (flat_str _)), fun z e => by cases e⟩
    · exact ⟨.inl (.inr ⟨p2, _, rfl, .inl w2, all_flat rfl, by simp⟩), fun z e => by cases e⟩
    · exact ⟨.inl (.inr ⟨p3, _, rfl, .inr w3, all_flat rfl, by simp⟩), fun z e => by cases e⟩
    · exact ⟨.inr (.inr ⟨p4, rfl, w4⟩), fun z e => by cases e⟩
    · exact ⟨.inl (.inl rfl), fun z e => .inr (by cases e; rw [r29]; omega)⟩
  have good : BadN (wo p H7) l v := ⟨good.1.same (Wl.draw hw3 he).2, good.2⟩
  simp only [and_assoc, rst, rs, re, ra, rq, rx, ro, rl, rl2, rsp, rz, rix, rln, rg, rd, ri, rv, rk, rdd, rwi, at0, at1, at2, at3, upd_at, List.getElem?_cons_zero, List.getElem?_cons_succ, Option.some.injEq, exists_eq_left', exists_eq_left, List.set_cons_zero, List.set_cons_succ, true_and, and_true, HO.lst.injEq, HO.tup.injEq, exists_and_left, exists_eq, exists_eq', Br.t, Br.f, Be.t, Be.f, List.cons.injEq, List.append_nil, scal, if_true, if_false, ite_true, ite_false, eq_self_iff_true, decide_true, decide_false, Bool.not_true, Bool.not_false, reduceIte, List.nil_append, List.cons_append, reduceCtorEq, false_and, exists_false, false_or, or_false, Int.reduceLT, ral, rsq, rlu, rdp, Bool.true_or, Bool.false_or, Bool.or_false, Bool.or_true]
  exact ⟨_, (he _ (a6.ne (Al.k a5 (Al.k a4 (Al.k a3 (Al.k a2 (Al.k a1 hp))))))).trans a6.e, _, rfl, v, hv, q v _ W good⟩
theorem sh_zero {xs : List V} (h : (xs.map numV).sum = 0) : shL xs = false := by
  rw [shL, h]
  simp
theorem sh_not {xs : List V} {x : V} (h : x ∈ xs) (k : within x 0 1000000 = false) : shL xs = false := by
  rw [shL, show decide (∀ x ∈ xs, within x 0 1000000 = true) = false from decide_eq_false fun z => (by rw [z x h] at k; cases k), Bool.false_and, Bool.and_false]
theorem sh_long {xs : List V} (h : 60 < xs.length) : shL xs = false := by
  rw [shL, show decide (1 ≤ xs.length ∧ xs.length ≤ 60) = false from decide_eq_false (by omega), Bool.false_and]
theorem ok__law_bad_shares (T : Tx K mg w) (c__law_draw : Cal P w K mg base 1 "_law_draw" ["well", "many"] (sp__law_draw K))  : Cal P w K mg base 2 "_law_bad_shares" ["well"] (sp__law_bad_shares K) := by
  refine cal_mk T.F__law_bad_shares T.g__law_bad_shares sc__law_bad_shares (len1 _) (fun _ _ _ _ _ _ us hl => match us, hl with | [_], _ => rfl) (fun cdv A outer s H vs Q E hr h => ?_)
  obtain ⟨v0, rfl, h⟩ := h
  have hu := hu_of hr
  refine ⟨_, (pss_cons (ps_set (i := 1) sc__law_bad_shares.nd rfl (Or.inl rfl) (pe_lstA (pa_cons (pe_lstA pa_nil) (pa_cons (pe_tupA pa_nil) (pa_cons (pe_lstA (pa_cons pe_int pa_nil)) (pa_cons (pe_lstA (pa_cons pe_int (pa_cons pe_int (pa_cons pe_int pa_nil)))) (pa_cons (pe_op op_repAl (pe_lstA (pa_cons pe_int pa_nil)) pe_int) (pa_cons (pe_lstA (pa_cons pe_int (pa_cons pe_int pa_nil))) (pa_cons (pe_lstA (pa_cons pe_int (pa_cons (pe_un un_neg pe_int) pa_nil))) (pa_cons (pe_lstA (pa_cons pe_int (pa_cons pe_bl pa_nil))) (pa_cons (pe_lstA (pa_cons pe_int (pa_cons pe_non pa_nil))) (pa_cons pe_str (pa_cons pe_non (pa_cons pe_int (pa_cons pe_dnewA (pa_cons (pe_lstA (pa_cons (pe_lstA (pa_cons pe_int pa_nil)) pa_nil)) pa_nil))))))))))))))))
      (pss_cons (ps_set (i := 1) sc__law_bad_shares.nd rfl (Or.inl rfl) (pe_op op_catAl (pv 1) (pe_lstA (pa_cons (pe_op op_repTAl (pe_tupA (pa_cons pe_int pa_nil)) pe_int) (pa_cons (pe_tupA (pa_cons pe_int (pa_cons pe_int pa_nil))) pa_nil)))))
      (pss_one (ps_ret (pe_ix ix_q (pv 1) (pe_cal c__law_draw hr (by decide) passL rfl (pa_cons (pv 0) (pa_cons (pe_callB len_q (by rfl) T.n_len (by decide +kernel) (pa_cons (pv 1) pa_nil)) pa_nil))) (fun _ _ => rfl)))))), ?_⟩
  obtain ⟨p, rfl, hw, q⟩ := h
  obtain ⟨z0, z1, z2, hp⟩ := id hw
  simp only [and_assoc, rst, rs, re, ra, rq, rx, ro, rl, rl2, rsp, rz, rix, rln, rg, rd, ri, rv, rk, rdd, rwi, at0, at1, at2, at3, upd_at, List.getElem?_cons_zero, List.getElem?_cons_succ, Option.some.injEq, exists_eq_left', exists_eq_left, List.set_cons_zero, List.set_cons_succ, true_and, and_true, HO.lst.injEq, HO.tup.injEq, exists_and_left, exists_eq, exists_eq', Br.t, Br.f, Be.t, Be.f, List.cons.injEq, List.append_nil, scal, if_true, if_false, ite_true, ite_false, eq_self_iff_true, decide_true, decide_false, Bool.not_true, Bool.not_false, reduceIte, List.nil_append, List.cons_append, reduceCtorEq, false_and, exists_false, false_or, or_false, Int.reduceLT, ral, rsq, rlu, rdp, Bool.true_or, Bool.false_or, Bool.or_false, Bool.or_true]
  intro p1 H1 a1 p2 H2 a2 p3 H3 a3 p4 H4 a4 p5 H5 a5
  refine ⟨_, a5.e, by decide, by decide, by rw [sizeLine_eq]; decide, fun p6 H6 a6 p7 H7 a7 p8 H8 a8 p9 H9 a9 p10 H10 a10 p11 H11 a11 p12 H12 a12 p13 H13 a13 => ⟨by rw [sizeLine_eq]; simp, fun p14 H14 a14 p15 H15 a15 => ?_⟩⟩
  refine ⟨_, SqT.of a15.e, by simp, by decide, by decide, by simp, fun p16 H16 a16 p17 H17 a17 p18 H18 a18 => ⟨_, (Al.k a18 (Al.k a17 (Al.k a16 (Al.k a15 (Al.e a14))))), _, a18.e, by rw [sizeLine_eq]; simp, fun p19 H19 a19 => ⟨_, a19.e, _, rfl, ?_⟩⟩⟩
  have w1 := (wo_at (H := H19) (a1.ne hp)).trans (Al.k a19 (Al.k a18 (Al.k a17 (Al.k a16 (Al.k a15 (Al.k a14 (Al.k a13 (Al.k a12 (Al.k a11 (Al.k a10 (Al.k a9 (Al.k a8 (Al.k a7 (Al.k a6 (Al.k a5 (Al.k a4 (Al.k a3 (Al.k a2 (Al.e a1)))))))))))))))))))
  have w2 := (wo_at (H := H19) (a2.ne (Al.k a1 hp))).trans (Al.k a19 (Al.k a18 (Al.k a17 (Al.k a16 (Al.k a15 (Al.k a14 (Al.k a13 (Al.k a12 (Al.k a11 (Al.k a10 (Al.k a9 (Al.k a8 (Al.k a7 (Al.k a6 (Al.k a5 (Al.k a4 (Al.k a3 (Al.e a2))))))))))))))))))
  have w3 := (wo_at (H := H19) (a3.ne (Al.k a2 (Al.k a1 hp)))).trans (Al.k a19 (Al.k a18 (Al.k a17 (Al.k a16 (Al.k a15 (Al.k a14 (Al.k a13 (Al.k a12 (Al.k a11 (Al.k a10 (Al.k a9 (Al.k a8 (Al.k a7 (Al.k a6 (Al.k a5 (Al.k a4 (Al.e a3)))))))))))))))))
  have w4 := (wo_at (H := H19) (a4.ne (Al.k a3 (Al.k a2 (Al.k a1 hp))))).trans (Al.k a19 (Al.k a18 (Al.k a17 (Al.k a16 (Al.k a15 (Al.k a14 (Al.k a13 (Al.k a12 (Al.k a11 (Al.k a10 (Al.k a9 (Al.k a8 (Al.k a7 (Al.k a6 (Al.k a5 (Al.e a4))))))))))))))))
  have w5 := (wo_at (H := H19) (a5.ne (Al.k a4 (Al.k a3 (Al.k a2 (Al.k a1 hp)))))).trans (Al.k a19 (Al.k a18 (Al.k a17 (Al.k a16 (Al.k a15 (Al.k a14 (Al.k a13 (Al.k a12 (Al.k a11 (Al.k a10 (Al.k a9 (Al.k a8 (Al.k a7 (Al.k a6 (Al.e a5)))))))))))))))
  have w6 := (wo_at (H := H19) (a6.ne (Al.k a5 (Al.k a4 (Al.k a3 (Al.k a2 (Al.k a1 hp))))))).trans (Al.k a19 (Al.k a18 (Al.k a17 (Al.k a16 (Al.k a15 (Al.k a14 (Al.k a13 (Al.k a12 (Al.k a11 (Al.k a10 (Al.k a9 (Al.k a8 (Al.k a7 (Al.e a6))))))))))))))
  have w7 := (wo_at (H := H19) (a7.ne (Al.k a6 (Al.k a5 (Al.k a4 (Al.k a3 (Al.k a2 (Al.k a1 hp)))))))).trans (Al.k a19 (Al.k a18 (Al.k a17 (Al.k a16 (Al.k a15 (Al.k a14 (Al.k a13 (Al.k a12 (Al.k a11 (Al.k a10 (Al.k a9 (Al.k a8 (Al.e a7)))))))))))))
  have w8 := (wo_at (H := H19) (a8.ne (Al.k a7 (Al.k a6 (Al.k a5 (Al.k a4 (Al.k a3 (Al.k a2 (Al.k a1 hp))))))))).trans (Al.k a19 (Al.k a18 (Al.k a17 (Al.k a16 (Al.k a15 (Al.k a14 (Al.k a13 (Al.k a12 (Al.k a11 (Al.k a10 (Al.k a9 (Al.e a8))))))))))))
  have w9 := (wo_at (H := H19) (a9.ne (Al.k a8 (Al.k a7 (Al.k a6 (Al.k a5 (Al.k a4 (Al.k a3 (Al.k a2 (Al.k a1 hp)))))))))).trans (Al.k a19 (Al.k a18 (Al.k a17 (Al.k a16 (Al.k a15 (Al.k a14 (Al.k a13 (Al.k a12 (Al.k a11 (Al.k a10 (Al.e a9)))))))))))
  have w10 := (wo_at (H := H19) (a10.ne (Al.k a9 (Al.k a8 (Al.k a7 (Al.k a6 (Al.k a5 (Al.k a4 (Al.k a3 (Al.k a2 (Al.k a1 hp))))))))))).trans (Al.k a19 (Al.k a18 (Al.k a17 (Al.k a16 (Al.k a15 (Al.k a14 (Al.k a13 (Al.k a12 (Al.k a11 (Al.e a10))))))))))
  have w11 := (wo_at (H := H19) (a11.ne (Al.k a10 (Al.k a9 (Al.k a8 (Al.k a7 (Al.k a6 (Al.k a5 (Al.k a4 (Al.k a3 (Al.k a2 (Al.k a1 hp)))))))))))).trans (Al.k a19 (Al.k a18 (Al.k a17 (Al.k a16 (Al.k a15 (Al.k a14 (Al.k a13 (Al.k a12 (Al.e a11)))))))))
  have w12 := (wo_at (H := H19) (a12.ne (Al.k a11 (Al.k a10 (Al.k a9 (Al.k a8 (Al.k a7 (Al.k a6 (Al.k a5 (Al.k a4 (Al.k a3 (Al.k a2 (Al.k a1 hp))))))))))))).trans (Al.k a19 (Al.k a18 (Al.k a17 (Al.k a16 (Al.k a15 (Al.k a14 (Al.k a13 (Al.e a12))))))))
  have w13 := (wo_at (H := H19) (a13.ne (Al.k a12 (Al.k a11 (Al.k a10 (Al.k a9 (Al.k a8 (Al.k a7 (Al.k a6 (Al.k a5 (Al.k a4 (Al.k a3 (Al.k a2 (Al.k a1 hp)))))))))))))).trans (Al.k a19 (Al.k a18 (Al.k a17 (Al.k a16 (Al.k a15 (Al.k a14 (Al.e a13)))))))
  have w14 := (wo_at (H := H19) (a14.ne (Al.k a13 (Al.k a12 (Al.k a11 (Al.k a10 (Al.k a9 (Al.k a8 (Al.k a7 (Al.k a6 (Al.k a5 (Al.k a4 (Al.k a3 (Al.k a2 (Al.k a1 hp))))))))))))))).trans (Al.k a19 (Al.k a18 (Al.k a17 (Al.k a16 (Al.k a15 (Al.e a14))))))
  have w15 := (wo_at (H := H19) (a15.ne (Al.k a14 (Al.k a13 (Al.k a12 (Al.k a11 (Al.k a10 (Al.k a9 (Al.k a8 (Al.k a7 (Al.k a6 (Al.k a5 (Al.k a4 (Al.k a3 (Al.k a2 (Al.k a1 hp)))))))))))))))).trans (Al.k a19 (Al.k a18 (Al.k a17 (Al.k a16 (Al.e a15)))))
  have w16 := (wo_at (H := H19) (a16.ne (Al.k a15 (Al.k a14 (Al.k a13 (Al.k a12 (Al.k a11 (Al.k a10 (Al.k a9 (Al.k a8 (Al.k a7 (Al.k a6 (Al.k a5 (Al.k a4 (Al.k a3 (Al.k a2 (Al.k a1 hp))))))))))))))))).trans (Al.k a19 (Al.k a18 (Al.k a17 (Al.e a16))))
  have w17 := (wo_at (H := H19) (a17.ne (Al.k a16 (Al.k a15 (Al.k a14 (Al.k a13 (Al.k a12 (Al.k a11 (Al.k a10 (Al.k a9 (Al.k a8 (Al.k a7 (Al.k a6 (Al.k a5 (Al.k a4 (Al.k a3 (Al.k a2 (Al.k a1 hp)))))))))))))))))).trans (Al.k a19 (Al.k a18 (Al.e a17)))
  have w18 := (wo_at (H := H19) (a18.ne (Al.k a17 (Al.k a16 (Al.k a15 (Al.k a14 (Al.k a13 (Al.k a12 (Al.k a11 (Al.k a10 (Al.k a9 (Al.k a8 (Al.k a7 (Al.k a6 (Al.k a5 (Al.k a4 (Al.k a3 (Al.k a2 (Al.k a1 hp))))))))))))))))))).trans (Al.k a19 (Al.e a18))
  have w19 := (wo_at (H := H19) (a19.ne (Al.k a18 (Al.k a17 (Al.k a16 (Al.k a15 (Al.k a14 (Al.k a13 (Al.k a12 (Al.k a11 (Al.k a10 (Al.k a9 (Al.k a8 (Al.k a7 (Al.k a6 (Al.k a5 (Al.k a4 (Al.k a3 (Al.k a2 (Al.k a1 hp)))))))))))))))))))).trans (Al.e a19)
  refine ⟨_, _, rfl, p, _, rfl, Well.same (Same.trans a1.s (Same.trans a2.s (Same.trans a3.s (Same.trans a4.s (Same.trans a5.s (Same.trans a6.s (Same.trans a7.s (Same.trans a8.s (Same.trans a9.s (Same.trans a10.s (Same.trans a11.s (Same.trans a12.s (Same.trans a13.s (Same.trans a14.s (Same.trans a15.s (Same.trans a16.s (Same.trans a17.s (Same.trans a18.s (a19.s))))))))))))))))))) hw, rfl, by simp, by simp, fun r H20 r0 r1 hw3 he => ?_⟩
  obtain ⟨v, hv, hm⟩ := at_mem r0 r1
  have W := (Wl.of_same hw (Same.trans a1.s (Same.trans a2.s (Same.trans a3.s (Same.trans a4.s (Same.trans a5.s (Same.trans a6.s (Same.trans a7.s (Same.trans a8.s (Same.trans a9.s (Same.trans a10.s (Same.trans a11.s (Same.trans a12.s (Same.trans a13.s (Same.trans a14.s (Same.trans a15.s (Same.trans a16.s (Same.trans a17.s (Same.trans a18.s (a19.s)))))))))))))))))))).trans (Wl.draw hw3 he)
  have good : Bad shL (wo p H19) v := by
    simp only [List.cons_append, List.nil_append, List.mem_cons, List.not_mem_nil, or_false] at hm
    rcases hm with rfl | rfl | rfl | rfl | rfl | rfl | rfl | rfl | rfl | rfl | rfl | rfl | rfl | rfl | rfl | rfl
    · exact bad_l w1 rfl (by simp) (by rfl)
    · exact bad_t w2 rfl (by simp) (by rfl)
    · exact bad_l w3 rfl (by simp) (sh_zero rfl)
    · exact bad_l w4 rfl (by simp) (sh_zero rfl)
    · exact bad_l w6 rfl (by simp) (sh_long (by simp))
    · exact bad_l w7 rfl (by simp) (sh_not (x := .int 1000001) (by simp) (by decide))
    · exact bad_l w8 rfl (by simp) (sh_not (x := .int (-1)) (by simp) (by decide))
    · exact bad_l w9 rfl (by simp) (sh_not (x := .bl true) (by simp) (by decide))
    · exact bad_l w10 rfl (by simp) (sh_not (x := .non) (by simp) (by decide))
    · exact bad_f (flat_str _)
    · exact bad_f rfl
    · exact bad_f rfl
    · exact bad_d w11
    · exact bad_n w13 w12 rfl (by simp) (sh_not (x := .ref p12) (by simp) rfl)
    · exact bad_t w16 rfl (by simp) (sh_long (by simp))
    · exact bad_t w17 rfl (by simp) (sh_zero rfl)
  have good := good.same (Wl.draw hw3 he).2
  simp only [and_assoc, rst, rs, re, ra, rq, rx, ro, rl, rl2, rsp, rz, rix, rln, rg, rd, ri, rv, rk, rdd, rwi, at0, at1, at2, at3, upd_at, List.getElem?_cons_zero, List.getElem?_cons_succ, Option.some.injEq, exists_eq_left', exists_eq_left, List.set_cons_zero, List.set_cons_succ, true_and, and_true, HO.lst.injEq, HO.tup.injEq, exists_and_left, exists_eq, exists_eq', Br.t, Br.f, Be.t, Be.f, List.cons.injEq, List.append_nil, scal, if_true, if_false, ite_true, ite_false, eq_self_iff_true, decide_true, decide_false, Bool.not_true, Bool.not_false, reduceIte, List.nil_append, List.cons_append, reduceCtorEq, false_and, exists_false, false_or, or_false, Int.reduceLT, ral, rsq, rlu, rdp, Bool.true_or, Bool.false_or, Bool.or_false, Bool.or_true]
  exact ⟨_, (he _ (a19.ne (Al.k a18 (Al.k a17 (Al.k a16 (Al.k a15 (Al.k a14 (Al.k a13 (Al.k a12 (Al.k a11 (Al.k a10 (Al.k a9 (Al.k a8 (Al.k a7 (Al.k a6 (Al.k a5 (Al.k a4 (Al.k a3 (Al.k a2 (Al.k a1 hp)))))))))))))))))))).trans a19.e, _, rfl, v, hv, q v _ W good.1 good.2⟩
end
end Law

-- RDX ral, rsq, rlu, rdp, Bool.true_or, Bool.false_or, Bool.or_false, Bool.or_true
set_option pp.deepTerms true
set_option pp.maxSteps 100000
namespace Law
open PySem PySem.Spec PyProof.Rows L2 Sw
section
variable {P : Program} {w : World} {K : Fg} {mg : Str → Option Value} {base : Heap}
theorem atI_neg1 {xs : List V} (h : 0 < xs.length) : atI xs (-1) = xs[xs.length - 1]? := by
  unfold atI ixN
  rw [if_neg (by decide), if_pos (by omega)]
  show xs[((-1 : Int) + (xs.length : Int)).toNat]? = _
  rw [show ((-1 : Int) + (xs.length : Int)).toNat = xs.length - 1 by omega]
theorem ord_not {xs : List V} {x : V} (h : x ∈ xs) (k : within x 0 ((xs.length : Int) - 1) = false) : ordL xs = false := decide_eq_false fun z => by
  rw [z.2.1 x h] at k
  cases k
theorem ord_long {xs : List V} (h : 60 < xs.length) : ordL xs = false := decide_eq_false fun z => by omega
theorem ord_dup {xs : List V} (h : ¬ xs.Nodup) : ordL xs = false := decide_eq_false fun z => h z.2.2
theorem cut_take {xs : List V} {k : Nat} (h : k < xs.length) : cutV xs none (some (k : Int)) = xs.take k := by
  unfold cutV
  rw [HT.sIx_none, HT.sIx_nat, List.drop_zero, Nat.min_eq_left (by omega), Nat.sub_zero]
theorem cut_drop {xs : List V} {k : Nat} (h : k < xs.length) : cutV xs (some ((k : Int) + 1)) none = xs.drop (k + 1) := by
  unfold cutV
  rw [HT.sIx_none, show (k : Int) + 1 = ((k + 1 : Nat) : Int) by omega, HT.sIx_nat, Nat.min_eq_left (by omega)]
  exact List.take_of_length_le (by rw [List.length_drop]; omega)
theorem ok__law_bad_order (T : Tx K mg w) (c__law_draw : Cal P w K mg base 1 "_law_draw" ["well", "many"] (sp__law_draw K)) (c__law_order : Cal P w K mg base 2 "_law_order" ["well", "many"] (sp__law_order K))  : Cal P w K mg base 3 "_law_bad_order" ["well"] (sp__law_bad_order K) := by
  refine cal_mk T.F__law_bad_order T.g__law_bad_order sc__law_bad_order (len1 _) (fun _ _ _ _ _ _ us hl => match us, hl with | [_], _ => rfl) (fun cdv A outer s H vs Q E hr h => ?_)
  obtain ⟨v0, rfl, h⟩ := h
  have hu := hu_of hr
  refine ⟨_, (pss_cons (ps_set (i := 1) sc__law_bad_order.nd rfl (Or.inl rfl) (pe_op op_add pe_int (pe_cal c__law_draw hr (by decide) passL rfl (pa_cons (pv 0) (pa_cons pe_int pa_nil)))))
      (pss_cons (ps_set (i := 2) sc__law_bad_order.nd rfl (Or.inl rfl) (pe_cal c__law_order hr (by decide) passL rfl (pa_cons (pv 0) (pa_cons (pv 1) pa_nil))))
      (pss_cons (ps_set (i := 3) sc__law_bad_order.nd rfl (Or.inl rfl) (pe_cal c__law_draw hr (by decide) passL rfl (pa_cons (pv 0) (pa_cons (pv 1) pa_nil))))
      (pss_cons (ps_set (i := 4) sc__law_bad_order.nd rfl (Or.inl rfl) (pe_slice sl_listAl (pv 2) po_none (po_some (pv 3))))
      (pss_cons (ps_set (i := 5) sc__law_bad_order.nd rfl (Or.inl rfl) (pe_slice sl_listAl (pv 2) (po_some (pe_op op_add (pv 3) pe_int)) po_none))
      (pss_cons (ps_set (i := 6) sc__law_bad_order.nd rfl (Or.inl rfl) (pe_lstA (pa_cons (pe_op op_catAl (pv 2) (pe_lstA (pa_cons (pe_ix ix_q (pv 2) (pv 3) (fun _ _ => rfl)) pa_nil))) (pa_cons (pe_op op_catAl (pe_op op_catAl (pv 4) (pe_lstA (pa_cons (pv 1) pa_nil))) (pv 5)) (pa_cons (pe_op op_catAl (pv 2) (pe_lstA (pa_cons (pe_un un_neg pe_int) pa_nil))) (pa_cons (pe_op op_catAl (pv 2) (pe_lstA (pa_cons pe_non pa_nil))) (pa_cons (pe_op op_catAl (pv 2) (pe_lstA (pa_cons (pe_callTy call_str_int (by rfl) T.n_str (by decide +kernel) (pa_cons (pv 1) pa_nil)) pa_nil))) pa_nil)))))))
      (pss_cons (ps_set (i := 6) sc__law_bad_order.nd rfl (Or.inl rfl) (pe_op op_catAl (pv 6) (pe_lstA (pa_cons (pe_op op_catAl (pe_op op_catAl (pe_op op_catAl (pv 4) (pe_lstA (pa_cons (pe_ix ix_q (pv 2) (pe_op op_sub (pv 3) pe_int) (fun _ _ => rfl)) pa_nil))) (pv 5)) (pe_lstA (pa_cons (pv 1) pa_nil))) (pa_cons (pe_listRgA rfl (by rfl) T.n_list (prg_1 (by rfl) T.n_range pe_int)) (pa_cons pe_str (pa_cons pe_str (pa_cons pe_non (pa_cons pe_int (pa_cons pe_bl (pa_cons pe_dnewA pa_nil)))))))))))
      (pss_cons (ps_set (i := 6) sc__law_bad_order.nd rfl (Or.inl rfl) (pe_op op_catAl (pv 6) (pe_lstA (pa_cons (pe_lstA (pa_cons pe_bl pa_nil)) (pa_cons (pe_tupA (pa_cons pe_bl (pa_cons pe_bl pa_nil))) (pa_cons (pe_lstA (pa_cons (pe_lstA (pa_cons pe_int pa_nil)) pa_nil)) (pa_cons (pe_lstA (pa_cons (pv 2) pa_nil)) (pa_cons (pe_op op_catAl (pe_op op_catAl (pe_op op_catAl (pv 4) (pe_lstA (pa_cons pe_bl pa_nil))) (pv 5)) (pe_lstA (pa_cons (pv 1) pa_nil))) (pa_cons (pe_tupRgA rfl (by rfl) T.n_tuple (prg_1 (by rfl) T.n_range pe_int)) pa_nil)))))))))
      (pss_one (ps_ret (pe_ix ix_q (pv 6) (pe_cal c__law_draw hr (by decide) passL rfl (pa_cons (pv 0) (pa_cons (pe_callB len_q (by rfl) T.n_len (by decide +kernel) (pa_cons (pv 6) pa_nil)) pa_nil))) (fun _ _ => rfl)))))))))))), ?_⟩
  obtain ⟨p, rfl, hw, q⟩ := h
  refine seqI fun r hr => ?_
  simp only [and_assoc, rst, rs, re, ra, rq, rx, ro, rl, rl2, rsp, rz, rix, rln, rg, rd, ri, rv, rk, rdd, rwi, at0, at1, at2, at3, upd_at, List.getElem?_cons_zero, List.getElem?_cons_succ, Option.some.injEq, exists_eq_left', exists_eq_left, List.set_cons_zero, List.set_cons_succ, true_and, and_true, HO.lst.injEq, HO.tup.injEq, exists_and_left, exists_eq, exists_eq', Br.t, Br.f, Be.t, Be.f, List.cons.injEq, List.append_nil, scal, if_true, if_false, ite_true, ite_false, eq_self_iff_true, decide_true, decide_false, Bool.not_true, Bool.not_false, reduceIte, List.nil_append, List.cons_append, reduceCtorEq, false_and, exists_false, false_or, or_false, Int.reduceLT, ral, rsq, rlu, rdp, Bool.true_or, Bool.false_or, Bool.or_false, Bool.or_true]
  refine ⟨_, _, rfl, p, _, rfl, hw, rfl, by decide, by decide, fun m0 K1 m1 m2 hw1 he1 => ?_⟩
  simp only [and_assoc, rst, rs, re, ra, rq, rx, ro, rl, rl2, rsp, rz, rix, rln, rg, rd, ri, rv, rk, rdd, rwi, at0, at1, at2, at3, upd_at, List.getElem?_cons_zero, List.getElem?_cons_succ, Option.some.injEq, exists_eq_left', exists_eq_left, List.set_cons_zero, List.set_cons_succ, true_and, and_true, HO.lst.injEq, HO.tup.injEq, exists_and_left, exists_eq, exists_eq', Br.t, Br.f, Be.t, Be.f, List.cons.injEq, List.append_nil, scal, if_true, if_false, ite_true, ite_false, eq_self_iff_true, decide_true, decide_false, Bool.not_true, Bool.not_false, reduceIte, List.nil_append, List.cons_append, reduceCtorEq, false_and, exists_false, false_or, or_false, Int.reduceLT, ral, rsq, rlu, rdp, Bool.true_or, Bool.false_or, Bool.or_false, Bool.or_true]
  subst hr
  refine seqI fun r hr => ?_
  simp only [and_assoc, rst, rs, re, ra, rq, rx, ro, rl, rl2, rsp, rz, rix, rln, rg, rd, ri, rv, rk, rdd, rwi, at0, at1, at2, at3, upd_at, List.getElem?_cons_zero, List.getElem?_cons_succ, Option.some.injEq, exists_eq_left', exists_eq_left, List.set_cons_zero, List.set_cons_succ, true_and, and_true, HO.lst.injEq, HO.tup.injEq, exists_and_left, exists_eq, exists_eq', Br.t, Br.f, Be.t, Be.f, List.cons.injEq, List.append_nil, scal, if_true, if_false, ite_true, ite_false, eq_self_iff_true, decide_true, decide_false, Bool.not_true, Bool.not_false, reduceIte, List.nil_append, List.cons_append, reduceCtorEq, false_and, exists_false, false_or, or_false, Int.reduceLT, ral, rsq, rlu, rdp, Bool.true_or, Bool.false_or, Bool.or_false, Bool.or_true]
  refine ⟨_, _, rfl, p, (2 + m0.toNat), rfl, hw1, by rw [show ((2 + m0.toNat : Nat) : Int) = 2 + m0 by omega], by omega, fun l ms H0 wl fl hl pm => ?_⟩
  simp only [and_assoc, rst, rs, re, ra, rq, rx, ro, rl, rl2, rsp, rz, rix, rln, rg, rd, ri, rv, rk, rdd, rwi, at0, at1, at2, at3, upd_at, List.getElem?_cons_zero, List.getElem?_cons_succ, Option.some.injEq, exists_eq_left', exists_eq_left, List.set_cons_zero, List.set_cons_succ, true_and, and_true, HO.lst.injEq, HO.tup.injEq, exists_and_left, exists_eq, exists_eq', Br.t, Br.f, Be.t, Be.f, List.cons.injEq, List.append_nil, scal, if_true, if_false, ite_true, ite_false, eq_self_iff_true, decide_true, decide_false, Bool.not_true, Bool.not_false, reduceIte, List.nil_append, List.cons_append, reduceCtorEq, false_and, exists_false, false_or, or_false, Int.reduceLT, ral, rsq, rlu, rdp, Bool.true_or, Bool.false_or, Bool.or_false, Bool.or_true]
  subst hr
  refine seqI fun r hr => ?_
  simp only [and_assoc, rst, rs, re, ra, rq, rx, ro, rl, rl2, rsp, rz, rix, rln, rg, rd, ri, rv, rk, rdd, rwi, at0, at1, at2, at3, upd_at, List.getElem?_cons_zero, List.getElem?_cons_succ, Option.some.injEq, exists_eq_left', exists_eq_left, List.set_cons_zero, List.set_cons_succ, true_and, and_true, HO.lst.injEq, HO.tup.injEq, exists_and_left, exists_eq, exists_eq', Br.t, Br.f, Be.t, Be.f, List.cons.injEq, List.append_nil, scal, if_true, if_false, ite_true, ite_false, eq_self_iff_true, decide_true, decide_false, Bool.not_true, Bool.not_false, reduceIte, List.nil_append, List.cons_append, reduceCtorEq, false_and, exists_false, false_or, or_false, Int.reduceLT, ral, rsq, rlu, rdp, Bool.true_or, Bool.false_or, Bool.or_false, Bool.or_true]
  refine ⟨_, _, rfl, p, _, rfl, wl.1, rfl, by omega, by omega, fun t G0 t0 t1 hw2 he2 => ?_⟩
  simp only [and_assoc, rst, rs, re, ra, rq, rx, ro, rl, rl2, rsp, rz, rix, rln, rg, rd, ri, rv, rk, rdd, rwi, at0, at1, at2, at3, upd_at, List.getElem?_cons_zero, List.getElem?_cons_succ, Option.some.injEq, exists_eq_left', exists_eq_left, List.set_cons_zero, List.set_cons_succ, true_and, and_true, HO.lst.injEq, HO.tup.injEq, exists_and_left, exists_eq, exists_eq', Br.t, Br.f, Be.t, Be.f, List.cons.injEq, List.append_nil, scal, if_true, if_false, ite_true, ite_false, eq_self_iff_true, decide_true, decide_false, Bool.not_true, Bool.not_false, reduceIte, List.nil_append, List.cons_append, reduceCtorEq, false_and, exists_false, false_or, or_false, Int.reduceLT, ral, rsq, rlu, rdp, Bool.true_or, Bool.false_or, Bool.or_false, Bool.or_true]
  subst hr
  obtain ⟨k, rfl⟩ : ∃ k : Nat, t = (k : Int) := ⟨t.toNat, by omega⟩
  obtain ⟨z0, z1, z2, hp⟩ := id hw2
  have lm : ms.length = 2 + m0.toNat := by rw [pm.length_eq, List.length_map, List.length_range]
  have kl : k < ms.length := by omega
  have nl : l ≠ p := fun e => by
    subst e
    obtain ⟨y0, y1, y2, e1⟩ := hw1
    rw [fl] at e1
    cases e1
  have gl : G0 l = some (.lst ms) := (he2 l nl).trans hl
  refine seqI fun r hr => ?_
  simp only [and_assoc, rst, rs, re, ra, rq, rx, ro, rl, rl2, rsp, rz, rix, rln, rg, rd, ri, rv, rk, rdd, rwi, at0, at1, at2, at3, upd_at, List.getElem?_cons_zero, List.getElem?_cons_succ, Option.some.injEq, exists_eq_left', exists_eq_left, List.set_cons_zero, List.set_cons_succ, true_and, and_true, HO.lst.injEq, HO.tup.injEq, exists_and_left, exists_eq, exists_eq', Br.t, Br.f, Be.t, Be.f, List.cons.injEq, List.append_nil, scal, if_true, if_false, ite_true, ite_false, eq_self_iff_true, decide_true, decide_false, Bool.not_true, Bool.not_false, reduceIte, List.nil_append, List.cons_append, reduceCtorEq, false_and, exists_false, false_or, or_false, Int.reduceLT, ral, rsq, rlu, rdp, Bool.true_or, Bool.false_or, Bool.or_false, Bool.or_true]
  refine ⟨_, SqL.of gl, fun p1 H1 a1 => ?_⟩
  rw [cut_take kl] at a1
  subst hr
  refine seqI fun r hr => ?_
  simp only [and_assoc, rst, rs, re, ra, rq, rx, ro, rl, rl2, rsp, rz, rix, rln, rg, rd, ri, rv, rk, rdd, rwi, at0, at1, at2, at3, upd_at, List.getElem?_cons_zero, List.getElem?_cons_succ, Option.some.injEq, exists_eq_left', exists_eq_left, List.set_cons_zero, List.set_cons_succ, true_and, and_true, HO.lst.injEq, HO.tup.injEq, exists_and_left, exists_eq, exists_eq', Br.t, Br.f, Be.t, Be.f, List.cons.injEq, List.append_nil, scal, if_true, if_false, ite_true, ite_false, eq_self_iff_true, decide_true, decide_false, Bool.not_true, Bool.not_false, reduceIte, List.nil_append, List.cons_append, reduceCtorEq, false_and, exists_false, false_or, or_false, Int.reduceLT, ral, rsq, rlu, rdp, Bool.true_or, Bool.false_or, Bool.or_false, Bool.or_true]
  refine ⟨_, SqL.of (Al.k a1 gl), fun p2 H2 a2 => ?_⟩
  rw [cut_drop kl] at a2
  subst hr
  refine seqI fun r hr => ?_
  simp only [and_assoc, rst, rs, re, ra, rq, rx, ro, rl, rl2, rsp, rz, rix, rln, rg, rd, ri, rv, rk, rdd, rwi, at0, at1, at2, at3, upd_at, List.getElem?_cons_zero, List.getElem?_cons_succ, Option.some.injEq, exists_eq_left', exists_eq_left, List.set_cons_zero, List.set_cons_succ, true_and, and_true, HO.lst.injEq, HO.tup.injEq, exists_and_left, exists_eq, exists_eq', Br.t, Br.f, Be.t, Be.f, List.cons.injEq, List.append_nil, scal, if_true, if_false, ite_true, ite_false, eq_self_iff_true, decide_true, decide_false, Bool.not_true, Bool.not_false, reduceIte, List.nil_append, List.cons_append, reduceCtorEq, false_and, exists_false, false_or, or_false, Int.reduceLT, ral, rsq, rlu, rdp, Bool.true_or, Bool.false_or, Bool.or_false, Bool.or_true]
  have hints : ∀ x ∈ ms, ∃ j : Nat, x = .int (j : Int) ∧ j < 2 + m0.toNat := fun x hx => by
    obtain ⟨j, hj, rfl⟩ := List.mem_map.mp (pm.mem_iff.mp hx)
    exact ⟨j, rfl, List.mem_range.mp hj⟩
  have hf : ∀ x ∈ ms, flat x = true := fun x hx => by
    obtain ⟨j, rfl, _⟩ := hints x hx
    rfl
  have fm : ms.all flat = true := List.all_eq_true.mpr hf
  have ft : (ms.take k).all flat = true := List.all_eq_true.mpr fun x hx => hf x (List.mem_of_mem_take hx)
  have fd : (ms.drop (k + 1)).all flat = true := List.all_eq_true.mpr fun x hx => hf x (List.mem_of_mem_drop hx)
  refine ⟨_, (Al.k a2 (Al.k a1 gl)), _, rfl, _, atI_nat (List.getElem?_eq_getElem kl), fun p3 H3 a3 => ⟨_, (Al.k a3 (Al.k a2 (Al.k a1 gl))), _, a3.e, by rw [sizeLine_eq]; simp <;> omega, fun p4 H4 a4 p5 H5 a5 => ⟨_, (Al.k a5 (Al.k a4 (Al.k a3 (Al.k a2 (Al.e a1))))), _, a5.e, by rw [sizeLine_eq]; simp <;> omega, fun p6 H6 a6 => ⟨_, a6.e, _, (Al.k a6 (Al.k a5 (Al.k a4 (Al.k a3 (Al.e a2))))), by rw [sizeLine_eq]; simp <;> omega,
    fun p7 H7 a7 p8 H8 a8 => ⟨_, (Al.k a8 (Al.k a7 (Al.k a6 (Al.k a5 (Al.k a4 (Al.k a3 (Al.k a2 (Al.k a1 gl)))))))), _, a8.e, by rw [sizeLine_eq]; simp <;> omega, fun p9 H9 a9 p10 H10 a10 => ⟨_, (Al.k a10 (Al.k a9 (Al.k a8 (Al.k a7 (Al.k a6 (Al.k a5 (Al.k a4 (Al.k a3 (Al.k a2 (Al.k a1 gl)))))))))), _, a10.e, by rw [sizeLine_eq]; simp <;> omega, fun p11 H11 a11 => ⟨Nat.lt_of_lt_of_le (PySem.Flt.log2_lt_of (k := 100) (by decide) (by omega)) (by decide), fun p12 H12 a12 => ⟨_, (Al.k a12 (Al.k a11 (Al.k a10 (Al.k a9 (Al.k a8 (Al.k a7 (Al.k a6 (Al.k a5 (Al.k a4 (Al.k a3 (Al.k a2 (Al.k a1 gl)))))))))))), _, a12.e, by rw [sizeLine_eq]; simp <;> omega, fun p13 H13 a13 p14 H14 a14 => ?_⟩⟩⟩⟩⟩⟩⟩⟩
  subst hr
  refine seqI fun r hr => ?_
  simp only [and_assoc, rst, rs, re, ra, rq, rx, ro, rl, rl2, rsp, rz, rix, rln, rg, rd, ri, rv, rk, rdd, rwi, at0, at1, at2, at3, upd_at, List.getElem?_cons_zero, List.getElem?_cons_succ, Option.some.injEq, exists_eq_left', exists_eq_left, List.set_cons_zero, List.set_cons_succ, true_and, and_true, HO.lst.injEq, HO.tup.injEq, exists_and_left, exists_eq, exists_eq', Br.t, Br.f, Be.t, Be.f, List.cons.injEq, List.append_nil, scal, if_true, if_false, ite_true, ite_false, eq_self_iff_true, decide_true, decide_false, Bool.not_true, Bool.not_false, reduceIte, List.nil_append, List.cons_append, reduceCtorEq, false_and, exists_false, false_or, or_false, Int.reduceLT, ral, rsq, rlu, rdp, Bool.true_or, Bool.false_or, Bool.or_false, Bool.or_true]
  obtain ⟨j, hj, jk, ej⟩ : ∃ (j : Nat) (h : j < ms.length), j ≠ k ∧ atI ms ((k : Int) - 1) = some ms[j] := by
    rcases Nat.eq_zero_or_pos k with e | e
    · subst e
      refine ⟨ms.length - 1, by omega, by omega, ?_⟩
      rw [show ((0 : Nat) : Int) - 1 = -1 by rfl, atI_neg1 (by omega), List.getElem?_eq_getElem]
    · refine ⟨k - 1, by omega, by omega, ?_⟩
      rw [show (k : Int) - 1 = ((k - 1 : Nat) : Int) by omega]
      exact atI_nat (List.getElem?_eq_getElem (by omega))
  refine ⟨_, (Al.k a14 (Al.k a13 (Al.k a12 (Al.k a11 (Al.k a10 (Al.k a9 (Al.k a8 (Al.k a7 (Al.k a6 (Al.k a5 (Al.k a4 (Al.k a3 (Al.k a2 (Al.k a1 gl)))))))))))))), _, rfl, _, ej, fun p15 H15 a15 => ⟨_, (Al.k a15 (Al.k a14 (Al.k a13 (Al.k a12 (Al.k a11 (Al.k a10 (Al.k a9 (Al.k a8 (Al.k a7 (Al.k a6 (Al.k a5 (Al.k a4 (Al.k a3 (Al.k a2 (Al.e a1))))))))))))))), _, a15.e, by rw [sizeLine_eq]; simp <;> omega, fun p16 H16 a16 => ⟨_, a16.e, _, (Al.k a16 (Al.k a15 (Al.k a14 (Al.k a13 (Al.k a12 (Al.k a11 (Al.k a10 (Al.k a9 (Al.k a8 (Al.k a7 (Al.k a6 (Al.k a5 (Al.k a4 (Al.k a3 (Al.e a2))))))))))))))), by rw [sizeLine_eq]; simp <;> omega, fun p17 H17 a17 p18 H18 a18 => ⟨_, (Al.k a18 (Al.e a17)), _, a18.e, by rw [sizeLine_eq]; simp <;> omega, fun p19 H19 a19 => ⟨⟨by decide, by decide, by decide, by decide, by decide⟩,
    fun p20 H20 a20 p21 H21 a21 => ⟨by rw [sizeLine_eq]; simp, fun p22 H22 a22 => ⟨_, (Al.k a22 (Al.k a21 (Al.k a20 (Al.k a19 (Al.k a18 (Al.k a17 (Al.k a16 (Al.k a15 (Al.e a14))))))))), _, a22.e, by rw [sizeLine_eq]; simp <;> omega, fun p23 H23 a23 => ?_⟩⟩⟩⟩⟩⟩⟩
  subst hr
  refine seqI fun r hr => ?_
  simp only [and_assoc, rst, rs, re, ra, rq, rx, ro, rl, rl2, rsp, rz, rix, rln, rg, rd, ri, rv, rk, rdd, rwi, at0, at1, at2, at3, upd_at, List.getElem?_cons_zero, List.getElem?_cons_succ, Option.some.injEq, exists_eq_left', exists_eq_left, List.set_cons_zero, List.set_cons_succ, true_and, and_true, HO.lst.injEq, HO.tup.injEq, exists_and_left, exists_eq, exists_eq', Br.t, Br.f, Be.t, Be.f, List.cons.injEq, List.append_nil, scal, if_true, if_false, ite_true, ite_false, eq_self_iff_true, decide_true, decide_false, Bool.not_true, Bool.not_false, reduceIte, List.nil_append, List.cons_append, reduceCtorEq, false_and, exists_false, false_or, or_false, Int.reduceLT, ral, rsq, rlu, rdp, Bool.true_or, Bool.false_or, Bool.or_false, Bool.or_true]
  refine fun p24 H24 a24 p25 H25 a25 p26 H26 a26 p27 H27 a27 p28 H28 a28 p29 H29 a29 => ⟨_, (Al.k a29 (Al.k a28 (Al.k a27 (Al.k a26 (Al.k a25 (Al.k a24 (Al.k a23 (Al.k a22 (Al.k a21 (Al.k a20 (Al.k a19 (Al.k a18 (Al.k a17 (Al.k a16 (Al.k a15 (Al.k a14 (Al.k a13 (Al.k a12 (Al.k a11 (Al.k a10 (Al.k a9 (Al.k a8 (Al.k a7 (Al.k a6 (Al.k a5 (Al.k a4 (Al.k a3 (Al.k a2 (Al.e a1))))))))))))))))))))))))))))), _, a29.e, by rw [sizeLine_eq]; simp <;> omega, fun p30 H30 a30 => ⟨_, a30.e, _, (Al.k a30 (Al.k a29 (Al.k a28 (Al.k a27 (Al.k a26 (Al.k a25 (Al.k a24 (Al.k a23 (Al.k a22 (Al.k a21 (Al.k a20 (Al.k a19 (Al.k a18 (Al.k a17 (Al.k a16 (Al.k a15 (Al.k a14 (Al.k a13 (Al.k a12 (Al.k a11 (Al.k a10 (Al.k a9 (Al.k a8 (Al.k a7 (Al.k a6 (Al.k a5 (Al.k a4 (Al.k a3 (Al.e a2))))))))))))))))))))))))))))), by rw [sizeLine_eq]; simp <;> omega, fun p31 H31 a31 p32 H32 a32 => ⟨_, (Al.k a32 (Al.e a31)), _, a32.e, by rw [sizeLine_eq]; simp <;> omega, fun p33 H33 a33 => ⟨⟨by decide, by decide, by decide, by decide, by decide⟩,
    fun p34 H34 a34 p35 H35 a35 => ⟨_, (Al.k a35 (Al.k a34 (Al.k a33 (Al.k a32 (Al.k a31 (Al.k a30 (Al.k a29 (Al.k a28 (Al.k a27 (Al.k a26 (Al.k a25 (Al.k a24 (Al.e a23))))))))))))), _, a35.e, by rw [sizeLine_eq]; simp <;> omega, fun p36 H36 a36 => ?_⟩⟩⟩⟩⟩
  subst hr
  simp only [and_assoc, rst, rs, re, ra, rq, rx, ro, rl, rl2, rsp, rz, rix, rln, rg, rd, ri, rv, rk, rdd, rwi, at0, at1, at2, at3, upd_at, List.getElem?_cons_zero, List.getElem?_cons_succ, Option.some.injEq, exists_eq_left', exists_eq_left, List.set_cons_zero, List.set_cons_succ, true_and, and_true, HO.lst.injEq, HO.tup.injEq, exists_and_left, exists_eq, exists_eq', Br.t, Br.f, Be.t, Be.f, List.cons.injEq, List.append_nil, scal, if_true, if_false, ite_true, ite_false, eq_self_iff_true, decide_true, decide_false, Bool.not_true, Bool.not_false, reduceIte, List.nil_append, List.cons_append, reduceCtorEq, false_and, exists_false, false_or, or_false, Int.reduceLT, ral, rsq, rlu, rdp, Bool.true_or, Bool.false_or, Bool.or_false, Bool.or_true]
  refine ⟨_, a36.e, _, rfl, ?_⟩
  have w1 := (wo_at (H := H36) (a1.ne hp)).trans (Al.k a36 (Al.k a35 (Al.k a34 (Al.k a33 (Al.k a32 (Al.k a31 (Al.k a30 (Al.k a29 (Al.k a28 (Al.k a27 (Al.k a26 (Al.k a25 (Al.k a24 (Al.k a23 (Al.k a22 (Al.k a21 (Al.k a20 (Al.k a19 (Al.k a18 (Al.k a17 (Al.k a16 (Al.k a15 (Al.k a14 (Al.k a13 (Al.k a12 (Al.k a11 (Al.k a10 (Al.k a9 (Al.k a8 (Al.k a7 (Al.k a6 (Al.k a5 (Al.k a4 (Al.k a3 (Al.k a2 (Al.e a1))))))))))))))))))))))))))))))))))))
  have w2 := (wo_at (H := H36) (a2.ne (Al.k a1 hp))).trans (Al.k a36 (Al.k a35 (Al.k a34 (Al.k a33 (Al.k a32 (Al.k a31 (Al.k a30 (Al.k a29 (Al.k a28 (Al.k a27 (Al.k a26 (Al.k a25 (Al.k a24 (Al.k a23 (Al.k a22 (Al.k a21 (Al.k a20 (Al.k a19 (Al.k a18 (Al.k a17 (Al.k a16 (Al.k a15 (Al.k a14 (Al.k a13 (Al.k a12 (Al.k a11 (Al.k a10 (Al.k a9 (Al.k a8 (Al.k a7 (Al.k a6 (Al.k a5 (Al.k a4 (Al.k a3 (Al.e a2)))))))))))))))))))))))))))))))))))
  have w3 := (wo_at (H := H36) (a3.ne (Al.k a2 (Al.k a1 hp)))).trans (Al.k a36 (Al.k a35 (Al.k a34 (Al.k a33 (Al.k a32 (Al.k a31 (Al.k a30 (Al.k a29 (Al.k a28 (Al.k a27 (Al.k a26 (Al.k a25 (Al.k a24 (Al.k a23 (Al.k a22 (Al.k a21 (Al.k a20 (Al.k a19 (Al.k a18 (Al.k a17 (Al.k a16 (Al.k a15 (Al.k a14 (Al.k a13 (Al.k a12 (Al.k a11 (Al.k a10 (Al.k a9 (Al.k a8 (Al.k a7 (Al.k a6 (Al.k a5 (Al.k a4 (Al.e a3))))))))))))))))))))))))))))))))))
  have w4 := (wo_at (H := H36) (a4.ne (Al.k a3 (Al.k a2 (Al.k a1 hp))))).trans (Al.k a36 (Al.k a35 (Al.k a34 (Al.k a33 (Al.k a32 (Al.k a31 (Al.k a30 (Al.k a29 (Al.k a28 (Al.k a27 (Al.k a26 (Al.k a25 (Al.k a24 (Al.k a23 (Al.k a22 (Al.k a21 (Al.k a20 (Al.k a19 (Al.k a18 (Al.k a17 (Al.k a16 (Al.k a15 (Al.k a14 (Al.k a13 (Al.k a12 (Al.k a11 (Al.k a10 (Al.k a9 (Al.k a8 (Al.k a7 (Al.k a6 (Al.k a5 (Al.e a4)))))))))))))))))))))))))))))))))
  have w5 := (wo_at (H := H36) (a5.ne (Al.k a4 (Al.k a3 (Al.k a2 (Al.k a1 hp)))))).trans (Al.k a36 (Al.k a35 (Al.k a34 (Al.k a33 (Al.k a32 (Al.k a31 (Al.k a30 (Al.k a29 (Al.k a28 (Al.k a27 (Al.k a26 (Al.k a25 (Al.k a24 (Al.k a23 (Al.k a22 (Al.k a21 (Al.k a20 (Al.k a19 (Al.k a18 (Al.k a17 (Al.k a16 (Al.k a15 (Al.k a14 (Al.k a13 (Al.k a12 (Al.k a11 (Al.k a10 (Al.k a9 (Al.k a8 (Al.k a7 (Al.k a6 (Al.e a5))))))))))))))))))))))))))))))))
  have w6 := (wo_at (H := H36) (a6.ne (Al.k a5 (Al.k a4 (Al.k a3 (Al.k a2 (Al.k a1 hp))))))).trans (Al.k a36 (Al.k a35 (Al.k a34 (Al.k a33 (Al.k a32 (Al.k a31 (Al.k a30 (Al.k a29 (Al.k a28 (Al.k a27 (Al.k a26 (Al.k a25 (Al.k a24 (Al.k a23 (Al.k a22 (Al.k a21 (Al.k a20 (Al.k a19 (Al.k a18 (Al.k a17 (Al.k a16 (Al.k a15 (Al.k a14 (Al.k a13 (Al.k a12 (Al.k a11 (Al.k a10 (Al.k a9 (Al.k a8 (Al.k a7 (Al.e a6)))))))))))))))))))))))))))))))
  have w7 := (wo_at (H := H36) (a7.ne (Al.k a6 (Al.k a5 (Al.k a4 (Al.k a3 (Al.k a2 (Al.k a1 hp)))))))).trans (Al.k a36 (Al.k a35 (Al.k a34 (Al.k a33 (Al.k a32 (Al.k a31 (Al.k a30 (Al.k a29 (Al.k a28 (Al.k a27 (Al.k a26 (Al.k a25 (Al.k a24 (Al.k a23 (Al.k a22 (Al.k a21 (Al.k a20 (Al.k a19 (Al.k a18 (Al.k a17 (Al.k a16 (Al.k a15 (Al.k a14 (Al.k a13 (Al.k a12 (Al.k a11 (Al.k a10 (Al.k a9 (Al.k a8 (Al.e a7))))))))))))))))))))))))))))))
  have w8 := (wo_at (H := H36) (a8.ne (Al.k a7 (Al.k a6 (Al.k a5 (Al.k a4 (Al.k a3 (Al.k a2 (Al.k a1 hp))))))))).trans (Al.k a36 (Al.k a35 (Al.k a34 (Al.k a33 (Al.k a32 (Al.k a31 (Al.k a30 (Al.k a29 (Al.k a28 (Al.k a27 (Al.k a26 (Al.k a25 (Al.k a24 (Al.k a23 (Al.k a22 (Al.k a21 (Al.k a20 (Al.k a19 (Al.k a18 (Al.k a17 (Al.k a16 (Al.k a15 (Al.k a14 (Al.k a13 (Al.k a12 (Al.k a11 (Al.k a10 (Al.k a9 (Al.e a8)))))))))))))))))))))))))))))
  have w9 := (wo_at (H := H36) (a9.ne (Al.k a8 (Al.k a7 (Al.k a6 (Al.k a5 (Al.k a4 (Al.k a3 (Al.k a2 (Al.k a1 hp)))))))))).trans (Al.k a36 (Al.k a35 (Al.k a34 (Al.k a33 (Al.k a32 (Al.k a31 (Al.k a30 (Al.k a29 (Al.k a28 (Al.k a27 (Al.k a26 (Al.k a25 (Al.k a24 (Al.k a23 (Al.k a22 (Al.k a21 (Al.k a20 (Al.k a19 (Al.k a18 (Al.k a17 (Al.k a16 (Al.k a15 (Al.k a14 (Al.k a13 (Al.k a12 (Al.k a11 (Al.k a10 (Al.e a9))))))))))))))))))))))))))))
  have w10 := (wo_at (H := H36) (a10.ne (Al.k a9 (Al.k a8 (Al.k a7 (Al.k a6 (Al.k a5 (Al.k a4 (Al.k a3 (Al.k a2 (Al.k a1 hp))))))))))).trans (Al.k a36 (Al.k a35 (Al.k a34 (Al.k a33 (Al.k a32 (Al.k a31 (Al.k a30 (Al.k a29 (Al.k a28 (Al.k a27 (Al.k a26 (Al.k a25 (Al.k a24 (Al.k a23 (Al.k a22 (Al.k a21 (Al.k a20 (Al.k a19 (Al.k a18 (Al.k a17 (Al.k a16 (Al.k a15 (Al.k a14 (Al.k a13 (Al.k a12 (Al.k a11 (Al.e a10)))))))))))))))))))))))))))
  have w11 := (wo_at (H := H36) (a11.ne (Al.k a10 (Al.k a9 (Al.k a8 (Al.k a7 (Al.k a6 (Al.k a5 (Al.k a4 (Al.k a3 (Al.k a2 (Al.k a1 hp)))))))))))).trans (Al.k a36 (Al.k a35 (Al.k a34 (Al.k a33 (Al.k a32 (Al.k a31 (Al.k a30 (Al.k a29 (Al.k a28 (Al.k a27 (Al.k a26 (Al.k a25 (Al.k a24 (Al.k a23 (Al.k a22 (Al.k a21 (Al.k a20 (Al.k a19 (Al.k a18 (Al.k a17 (Al.k a16 (Al.k a15 (Al.k a14 (Al.k a13 (Al.k a12 (Al.e a11))))))))))))))))))))))))))
  have w12 := (wo_at (H := H36) (a12.ne (Al.k a11 (Al.k a10 (Al.k a9 (Al.k a8 (Al.k a7 (Al.k a6 (Al.k a5 (Al.k a4 (Al.k a3 (Al.k a2 (Al.k a1 hp))))))))))))).trans (Al.k a36 (Al.k a35 (Al.k a34 (Al.k a33 (Al.k a32 (Al.k a31 (Al.k a30 (Al.k a29 (Al.k a28 (Al.k a27 (Al.k a26 (Al.k a25 (Al.k a24 (Al.k a23 (Al.k a22 (Al.k a21 (Al.k a20 (Al.k a19 (Al.k a18 (Al.k a17 (Al.k a16 (Al.k a15 (Al.k a14 (Al.k a13 (Al.e a12)))))))))))))))))))))))))
  have w13 := (wo_at (H := H36) (a13.ne (Al.k a12 (Al.k a11 (Al.k a10 (Al.k a9 (Al.k a8 (Al.k a7 (Al.k a6 (Al.k a5 (Al.k a4 (Al.k a3 (Al.k a2 (Al.k a1 hp)))))))))))))).trans (Al.k a36 (Al.k a35 (Al.k a34 (Al.k a33 (Al.k a32 (Al.k a31 (Al.k a30 (Al.k a29 (Al.k a28 (Al.k a27 (Al.k a26 (Al.k a25 (Al.k a24 (Al.k a23 (Al.k a22 (Al.k a21 (Al.k a20 (Al.k a19 (Al.k a18 (Al.k a17 (Al.k a16 (Al.k a15 (Al.k a14 (Al.e a13))))))))))))))))))))))))
  have w14 := (wo_at (H := H36) (a14.ne (Al.k a13 (Al.k a12 (Al.k a11 (Al.k a10 (Al.k a9 (Al.k a8 (Al.k a7 (Al.k a6 (Al.k a5 (Al.k a4 (Al.k a3 (Al.k a2 (Al.k a1 hp))))))))))))))).trans (Al.k a36 (Al.k a35 (Al.k a34 (Al.k a33 (Al.k a32 (Al.k a31 (Al.k a30 (Al.k a29 (Al.k a28 (Al.k a27 (Al.k a26 (Al.k a25 (Al.k a24 (Al.k a23 (Al.k a22 (Al.k a21 (Al.k a20 (Al.k a19 (Al.k a18 (Al.k a17 (Al.k a16 (Al.k a15 (Al.e a14)))))))))))))))))))))))
  have w15 := (wo_at (H := H36) (a15.ne (Al.k a14 (Al.k a13 (Al.k a12 (Al.k a11 (Al.k a10 (Al.k a9 (Al.k a8 (Al.k a7 (Al.k a6 (Al.k a5 (Al.k a4 (Al.k a3 (Al.k a2 (Al.k a1 hp)))))))))))))))).trans (Al.k a36 (Al.k a35 (Al.k a34 (Al.k a33 (Al.k a32 (Al.k a31 (Al.k a30 (Al.k a29 (Al.k a28 (Al.k a27 (Al.k a26 (Al.k a25 (Al.k a24 (Al.k a23 (Al.k a22 (Al.k a21 (Al.k a20 (Al.k a19 (Al.k a18 (Al.k a17 (Al.k a16 (Al.e a15))))))))))))))))))))))
  have w16 := (wo_at (H := H36) (a16.ne (Al.k a15 (Al.k a14 (Al.k a13 (Al.k a12 (Al.k a11 (Al.k a10 (Al.k a9 (Al.k a8 (Al.k a7 (Al.k a6 (Al.k a5 (Al.k a4 (Al.k a3 (Al.k a2 (Al.k a1 hp))))))))))))))))).trans (Al.k a36 (Al.k a35 (Al.k a34 (Al.k a33 (Al.k a32 (Al.k a31 (Al.k a30 (Al.k a29 (Al.k a28 (Al.k a27 (Al.k a26 (Al.k a25 (Al.k a24 (Al.k a23 (Al.k a22 (Al.k a21 (Al.k a20 (Al.k a19 (Al.k a18 (Al.k a17 (Al.e a16)))))))))))))))))))))
  have w17 := (wo_at (H := H36) (a17.ne (Al.k a16 (Al.k a15 (Al.k a14 (Al.k a13 (Al.k a12 (Al.k a11 (Al.k a10 (Al.k a9 (Al.k a8 (Al.k a7 (Al.k a6 (Al.k a5 (Al.k a4 (Al.k a3 (Al.k a2 (Al.k a1 hp)))))))))))))))))).trans (Al.k a36 (Al.k a35 (Al.k a34 (Al.k a33 (Al.k a32 (Al.k a31 (Al.k a30 (Al.k a29 (Al.k a28 (Al.k a27 (Al.k a26 (Al.k a25 (Al.k a24 (Al.k a23 (Al.k a22 (Al.k a21 (Al.k a20 (Al.k a19 (Al.k a18 (Al.e a17))))))))))))))))))))
  have w18 := (wo_at (H := H36) (a18.ne (Al.k a17 (Al.k a16 (Al.k a15 (Al.k a14 (Al.k a13 (Al.k a12 (Al.k a11 (Al.k a10 (Al.k a9 (Al.k a8 (Al.k a7 (Al.k a6 (Al.k a5 (Al.k a4 (Al.k a3 (Al.k a2 (Al.k a1 hp))))))))))))))))))).trans (Al.k a36 (Al.k a35 (Al.k a34 (Al.k a33 (Al.k a32 (Al.k a31 (Al.k a30 (Al.k a29 (Al.k a28 (Al.k a27 (Al.k a26 (Al.k a25 (Al.k a24 (Al.k a23 (Al.k a22 (Al.k a21 (Al.k a20 (Al.k a19 (Al.e a18)))))))))))))))))))
  have w19 := (wo_at (H := H36) (a19.ne (Al.k a18 (Al.k a17 (Al.k a16 (Al.k a15 (Al.k a14 (Al.k a13 (Al.k a12 (Al.k a11 (Al.k a10 (Al.k a9 (Al.k a8 (Al.k a7 (Al.k a6 (Al.k a5 (Al.k a4 (Al.k a3 (Al.k a2 (Al.k a1 hp)))))))))))))))))))).trans (Al.k a36 (Al.k a35 (Al.k a34 (Al.k a33 (Al.k a32 (Al.k a31 (Al.k a30 (Al.k a29 (Al.k a28 (Al.k a27 (Al.k a26 (Al.k a25 (Al.k a24 (Al.k a23 (Al.k a22 (Al.k a21 (Al.k a20 (Al.e a19))))))))))))))))))
  have w20 := (wo_at (H := H36) (a20.ne (Al.k a19 (Al.k a18 (Al.k a17 (Al.k a16 (Al.k a15 (Al.k a14 (Al.k a13 (Al.k a12 (Al.k a11 (Al.k a10 (Al.k a9 (Al.k a8 (Al.k a7 (Al.k a6 (Al.k a5 (Al.k a4 (Al.k a3 (Al.k a2 (Al.k a1 hp))))))))))))))))))))).trans (Al.k a36 (Al.k a35 (Al.k a34 (Al.k a33 (Al.k a32 (Al.k a31 (Al.k a30 (Al.k a29 (Al.k a28 (Al.k a27 (Al.k a26 (Al.k a25 (Al.k a24 (Al.k a23 (Al.k a22 (Al.k a21 (Al.e a20)))))))))))))))))
  have w21 := (wo_at (H := H36) (a21.ne (Al.k a20 (Al.k a19 (Al.k a18 (Al.k a17 (Al.k a16 (Al.k a15 (Al.k a14 (Al.k a13 (Al.k a12 (Al.k a11 (Al.k a10 (Al.k a9 (Al.k a8 (Al.k a7 (Al.k a6 (Al.k a5 (Al.k a4 (Al.k a3 (Al.k a2 (Al.k a1 hp)))))))))))))))))))))).trans (Al.k a36 (Al.k a35 (Al.k a34 (Al.k a33 (Al.k a32 (Al.k a31 (Al.k a30 (Al.k a29 (Al.k a28 (Al.k a27 (Al.k a26 (Al.k a25 (Al.k a24 (Al.k a23 (Al.k a22 (Al.e a21))))))))))))))))
  have w22 := (wo_at (H := H36) (a22.ne (Al.k a21 (Al.k a20 (Al.k a19 (Al.k a18 (Al.k a17 (Al.k a16 (Al.k a15 (Al.k a14 (Al.k a13 (Al.k a12 (Al.k a11 (Al.k a10 (Al.k a9 (Al.k a8 (Al.k a7 (Al.k a6 (Al.k a5 (Al.k a4 (Al.k a3 (Al.k a2 (Al.k a1 hp))))))))))))))))))))))).trans (Al.k a36 (Al.k a35 (Al.k a34 (Al.k a33 (Al.k a32 (Al.k a31 (Al.k a30 (Al.k a29 (Al.k a28 (Al.k a27 (Al.k a26 (Al.k a25 (Al.k a24 (Al.k a23 (Al.e a22)))))))))))))))
  have w23 := (wo_at (H := H36) (a23.ne (Al.k a22 (Al.k a21 (Al.k a20 (Al.k a19 (Al.k a18 (Al.k a17 (Al.k a16 (Al.k a15 (Al.k a14 (Al.k a13 (Al.k a12 (Al.k a11 (Al.k a10 (Al.k a9 (Al.k a8 (Al.k a7 (Al.k a6 (Al.k a5 (Al.k a4 (Al.k a3 (Al.k a2 (Al.k a1 hp)))))))))))))))))))))))).trans (Al.k a36 (Al.k a35 (Al.k a34 (Al.k a33 (Al.k a32 (Al.k a31 (Al.k a30 (Al.k a29 (Al.k a28 (Al.k a27 (Al.k a26 (Al.k a25 (Al.k a24 (Al.e a23))))))))))))))
  have w24 := (wo_at (H := H36) (a24.ne (Al.k a23 (Al.k a22 (Al.k a21 (Al.k a20 (Al.k a19 (Al.k a18 (Al.k a17 (Al.k a16 (Al.k a15 (Al.k a14 (Al.k a13 (Al.k a12 (Al.k a11 (Al.k a10 (Al.k a9 (Al.k a8 (Al.k a7 (Al.k a6 (Al.k a5 (Al.k a4 (Al.k a3 (Al.k a2 (Al.k a1 hp))))))))))))))))))))))))).trans (Al.k a36 (Al.k a35 (Al.k a34 (Al.k a33 (Al.k a32 (Al.k a31 (Al.k a30 (Al.k a29 (Al.k a28 (Al.k a27 (Al.k a26 (Al.k a25 (Al.e a24)))))))))))))
  have w25 := (wo_at (H := H36) (a25.ne (Al.k a24 (Al.k a23 (Al.k a22 (Al.k a21 (Al.k a20 (Al.k a19 (Al.k a18 (Al.k a17 (Al.k a16 (Al.k a15 (Al.k a14 (Al.k a13 (Al.k a12 (Al.k a11 (Al.k a10 (Al.k a9 (Al.k a8 (Al.k a7 (Al.k a6 (Al.k a5 (Al.k a4 (Al.k a3 (Al.k a2 (Al.k a1 hp)))))))))))))))))))))))))).trans (Al.k a36 (Al.k a35 (Al.k a34 (Al.k a33 (Al.k a32 (Al.k a31 (Al.k a30 (Al.k a29 (Al.k a28 (Al.k a27 (Al.k a26 (Al.e a25))))))))))))
  have w26 := (wo_at (H := H36) (a26.ne (Al.k a25 (Al.k a24 (Al.k a23 (Al.k a22 (Al.k a21 (Al.k a20 (Al.k a19 (Al.k a18 (Al.k a17 (Al.k a16 (Al.k a15 (Al.k a14 (Al.k a13 (Al.k a12 (Al.k a11 (Al.k a10 (Al.k a9 (Al.k a8 (Al.k a7 (Al.k a6 (Al.k a5 (Al.k a4 (Al.k a3 (Al.k a2 (Al.k a1 hp))))))))))))))))))))))))))).trans (Al.k a36 (Al.k a35 (Al.k a34 (Al.k a33 (Al.k a32 (Al.k a31 (Al.k a30 (Al.k a29 (Al.k a28 (Al.k a27 (Al.e a26)))))))))))
  have w27 := (wo_at (H := H36) (a27.ne (Al.k a26 (Al.k a25 (Al.k a24 (Al.k a23 (Al.k a22 (Al.k a21 (Al.k a20 (Al.k a19 (Al.k a18 (Al.k a17 (Al.k a16 (Al.k a15 (Al.k a14 (Al.k a13 (Al.k a12 (Al.k a11 (Al.k a10 (Al.k a9 (Al.k a8 (Al.k a7 (Al.k a6 (Al.k a5 (Al.k a4 (Al.k a3 (Al.k a2 (Al.k a1 hp)))))))))))))))))))))))))))).trans (Al.k a36 (Al.k a35 (Al.k a34 (Al.k a33 (Al.k a32 (Al.k a31 (Al.k a30 (Al.k a29 (Al.k a28 (Al.e a27))))))))))
  have w28 := (wo_at (H := H36) (a28.ne (Al.k a27 (Al.k a26 (Al.k a25 (Al.k a24 (Al.k a23 (Al.k a22 (Al.k a21 (Al.k a20 (Al.k a19 (Al.k a18 (Al.k a17 (Al.k a16 (Al.k a15 (Al.k a14 (Al.k a13 (Al.k a12 (Al.k a11 (Al.k a10 (Al.k a9 (Al.k a8 (Al.k a7 (Al.k a6 (Al.k a5 (Al.k a4 (Al.k a3 (Al.k a2 (Al.k a1 hp))))))))))))))))))))))))))))).trans (Al.k a36 (Al.k a35 (Al.k a34 (Al.k a33 (Al.k a32 (Al.k a31 (Al.k a30 (Al.k a29 (Al.e a28)))))))))
  have w29 := (wo_at (H := H36) (a29.ne (Al.k a28 (Al.k a27 (Al.k a26 (Al.k a25 (Al.k a24 (Al.k a23 (Al.k a22 (Al.k a21 (Al.k a20 (Al.k a19 (Al.k a18 (Al.k a17 (Al.k a16 (Al.k a15 (Al.k a14 (Al.k a13 (Al.k a12 (Al.k a11 (Al.k a10 (Al.k a9 (Al.k a8 (Al.k a7 (Al.k a6 (Al.k a5 (Al.k a4 (Al.k a3 (Al.k a2 (Al.k a1 hp)))))))))))))))))))))))))))))).trans (Al.k a36 (Al.k a35 (Al.k a34 (Al.k a33 (Al.k a32 (Al.k a31 (Al.k a30 (Al.e a29))))))))
  have w30 := (wo_at (H := H36) (a30.ne (Al.k a29 (Al.k a28 (Al.k a27 (Al.k a26 (Al.k a25 (Al.k a24 (Al.k a23 (Al.k a22 (Al.k a21 (Al.k a20 (Al.k a19 (Al.k a18 (Al.k a17 (Al.k a16 (Al.k a15 (Al.k a14 (Al.k a13 (Al.k a12 (Al.k a11 (Al.k a10 (Al.k a9 (Al.k a8 (Al.k a7 (Al.k a6 (Al.k a5 (Al.k a4 (Al.k a3 (Al.k a2 (Al.k a1 hp))))))))))))))))))))))))))))))).trans (Al.k a36 (Al.k a35 (Al.k a34 (Al.k a33 (Al.k a32 (Al.k a31 (Al.e a30)))))))
  have w31 := (wo_at (H := H36) (a31.ne (Al.k a30 (Al.k a29 (Al.k a28 (Al.k a27 (Al.k a26 (Al.k a25 (Al.k a24 (Al.k a23 (Al.k a22 (Al.k a21 (Al.k a20 (Al.k a19 (Al.k a18 (Al.k a17 (Al.k a16 (Al.k a15 (Al.k a14 (Al.k a13 (Al.k a12 (Al.k a11 (Al.k a10 (Al.k a9 (Al.k a8 (Al.k a7 (Al.k a6 (Al.k a5 (Al.k a4 (Al.k a3 (Al.k a2 (Al.k a1 hp)))))))))))))))))))))))))))))))).trans (Al.k a36 (Al.k a35 (Al.k a34 (Al.k a33 (Al.k a32 (Al.e a31))))))
  have w32 := (wo_at (H := H36) (a32.ne (Al.k a31 (Al.k a30 (Al.k a29 (Al.k a28 (Al.k a27 (Al.k a26 (Al.k a25 (Al.k a24 (Al.k a23 (Al.k a22 (Al.k a21 (Al.k a20 (Al.k a19 (Al.k a18 (Al.k a17 (Al.k a16 (Al.k a15 (Al.k a14 (Al.k a13 (Al.k a12 (Al.k a11 (Al.k a10 (Al.k a9 (Al.k a8 (Al.k a7 (Al.k a6 (Al.k a5 (Al.k a4 (Al.k a3 (Al.k a2 (Al.k a1 hp))))))))))))))))))))))))))))))))).trans (Al.k a36 (Al.k a35 (Al.k a34 (Al.k a33 (Al.e a32)))))
  have w33 := (wo_at (H := H36) (a33.ne (Al.k a32 (Al.k a31 (Al.k a30 (Al.k a29 (Al.k a28 (Al.k a27 (Al.k a26 (Al.k a25 (Al.k a24 (Al.k a23 (Al.k a22 (Al.k a21 (Al.k a20 (Al.k a19 (Al.k a18 (Al.k a17 (Al.k a16 (Al.k a15 (Al.k a14 (Al.k a13 (Al.k a12 (Al.k a11 (Al.k a10 (Al.k a9 (Al.k a8 (Al.k a7 (Al.k a6 (Al.k a5 (Al.k a4 (Al.k a3 (Al.k a2 (Al.k a1 hp)))))))))))))))))))))))))))))))))).trans (Al.k a36 (Al.k a35 (Al.k a34 (Al.e a33))))
  have w34 := (wo_at (H := H36) (a34.ne (Al.k a33 (Al.k a32 (Al.k a31 (Al.k a30 (Al.k a29 (Al.k a28 (Al.k a27 (Al.k a26 (Al.k a25 (Al.k a24 (Al.k a23 (Al.k a22 (Al.k a21 (Al.k a20 (Al.k a19 (Al.k a18 (Al.k a17 (Al.k a16 (Al.k a15 (Al.k a14 (Al.k a13 (Al.k a12 (Al.k a11 (Al.k a10 (Al.k a9 (Al.k a8 (Al.k a7 (Al.k a6 (Al.k a5 (Al.k a4 (Al.k a3 (Al.k a2 (Al.k a1 hp))))))))))))))))))))))))))))))))))).trans (Al.k a36 (Al.k a35 (Al.e a34)))
  have w35 := (wo_at (H := H36) (a35.ne (Al.k a34 (Al.k a33 (Al.k a32 (Al.k a31 (Al.k a30 (Al.k a29 (Al.k a28 (Al.k a27 (Al.k a26 (Al.k a25 (Al.k a24 (Al.k a23 (Al.k a22 (Al.k a21 (Al.k a20 (Al.k a19 (Al.k a18 (Al.k a17 (Al.k a16 (Al.k a15 (Al.k a14 (Al.k a13 (Al.k a12 (Al.k a11 (Al.k a10 (Al.k a9 (Al.k a8 (Al.k a7 (Al.k a6 (Al.k a5 (Al.k a4 (Al.k a3 (Al.k a2 (Al.k a1 hp)))))))))))))))))))))))))))))))))))).trans (Al.k a36 (Al.e a35))
  have w36 := (wo_at (H := H36) (a36.ne (Al.k a35 (Al.k a34 (Al.k a33 (Al.k a32 (Al.k a31 (Al.k a30 (Al.k a29 (Al.k a28 (Al.k a27 (Al.k a26 (Al.k a25 (Al.k a24 (Al.k a23 (Al.k a22 (Al.k a21 (Al.k a20 (Al.k a19 (Al.k a18 (Al.k a17 (Al.k a16 (Al.k a15 (Al.k a14 (Al.k a13 (Al.k a12 (Al.k a11 (Al.k a10 (Al.k a9 (Al.k a8 (Al.k a7 (Al.k a6 (Al.k a5 (Al.k a4 (Al.k a3 (Al.k a2 (Al.k a1 hp))))))))))))))))))))))))))))))))))))).trans (Al.e a36)
  have wl2 := (wo_at (H := H36) nl).trans (Al.k a36 (Al.k a35 (Al.k a34 (Al.k a33 (Al.k a32 (Al.k a31 (Al.k a30 (Al.k a29 (Al.k a28 (Al.k a27 (Al.k a26 (Al.k a25 (Al.k a24 (Al.k a23 (Al.k a22 (Al.k a21 (Al.k a20 (Al.k a19 (Al.k a18 (Al.k a17 (Al.k a16 (Al.k a15 (Al.k a14 (Al.k a13 (Al.k a12 (Al.k a11 (Al.k a10 (Al.k a9 (Al.k a8 (Al.k a7 (Al.k a6 (Al.k a5 (Al.k a4 (Al.k a3 (Al.k a2 (Al.k a1 gl))))))))))))))))))))))))))))))))))))
  refine ⟨_, _, rfl, p, _, rfl, Well.same (Same.trans a1.s (Same.trans a2.s (Same.trans a3.s (Same.trans a4.s (Same.trans a5.s (Same.trans a6.s (Same.trans a7.s (Same.trans a8.s (Same.trans a9.s (Same.trans a10.s (Same.trans a11.s (Same.trans a12.s (Same.trans a13.s (Same.trans a14.s (Same.trans a15.s (Same.trans a16.s (Same.trans a17.s (Same.trans a18.s (Same.trans a19.s (Same.trans a20.s (Same.trans a21.s (Same.trans a22.s (Same.trans a23.s (Same.trans a24.s (Same.trans a25.s (Same.trans a26.s (Same.trans a27.s (Same.trans a28.s (Same.trans a29.s (Same.trans a30.s (Same.trans a31.s (Same.trans a32.s (Same.trans a33.s (Same.trans a34.s (Same.trans a35.s (a36.s)))))))))))))))))))))))))))))))))))) hw2, rfl, by simp <;> omega, by simp <;> omega, fun r H37 r0 r1 hw3 he => ?_⟩
  obtain ⟨v, hv, hm⟩ := at_mem r0 r1
  have W := ((Wl.draw hw1 he1).trans (wl.trans (Wl.draw hw2 he2))).trans ((Wl.of_same hw2 (Same.trans a1.s (Same.trans a2.s (Same.trans a3.s (Same.trans a4.s (Same.trans a5.s (Same.trans a6.s (Same.trans a7.s (Same.trans a8.s (Same.trans a9.s (Same.trans a10.s (Same.trans a11.s (Same.trans a12.s (Same.trans a13.s (Same.trans a14.s (Same.trans a15.s (Same.trans a16.s (Same.trans a17.s (Same.trans a18.s (Same.trans a19.s (Same.trans a20.s (Same.trans a21.s (Same.trans a22.s (Same.trans a23.s (Same.trans a24.s (Same.trans a25.s (Same.trans a26.s (Same.trans a27.s (Same.trans a28.s (Same.trans a29.s (Same.trans a30.s (Same.trans a31.s (Same.trans a32.s (Same.trans a33.s (Same.trans a34.s (Same.trans a35.s (a36.s))))))))))))))))))))))))))))))))))))).trans (Wl.draw hw3 he))
  have good : Bad ordL (wo p H36) v := by
    simp only [List.cons_append, List.nil_append, List.mem_cons, List.not_mem_nil, or_false] at hm
    rcases hm with rfl | rfl | rfl | rfl | rfl | rfl | rfl | rfl | rfl | rfl | rfl | rfl | rfl | rfl | rfl | rfl | rfl | rfl | rfl
    · exact bad_l w4 (by rw [List.all_append, fm]; simp [hf]) (by simp <;> omega) (ord_dup fun z => (List.nodup_append.mp z).2.2 _ (List.getElem_mem kl) _ (by simp) rfl)
    · exact bad_l w7 (by rw [List.all_append, List.all_append, ft, fd]; rfl) (by simp <;> omega) (ord_not (x := .int (2 + m0)) (by simp) (decide_eq_false (by simp <;> omega)))
    · exact bad_l w9 (by rw [List.all_append, fm]; rfl) (by simp <;> omega) (ord_not (x := .int (-1)) (by simp) (decide_eq_false (by simp <;> omega)))
    · exact bad_l w11 (by rw [List.all_append, fm]; rfl) (by simp <;> omega) (ord_not (x := .non) (by simp) rfl)
    · exact bad_l w13 (by rw [List.all_append, fm, List.all_cons, flat_str]; rfl) (by simp <;> omega) (ord_not (x := .str (toString (2 + m0))) (by simp) rfl)
    · refine bad_l w19 (by rw [List.all_append, List.all_append, List.all_append, ft, fd]; simp only [List.all_cons, List.all_nil, hf _ (List.getElem_mem hj)]; rfl) (by simp <;> omega) (ord_dup fun z => ?_)
      have z := (List.nodup_append.mp z).1
      rcases Nat.lt_or_gt_of_ne jk with c | c
      · refine (List.nodup_append.mp (List.nodup_append.mp z).1).2.2 ms[j] ?_ _ (by simp) rfl
        rw [List.mem_take_iff_getElem]
        exact ⟨j, by omega, rfl⟩
      · refine (List.nodup_append.mp z).2.2 ms[j] (by simp) _ ?_ rfl
        rw [List.mem_drop_iff_getElem]
        exact ⟨j - (k + 1), by omega, by congr 1; omega⟩
    · exact bad_l w20 (by rfl) (by simp [rgV]) (ord_long (by simp [rgV]))
    · exact bad_f (flat_str _)
    · exact bad_f (flat_str _)
    · exact bad_f rfl
    · exact bad_f rfl
    · exact bad_f rfl
    · exact bad_d w21
    · exact bad_l w24 rfl (by simp) (ord_not (x := .bl false) (by simp) rfl)
    · exact bad_t w25 rfl (by simp) (ord_not (x := .bl false) (by simp) rfl)
    · exact bad_n w27 w26 rfl (by simp) (ord_not (x := .ref p26) (by simp) rfl)
    · exact bad_n w28 wl2 fm (by omega) (ord_not (x := .ref l) (by simp) rfl)
    · exact bad_l w33 (by rw [List.all_append, List.all_append, List.all_append, ft, fd]; rfl) (by simp <;> omega) (ord_not (x := .bl true) (by simp) rfl)
    · exact bad_t w34 (by rfl) (by simp [rgV]) (ord_long (by simp [rgV]))
  have good := good.same (Wl.draw hw3 he).2
  simp only [and_assoc, rst, rs, re, ra, rq, rx, ro, rl, rl2, rsp, rz, rix, rln, rg, rd, ri, rv, rk, rdd, rwi, at0, at1, at2, at3, upd_at, List.getElem?_cons_zero, List.getElem?_cons_succ, Option.some.injEq, exists_eq_left', exists_eq_left, List.set_cons_zero, List.set_cons_succ, true_and, and_true, HO.lst.injEq, HO.tup.injEq, exists_and_left, exists_eq, exists_eq', Br.t, Br.f, Be.t, Be.f, List.cons.injEq, List.append_nil, scal, if_true, if_false, ite_true, ite_false, eq_self_iff_true, decide_true, decide_false, Bool.not_true, Bool.not_false, reduceIte, List.nil_append, List.cons_append, reduceCtorEq, false_and, exists_false, false_or, or_false, Int.reduceLT, ral, rsq, rlu, rdp, Bool.true_or, Bool.false_or, Bool.or_false, Bool.or_true]
  exact ⟨_, (he _ (a36.ne (Al.k a35 (Al.k a34 (Al.k a33 (Al.k a32 (Al.k a31 (Al.k a30 (Al.k a29 (Al.k a28 (Al.k a27 (Al.k a26 (Al.k a25 (Al.k a24 (Al.k a23 (Al.k a22 (Al.k a21 (Al.k a20 (Al.k a19 (Al.k a18 (Al.k a17 (Al.k a16 (Al.k a15 (Al.k a14 (Al.k a13 (Al.k a12 (Al.k a11 (Al.k a10 (Al.k a9 (Al.k a8 (Al.k a7 (Al.k a6 (Al.k a5 (Al.k a4 (Al.k a3 (Al.k a2 (Al.k a1 hp))))))))))))))))))))))))))))))))))))).trans a36.e, _, rfl, v, hv, q v _ W good.1 good.2⟩
end
end Law

-- RDX ral, rsq, rlu, rdp, Bool.true_or, Bool.false_or, Bool.or_false, Bool.or_true
set_option pp.deepTerms true
set_option pp.maxSteps 100000
namespace Law
open PySem PySem.Spec PyProof.Rows L2 Sw
theorem ShIs.same {H H' : Hp} (s : Same H H') {v : V} {b : Bool} (h : ShIs H v b) : ShIs H' v b := Jd.same s h
theorem OrdIs.same {H H' : Hp} (s : Same H H') {v : V} {b : Bool} (h : OrdIs H v b) : OrdIs H' v b := Jd.same s h
theorem SetIs.same {n : Int} {H H' : Hp} (s : Same H H') {v : V} {b : Bool} (h : SetIs n H v b) : SetIs n H' v b := Jd.same s h
theorem Dor.same {H H' : Hp} (s : Same H H') {ds : Str} {xs : List V} {o : Option (Str × V)} (h : Dor H ds xs o) : Dor H' ds xs o := by
  cases h with
  | orders h1 h2 => exact .orders (h1.same s) h2
  | at1 h1 h2 h3 => exact .at1 (h1.same s) (h2.same s) h3
  | at2 h1 h2 h3 => exact .at2 h1 (h2.same s) h3
  | at3 h1 => exact .at3 h1
  | rank h1 h2 => exact .rank (h1.same s) fun e => (h2 e).imp fun _ z => ⟨z.1.same s, z.2⟩
  | next1 h1 => exact .next1 (h1.same s)
  | next2 h1 => exact .next2 (h1.same s)
  | laid h1 h2 h3 => exact .laid (h1.same s) (h2.same s) fun e => (h3 e).imp fun _ z => ⟨z.1.same s, z.2⟩
  | turned h1 => exact .turned (h1.same s)
  | by1 h1 => exact .by1 (h1.same s)
  | by2 h1 h2 => exact .by2 (h1.same s) h2
  | by3 h1 h2 h3 h4 h5 h6 => exact .by3 (s _ _ h1) h2 (fun z hz => (h3 z hz).same s) h4 h5 h6
  | by4 h1 h2 h3 => exact .by4 (s _ _ h1) h2 h3
  | back h1 h2 => exact .back (h1.same s) fun e => (h2 e).same s
theorem Dor2.same {H H' : Hp} (s : Same H H') {ds : Str} {xs : List V} {o : Option (Str × V)} (h : Dor2 H ds xs o) : Dor2 H' ds xs o := by
  cases h with
  | sets1 h1 h2 h3 => exact .sets1 (h1.same s) (h2.same s) h3
  | sets2 h1 h2 h3 => exact .sets2 h1 (h2.same s) h3
  | set1 h1 h2 h3 h4 => exact .set1 (h1.same s) (h2.same s) (h3.same s) h4
  | set2 h1 h2 h3 h4 => exact .set2 h1 (h2.same s) (h3.same s) h4
  | set3 h1 h2 h3 h4 => exact .set3 h1 h2 (h3.same s) h4
  | set4 h1 h2 => exact .set4 h1 h2
  | srank1 h1 h2 => exact .srank1 (h1.same s) h2
  | srank2 h1 h2 => exact .srank2 h1 (h2.same s)
  | snext1 h1 h2 => exact .snext1 (h1.same s) h2
  | snext2 h1 h2 => exact .snext2 h1 (h2.same s)
  | shares h1 => exact .shares (h1.same s)
  | share1 h1 => exact .share1 (h1.same s)
  | share2 h1 h2 h3 h4 => exact .share2 (h1.same s) (h2.same s) (h3.same s) h4
  | share3 h1 h2 h3 h4 => exact .share3 (h1.same s) (h2.same s) h3 h4
  | rest1 h1 => exact .rest1 (h1.same s)
  | rest2 h1 h2 h3 h4 => exact .rest2 (h1.same s) (h2.same s) (h3.same s) h4
  | first1 h1 => exact .first1 (h1.same s)
  | first2 h1 h2 h3 h4 => exact .first2 (h1.same s) (h2.same s) (h3.same s) h4
  | first3 h1 h2 h3 => exact .first3 (h1.same s) (s _ _ h2) h3
  | number1 h1 => exact .number1 (h1.same s)
  | number2 h1 h2 h3 h4 => exact .number2 (h1.same s) (h2.same s) (h3.same s) h4
  | number3 h1 h2 h3 h4 h5 => exact .number3 (h1.same s) (s _ _ h2) h3 (h4.same s) h5
section
variable {P : Program} {w : World} {K : Fg} {mg : Str → Option Value} {base : Heap}
theorem ok__law_called (T : Tx K mg w) (c_orders_many : Cal P w K mg base 4 "orders_many" ["many"] (sp_orders_many K)) (c_order_at : Cal P w K mg base 5 "order_at" ["many", "rank"] (sp_order_at K)) (c_order_rank : Cal P w K mg base 4 "order_rank" ["order"] (sp_order_rank K)) (c_next_order : Cal P w K mg base 5 "next_order" ["order"] (sp_next_order K)) (c_laid : Cal P w K mg base 4 "laid" ["row", "order"] (sp_laid K)) (c_turned_order : Cal P w K mg base 5 "turned_order" ["order"] (sp_turned_order K)) (c_by_numbers : Cal P w K mg base 4 "by_numbers" ["numbers"] (sp_by_numbers K)) (c_numbers_by : Cal P w K mg base 4 "numbers_by" ["order"] (sp_numbers_by K))  : Cal P w K mg base 6 "_law_called" ["door", "things"] (sp__law_called K) := by
  refine cal_mk T.F__law_called T.g__law_called sc__law_called (len2 _) (fun _ _ _ _ _ _ us hl => match us, hl with | [_, _], _ => rfl) (fun cdv A outer s H vs Q E hr h => ?_)
  obtain ⟨v0, v1, rfl, h⟩ := h
  have hu := hu_of hr
  refine ⟨_, (pss_cons (ps_if (pt_cmpR op_eq (pv 0) pe_str (nomark _)) (pss_one (ps_ret (pe_cal c_orders_many hr (by decide) (passes_call (takes_of rfl rfl rfl rfl) fun _ _ _ _ h => h) rfl (pa_cons (pe_ix ix_q (pv 1) pe_int (fun _ _ => rfl)) pa_nil)))) pss_nil)
      (pss_cons (ps_if (pt_cmpR op_eq (pv 0) pe_str (nomark _)) (pss_one (ps_ret (pe_cal c_order_at hr (by decide) (passes_call (takes_of rfl rfl rfl rfl) fun _ _ _ _ h => h) rfl (pa_cons (pe_ix ix_q (pv 1) pe_int (fun _ _ => rfl)) (pa_cons (pe_ix ix_q (pv 1) pe_int (fun _ _ => rfl)) pa_nil))))) pss_nil)
      (pss_cons (ps_if (pt_cmpR op_eq (pv 0) pe_str (nomark _)) (pss_one (ps_ret (pe_cal c_order_rank hr (by decide) (passes_call (takes_of rfl rfl rfl rfl) fun _ _ _ _ h => h) rfl (pa_cons (pe_ix ix_q (pv 1) pe_int (fun _ _ => rfl)) pa_nil)))) pss_nil)
      (pss_cons (ps_if (pt_cmpR op_eq (pv 0) pe_str (nomark _)) (pss_one (ps_ret (pe_cal c_next_order hr (by decide) (passes_call (takes_of rfl rfl rfl rfl) fun _ _ _ _ h => h) rfl (pa_cons (pe_ix ix_q (pv 1) pe_int (fun _ _ => rfl)) pa_nil)))) pss_nil)
      (pss_cons (ps_if (pt_cmpR op_eq (pv 0) pe_str (nomark _)) (pss_one (ps_ret (pe_cal c_laid hr (by decide) (passes_call (takes_of rfl rfl rfl rfl) fun _ _ _ _ h => h) rfl (pa_cons (pe_ix ix_q (pv 1) pe_int (fun _ _ => rfl)) (pa_cons (pe_ix ix_q (pv 1) pe_int (fun _ _ => rfl)) pa_nil))))) pss_nil)
      (pss_cons (ps_if (pt_cmpR op_eq (pv 0) pe_str (nomark _)) (pss_one (ps_ret (pe_cal c_turned_order hr (by decide) (passes_call (takes_of rfl rfl rfl rfl) fun _ _ _ _ h => h) rfl (pa_cons (pe_ix ix_q (pv 1) pe_int (fun _ _ => rfl)) pa_nil)))) pss_nil)
      (pss_cons (ps_if (pt_cmpR op_eq (pv 0) pe_str (nomark _)) (pss_one (ps_ret (pe_cal c_by_numbers hr (by decide) (passes_call (takes_of rfl rfl rfl rfl) fun _ _ _ _ h => h) rfl (pa_cons (pe_ix ix_q (pv 1) pe_int (fun _ _ => rfl)) pa_nil)))) pss_nil)
      (pss_one (ps_ret (pe_cal c_numbers_by hr (by decide) (passes_call (takes_of rfl rfl rfl rfl) fun _ _ _ _ h => h) rfl (pa_cons (pe_ix ix_q (pv 1) pe_int (fun _ _ => rfl)) pa_nil))))))))))), ?_⟩
  obtain ⟨ds, a, xs, o, rfl, rfl, ha, hd, ho⟩ := h
  cases hd with
  | orders h1 h2 =>
    simp only [and_assoc, rst, rs, re, ra, rq, rx, ro, rl, rl2, rsp, rz, rix, rln, rg, rd, ri, rv, rk, rdd, rwi, at0, at1, at2, at3, upd_at, List.getElem?_cons_zero, List.getElem?_cons_succ, Option.some.injEq, exists_eq_left', exists_eq_left, List.set_cons_zero, List.set_cons_succ, true_and, and_true, HO.lst.injEq, HO.tup.injEq, exists_and_left, exists_eq, exists_eq', Br.t, Br.f, Be.t, Be.f, List.cons.injEq, List.append_nil, scal, if_true, if_false, ite_true, ite_false, eq_self_iff_true, decide_true, decide_false, Bool.not_true, Bool.not_false, reduceIte, List.nil_append, List.cons_append, reduceCtorEq, false_and, exists_false, false_or, or_false, Int.reduceLT, ral, rsq, rlu, rdp, Bool.true_or, Bool.false_or, Bool.or_false, Bool.or_true, ha]
    exact ⟨_, rfl, .inl ⟨_, .orders h1 h2, ho⟩⟩
  | at1 h1 h2 h3 =>
    simp only [and_assoc, rst, rs, re, ra, rq, rx, ro, rl, rl2, rsp, rz, rix, rln, rg, rd, ri, rv, rk, rdd, rwi, at0, at1, at2, at3, upd_at, List.getElem?_cons_zero, List.getElem?_cons_succ, Option.some.injEq, exists_eq_left', exists_eq_left, List.set_cons_zero, List.set_cons_succ, true_and, and_true, HO.lst.injEq, HO.tup.injEq, exists_and_left, exists_eq, exists_eq', Br.t, Br.f, Be.t, Be.f, List.cons.injEq, List.append_nil, scal, if_true, if_false, ite_true, ite_false, eq_self_iff_true, decide_true, decide_false, Bool.not_true, Bool.not_false, reduceIte, List.nil_append, List.cons_append, reduceCtorEq, false_and, exists_false, false_or, or_false, Int.reduceLT, ral, rsq, rlu, rdp, Bool.true_or, Bool.false_or, Bool.or_false, Bool.or_true, ha]
    refine Br.d (fun c => absurd c (by decide +kernel)) fun _ => ?_
    simp only [and_assoc, rst, rs, re, ra, rq, rx, ro, rl, rl2, rsp, rz, rix, rln, rg, rd, ri, rv, rk, rdd, rwi, at0, at1, at2, at3, upd_at, List.getElem?_cons_zero, List.getElem?_cons_succ, Option.some.injEq, exists_eq_left', exists_eq_left, List.set_cons_zero, List.set_cons_succ, true_and, and_true, HO.lst.injEq, HO.tup.injEq, exists_and_left, exists_eq, exists_eq', Br.t, Br.f, Be.t, Be.f, List.cons.injEq, List.append_nil, scal, if_true, if_false, ite_true, ite_false, eq_self_iff_true, decide_true, decide_false, Bool.not_true, Bool.not_false, reduceIte, List.nil_append, List.cons_append, reduceCtorEq, false_and, exists_false, false_or, or_false, Int.reduceLT, ral, rsq, rlu, rdp, Bool.true_or, Bool.false_or, Bool.or_false, Bool.or_true, ha]
    exact ⟨_, _, rfl, _, .at1 h1 h2 h3, ho⟩
  | at2 h1 h2 h3 =>
    simp only [and_assoc, rst, rs, re, ra, rq, rx, ro, rl, rl2, rsp, rz, rix, rln, rg, rd, ri, rv, rk, rdd, rwi, at0, at1, at2, at3, upd_at, List.getElem?_cons_zero, List.getElem?_cons_succ, Option.some.injEq, exists_eq_left', exists_eq_left, List.set_cons_zero, List.set_cons_succ, true_and, and_true, HO.lst.injEq, HO.tup.injEq, exists_and_left, exists_eq, exists_eq', Br.t, Br.f, Be.t, Be.f, List.cons.injEq, List.append_nil, scal, if_true, if_false, ite_true, ite_false, eq_self_iff_true, decide_true, decide_false, Bool.not_true, Bool.not_false, reduceIte, List.nil_append, List.cons_append, reduceCtorEq, false_and, exists_false, false_or, or_false, Int.reduceLT, ral, rsq, rlu, rdp, Bool.true_or, Bool.false_or, Bool.or_false, Bool.or_true, ha]
    refine Br.d (fun c => absurd c (by decide +kernel)) fun _ => ?_
    simp only [and_assoc, rst, rs, re, ra, rq, rx, ro, rl, rl2, rsp, rz, rix, rln, rg, rd, ri, rv, rk, rdd, rwi, at0, at1, at2, at3, upd_at, List.getElem?_cons_zero, List.getElem?_cons_succ, Option.some.injEq, exists_eq_left', exists_eq_left, List.set_cons_zero, List.set_cons_succ, true_and, and_true, HO.lst.injEq, HO.tup.injEq, exists_and_left, exists_eq, exists_eq', Br.t, Br.f, Be.t, Be.f, List.cons.injEq, List.append_nil, scal, if_true, if_false, ite_true, ite_false, eq_self_iff_true, decide_true, decide_false, Bool.not_true, Bool.not_false, reduceIte, List.nil_append, List.cons_append, reduceCtorEq, false_and, exists_false, false_or, or_false, Int.reduceLT, ral, rsq, rlu, rdp, Bool.true_or, Bool.false_or, Bool.or_false, Bool.or_true, ha]
    exact ⟨_, _, rfl, _, .at2 h1 h2 h3, ho⟩
  | at3 h1 =>
    simp only [and_assoc, rst, rs, re, ra, rq, rx, ro, rl, rl2, rsp, rz, rix, rln, rg, rd, ri, rv, rk, rdd, rwi, at0, at1, at2, at3, upd_at, List.getElem?_cons_zero, List.getElem?_cons_succ, Option.some.injEq, exists_eq_left', exists_eq_left, List.set_cons_zero, List.set_cons_succ, true_and, and_true, HO.lst.injEq, HO.tup.injEq, exists_and_left, exists_eq, exists_eq', Br.t, Br.f, Be.t, Be.f, List.cons.injEq, List.append_nil, scal, if_true, if_false, ite_true, ite_false, eq_self_iff_true, decide_true, decide_false, Bool.not_true, Bool.not_false, reduceIte, List.nil_append, List.cons_append, reduceCtorEq, false_and, exists_false, false_or, or_false, Int.reduceLT, ral, rsq, rlu, rdp, Bool.true_or, Bool.false_or, Bool.or_false, Bool.or_true, ha]
    refine Br.d (fun c => absurd c (by decide +kernel)) fun _ => ?_
    simp only [and_assoc, rst, rs, re, ra, rq, rx, ro, rl, rl2, rsp, rz, rix, rln, rg, rd, ri, rv, rk, rdd, rwi, at0, at1, at2, at3, upd_at, List.getElem?_cons_zero, List.getElem?_cons_succ, Option.some.injEq, exists_eq_left', exists_eq_left, List.set_cons_zero, List.set_cons_succ, true_and, and_true, HO.lst.injEq, HO.tup.injEq, exists_and_left, exists_eq, exists_eq', Br.t, Br.f, Be.t, Be.f, List.cons.injEq, List.append_nil, scal, if_true, if_false, ite_true, ite_false, eq_self_iff_true, decide_true, decide_false, Bool.not_true, Bool.not_false, reduceIte, List.nil_append, List.cons_append, reduceCtorEq, false_and, exists_false, false_or, or_false, Int.reduceLT, ral, rsq, rlu, rdp, Bool.true_or, Bool.false_or, Bool.or_false, Bool.or_true, ha]
    exact ⟨_, _, rfl, _, .at3 h1, ho⟩
  | rank h1 h2 =>
    simp only [and_assoc, rst, rs, re, ra, rq, rx, ro, rl, rl2, rsp, rz, rix, rln, rg, rd, ri, rv, rk, rdd, rwi, at0, at1, at2, at3, upd_at, List.getElem?_cons_zero, List.getElem?_cons_succ, Option.some.injEq, exists_eq_left', exists_eq_left, List.set_cons_zero, List.set_cons_succ, true_and, and_true, HO.lst.injEq, HO.tup.injEq, exists_and_left, exists_eq, exists_eq', Br.t, Br.f, Be.t, Be.f, List.cons.injEq, List.append_nil, scal, if_true, if_false, ite_true, ite_false, eq_self_iff_true, decide_true, decide_false, Bool.not_true, Bool.not_false, reduceIte, List.nil_append, List.cons_append, reduceCtorEq, false_and, exists_false, false_or, or_false, Int.reduceLT, ral, rsq, rlu, rdp, Bool.true_or, Bool.false_or, Bool.or_false, Bool.or_true, ha]
    refine Br.d (fun c => absurd c (by decide +kernel)) fun _ => ?_
    simp only [and_assoc, rst, rs, re, ra, rq, rx, ro, rl, rl2, rsp, rz, rix, rln, rg, rd, ri, rv, rk, rdd, rwi, at0, at1, at2, at3, upd_at, List.getElem?_cons_zero, List.getElem?_cons_succ, Option.some.injEq, exists_eq_left', exists_eq_left, List.set_cons_zero, List.set_cons_succ, true_and, and_true, HO.lst.injEq, HO.tup.injEq, exists_and_left, exists_eq, exists_eq', Br.t, Br.f, Be.t, Be.f, List.cons.injEq, List.append_nil, scal, if_true, if_false, ite_true, ite_false, eq_self_iff_true, decide_true, decide_false, Bool.not_true, Bool.not_false, reduceIte, List.nil_append, List.cons_append, reduceCtorEq, false_and, exists_false, false_or, or_false, Int.reduceLT, ral, rsq, rlu, rdp, Bool.true_or, Bool.false_or, Bool.or_false, Bool.or_true, ha]
    refine Br.d (fun c => absurd c (by decide +kernel)) fun _ => ?_
    simp only [and_assoc, rst, rs, re, ra, rq, rx, ro, rl, rl2, rsp, rz, rix, rln, rg, rd, ri, rv, rk, rdd, rwi, at0, at1, at2, at3, upd_at, List.getElem?_cons_zero, List.getElem?_cons_succ, Option.some.injEq, exists_eq_left', exists_eq_left, List.set_cons_zero, List.set_cons_succ, true_and, and_true, HO.lst.injEq, HO.tup.injEq, exists_and_left, exists_eq, exists_eq', Br.t, Br.f, Be.t, Be.f, List.cons.injEq, List.append_nil, scal, if_true, if_false, ite_true, ite_false, eq_self_iff_true, decide_true, decide_false, Bool.not_true, Bool.not_false, reduceIte, List.nil_append, List.cons_append, reduceCtorEq, false_and, exists_false, false_or, or_false, Int.reduceLT, ral, rsq, rlu, rdp, Bool.true_or, Bool.false_or, Bool.or_false, Bool.or_true, ha]
    exact ⟨_, rfl, _, .rank h1 h2, ho⟩
  | next1 h1 =>
    simp only [and_assoc, rst, rs, re, ra, rq, rx, ro, rl, rl2, rsp, rz, rix, rln, rg, rd, ri, rv, rk, rdd, rwi, at0, at1, at2, at3, upd_at, List.getElem?_cons_zero, List.getElem?_cons_succ, Option.some.injEq, exists_eq_left', exists_eq_left, List.set_cons_zero, List.set_cons_succ, true_and, and_true, HO.lst.injEq, HO.tup.injEq, exists_and_left, exists_eq, exists_eq', Br.t, Br.f, Be.t, Be.f, List.cons.injEq, List.append_nil, scal, if_true, if_false, ite_true, ite_false, eq_self_iff_true, decide_true, decide_false, Bool.not_true, Bool.not_false, reduceIte, List.nil_append, List.cons_append, reduceCtorEq, false_and, exists_false, false_or, or_false, Int.reduceLT, ral, rsq, rlu, rdp, Bool.true_or, Bool.false_or, Bool.or_false, Bool.or_true, ha]
    refine Br.d (fun c => absurd c (by decide +kernel)) fun _ => ?_
    simp only [and_assoc, rst, rs, re, ra, rq, rx, ro, rl, rl2, rsp, rz, rix, rln, rg, rd, ri, rv, rk, rdd, rwi, at0, at1, at2, at3, upd_at, List.getElem?_cons_zero, List.getElem?_cons_succ, Option.some.injEq, exists_eq_left', exists_eq_left, List.set_cons_zero, List.set_cons_succ, true_and, and_true, HO.lst.injEq, HO.tup.injEq, exists_and_left, exists_eq, exists_eq', Br.t, Br.f, Be.t, Be.f, List.cons.injEq, List.append_nil, scal, if_true, if_false, ite_true, ite_false, eq_self_iff_true, decide_true, decide_false, Bool.not_true, Bool.not_false, reduceIte, List.nil_append, List.cons_append, reduceCtorEq, false_and, exists_false, false_or, or_false, Int.reduceLT, ral, rsq, rlu, rdp, Bool.true_or, Bool.false_or, Bool.or_false, Bool.or_true, ha]
    refine Br.d (fun c => absurd c (by decide +kernel)) fun _ => ?_
    simp only [and_assoc, rst, rs, re, ra, rq, rx, ro, rl, rl2, rsp, rz, rix, rln, rg, rd, ri, rv, rk, rdd, rwi, at0, at1, at2, at3, upd_at, List.getElem?_cons_zero, List.getElem?_cons_succ, Option.some.injEq, exists_eq_left', exists_eq_left, List.set_cons_zero, List.set_cons_succ, true_and, and_true, HO.lst.injEq, HO.tup.injEq, exists_and_left, exists_eq, exists_eq', Br.t, Br.f, Be.t, Be.f, List.cons.injEq, List.append_nil, scal, if_true, if_false, ite_true, ite_false, eq_self_iff_true, decide_true, decide_false, Bool.not_true, Bool.not_false, reduceIte, List.nil_append, List.cons_append, reduceCtorEq, false_and, exists_false, false_or, or_false, Int.reduceLT, ral, rsq, rlu, rdp, Bool.true_or, Bool.false_or, Bool.or_false, Bool.or_true, ha]
    refine Br.d (fun c => absurd c (by decide +kernel)) fun _ => ?_
    simp only [and_assoc, rst, rs, re, ra, rq, rx, ro, rl, rl2, rsp, rz, rix, rln, rg, rd, ri, rv, rk, rdd, rwi, at0, at1, at2, at3, upd_at, List.getElem?_cons_zero, List.getElem?_cons_succ, Option.some.injEq, exists_eq_left', exists_eq_left, List.set_cons_zero, List.set_cons_succ, true_and, and_true, HO.lst.injEq, HO.tup.injEq, exists_and_left, exists_eq, exists_eq', Br.t, Br.f, Be.t, Be.f, List.cons.injEq, List.append_nil, scal, if_true, if_false, ite_true, ite_false, eq_self_iff_true, decide_true, decide_false, Bool.not_true, Bool.not_false, reduceIte, List.nil_append, List.cons_append, reduceCtorEq, false_and, exists_false, false_or, or_false, Int.reduceLT, ral, rsq, rlu, rdp, Bool.true_or, Bool.false_or, Bool.or_false, Bool.or_true, ha]
    exact ⟨_, rfl, _, .next1 h1, ho⟩
  | next2 h1 =>
    simp only [and_assoc, rst, rs, re, ra, rq, rx, ro, rl, rl2, rsp, rz, rix, rln, rg, rd, ri, rv, rk, rdd, rwi, at0, at1, at2, at3, upd_at, List.getElem?_cons_zero, List.getElem?_cons_succ, Option.some.injEq, exists_eq_left', exists_eq_left, List.set_cons_zero, List.set_cons_succ, true_and, and_true, HO.lst.injEq, HO.tup.injEq, exists_and_left, exists_eq, exists_eq', Br.t, Br.f, Be.t, Be.f, List.cons.injEq, List.append_nil, scal, if_true, if_false, ite_true, ite_false, eq_self_iff_true, decide_true, decide_false, Bool.not_true, Bool.not_false, reduceIte, List.nil_append, List.cons_append, reduceCtorEq, false_and, exists_false, false_or, or_false, Int.reduceLT, ral, rsq, rlu, rdp, Bool.true_or, Bool.false_or, Bool.or_false, Bool.or_true, ha]
    refine Br.d (fun c => absurd c (by decide +kernel)) fun _ => ?_
    simp only [and_assoc, rst, rs, re, ra, rq, rx, ro, rl, rl2, rsp, rz, rix, rln, rg, rd, ri, rv, rk, rdd, rwi, at0, at1, at2, at3, upd_at, List.getElem?_cons_zero, List.getElem?_cons_succ, Option.some.injEq, exists_eq_left', exists_eq_left, List.set_cons_zero, List.set_cons_succ, true_and, and_true, HO.lst.injEq, HO.tup.injEq, exists_and_left, exists_eq, exists_eq', Br.t, Br.f, Be.t, Be.f, List.cons.injEq, List.append_nil, scal, if_true, if_false, ite_true, ite_false, eq_self_iff_true, decide_true, decide_false, Bool.not_true, Bool.not_false, reduceIte, List.nil_append, List.cons_append, reduceCtorEq, false_and, exists_false, false_or, or_false, Int.reduceLT, ral, rsq, rlu, rdp, Bool.true_or, Bool.false_or, Bool.or_false, Bool.or_true, ha]
    refine Br.d (fun c => absurd c (by decide +kernel)) fun _ => ?_
    simp only [and_assoc, rst, rs, re, ra, rq, rx, ro, rl, rl2, rsp, rz, rix, rln, rg, rd, ri, rv, rk, rdd, rwi, at0, at1, at2, at3, upd_at, List.getElem?_cons_zero, List.getElem?_cons_succ, Option.some.injEq, exists_eq_left', exists_eq_left, List.set_cons_zero, List.set_cons_succ, true_and, and_true, HO.lst.injEq, HO.tup.injEq, exists_and_left, exists_eq, exists_eq', Br.t, Br.f, Be.t, Be.f, List.cons.injEq, List.append_nil, scal, if_true, if_false, ite_true, ite_false, eq_self_iff_true, decide_true, decide_false, Bool.not_true, Bool.not_false, reduceIte, List.nil_append, List.cons_append, reduceCtorEq, false_and, exists_false, false_or, or_false, Int.reduceLT, ral, rsq, rlu, rdp, Bool.true_or, Bool.false_or, Bool.or_false, Bool.or_true, ha]
    refine Br.d (fun c => absurd c (by decide +kernel)) fun _ => ?_
    simp only [and_assoc, rst, rs, re, ra, rq, rx, ro, rl, rl2, rsp, rz, rix, rln, rg, rd, ri, rv, rk, rdd, rwi, at0, at1, at2, at3, upd_at, List.getElem?_cons_zero, List.getElem?_cons_succ, Option.some.injEq, exists_eq_left', exists_eq_left, List.set_cons_zero, List.set_cons_succ, true_and, and_true, HO.lst.injEq, HO.tup.injEq, exists_and_left, exists_eq, exists_eq', Br.t, Br.f, Be.t, Be.f, List.cons.injEq, List.append_nil, scal, if_true, if_false, ite_true, ite_false, eq_self_iff_true, decide_true, decide_false, Bool.not_true, Bool.not_false, reduceIte, List.nil_append, List.cons_append, reduceCtorEq, false_and, exists_false, false_or, or_false, Int.reduceLT, ral, rsq, rlu, rdp, Bool.true_or, Bool.false_or, Bool.or_false, Bool.or_true, ha]
    exact ⟨_, rfl, _, .next2 h1, ho⟩
  | laid h1 h2 h3 =>
    simp only [and_assoc, rst, rs, re, ra, rq, rx, ro, rl, rl2, rsp, rz, rix, rln, rg, rd, ri, rv, rk, rdd, rwi, at0, at1, at2, at3, upd_at, List.getElem?_cons_zero, List.getElem?_cons_succ, Option.some.injEq, exists_eq_left', exists_eq_left, List.set_cons_zero, List.set_cons_succ, true_and, and_true, HO.lst.injEq, HO.tup.injEq, exists_and_left, exists_eq, exists_eq', Br.t, Br.f, Be.t, Be.f, List.cons.injEq, List.append_nil, scal, if_true, if_false, ite_true, ite_false, eq_self_iff_true, decide_true, decide_false, Bool.not_true, Bool.not_false, reduceIte, List.nil_append, List.cons_append, reduceCtorEq, false_and, exists_false, false_or, or_false, Int.reduceLT, ral, rsq, rlu, rdp, Bool.true_or, Bool.false_or, Bool.or_false, Bool.or_true, ha]
    refine Br.d (fun c => absurd c (by decide +kernel)) fun _ => ?_
    simp only [and_assoc, rst, rs, re, ra, rq, rx, ro, rl, rl2, rsp, rz, rix, rln, rg, rd, ri, rv, rk, rdd, rwi, at0, at1, at2, at3, upd_at, List.getElem?_cons_zero, List.getElem?_cons_succ, Option.some.injEq, exists_eq_left', exists_eq_left, List.set_cons_zero, List.set_cons_succ, true_and, and_true, HO.lst.injEq, HO.tup.injEq, exists_and_left, exists_eq, exists_eq', Br.t, Br.f, Be.t, Be.f, List.cons.injEq, List.append_nil, scal, if_true, if_false, ite_true, ite_false, eq_self_iff_true, decide_true, decide_false, Bool.not_true, Bool.not_false, reduceIte, List.nil_append, List.cons_append, reduceCtorEq, false_and, exists_false, false_or, or_false, Int.reduceLT, ral, rsq, rlu, rdp, Bool.true_or, Bool.false_or, Bool.or_false, Bool.or_true, ha]
    refine Br.d (fun c => absurd c (by decide +kernel)) fun _ => ?_
    simp only [and_assoc, rst, rs, re, ra, rq, rx, ro, rl, rl2, rsp, rz, rix, rln, rg, rd, ri, rv, rk, rdd, rwi, at0, at1, at2, at3, upd_at, List.getElem?_cons_zero, List.getElem?_cons_succ, Option.some.injEq, exists_eq_left', exists_eq_left, List.set_cons_zero, List.set_cons_succ, true_and, and_true, HO.lst.injEq, HO.tup.injEq, exists_and_left, exists_eq, exists_eq', Br.t, Br.f, Be.t, Be.f, List.cons.injEq, List.append_nil, scal, if_true, if_false, ite_true, ite_false, eq_self_iff_true, decide_true, decide_false, Bool.not_true, Bool.not_false, reduceIte, List.nil_append, List.cons_append, reduceCtorEq, false_and, exists_false, false_or, or_false, Int.reduceLT, ral, rsq, rlu, rdp, Bool.true_or, Bool.false_or, Bool.or_false, Bool.or_true, ha]
    refine Br.d (fun c => absurd c (by decide +kernel)) fun _ => ?_
    simp only [and_assoc, rst, rs, re, ra, rq, rx, ro, rl, rl2, rsp, rz, rix, rln, rg, rd, ri, rv, rk, rdd, rwi, at0, at1, at2, at3, upd_at, List.getElem?_cons_zero, List.getElem?_cons_succ, Option.some.injEq, exists_eq_left', exists_eq_left, List.set_cons_zero, List.set_cons_succ, true_and, and_true, HO.lst.injEq, HO.tup.injEq, exists_and_left, exists_eq, exists_eq', Br.t, Br.f, Be.t, Be.f, List.cons.injEq, List.append_nil, scal, if_true, if_false, ite_true, ite_false, eq_self_iff_true, decide_true, decide_false, Bool.not_true, Bool.not_false, reduceIte, List.nil_append, List.cons_append, reduceCtorEq, false_and, exists_false, false_or, or_false, Int.reduceLT, ral, rsq, rlu, rdp, Bool.true_or, Bool.false_or, Bool.or_false, Bool.or_true, ha]
    refine Br.d (fun c => absurd c (by decide +kernel)) fun _ => ?_
    simp only [and_assoc, rst, rs, re, ra, rq, rx, ro, rl, rl2, rsp, rz, rix, rln, rg, rd, ri, rv, rk, rdd, rwi, at0, at1, at2, at3, upd_at, List.getElem?_cons_zero, List.getElem?_cons_succ, Option.some.injEq, exists_eq_left', exists_eq_left, List.set_cons_zero, List.set_cons_succ, true_and, and_true, HO.lst.injEq, HO.tup.injEq, exists_and_left, exists_eq, exists_eq', Br.t, Br.f, Be.t, Be.f, List.cons.injEq, List.append_nil, scal, if_true, if_false, ite_true, ite_false, eq_self_iff_true, decide_true, decide_false, Bool.not_true, Bool.not_false, reduceIte, List.nil_append, List.cons_append, reduceCtorEq, false_and, exists_false, false_or, or_false, Int.reduceLT, ral, rsq, rlu, rdp, Bool.true_or, Bool.false_or, Bool.or_false, Bool.or_true, ha]
    exact ⟨_, _, rfl, _, .laid h1 h2 h3, ho⟩
  | turned h1 =>
    simp only [and_assoc, rst, rs, re, ra, rq, rx, ro, rl, rl2, rsp, rz, rix, rln, rg, rd, ri, rv, rk, rdd, rwi, at0, at1, at2, at3, upd_at, List.getElem?_cons_zero, List.getElem?_cons_succ, Option.some.injEq, exists_eq_left', exists_eq_left, List.set_cons_zero, List.set_cons_succ, true_and, and_true, HO.lst.injEq, HO.tup.injEq, exists_and_left, exists_eq, exists_eq', Br.t, Br.f, Be.t, Be.f, List.cons.injEq, List.append_nil, scal, if_true, if_false, ite_true, ite_false, eq_self_iff_true, decide_true, decide_false, Bool.not_true, Bool.not_false, reduceIte, List.nil_append, List.cons_append, reduceCtorEq, false_and, exists_false, false_or, or_false, Int.reduceLT, ral, rsq, rlu, rdp, Bool.true_or, Bool.false_or, Bool.or_false, Bool.or_true, ha]
    refine Br.d (fun c => absurd c (by decide +kernel)) fun _ => ?_
    simp only [and_assoc, rst, rs, re, ra, rq, rx, ro, rl, rl2, rsp, rz, rix, rln, rg, rd, ri, rv, rk, rdd, rwi, at0, at1, at2, at3, upd_at, List.getElem?_cons_zero, List.getElem?_cons_succ, Option.some.injEq, exists_eq_left', exists_eq_left, List.set_cons_zero, List.set_cons_succ, true_and, and_true, HO.lst.injEq, HO.tup.injEq, exists_and_left, exists_eq, exists_eq', Br.t, Br.f, Be.t, Be.f, List.cons.injEq, List.append_nil, scal, if_true, if_false, ite_true, ite_false, eq_self_iff_true, decide_true, decide_false, Bool.not_true, Bool.not_false, reduceIte, List.nil_append, List.cons_append, reduceCtorEq, false_and, exists_false, false_or, or_false, Int.reduceLT, ral, rsq, rlu, rdp, Bool.true_or, Bool.false_or, Bool.or_false, Bool.or_true, ha]
    refine Br.d (fun c => absurd c (by decide +kernel)) fun _ => ?_
    simp only [and_assoc, rst, rs, re, ra, rq, rx, ro, rl, rl2, rsp, rz, rix, rln, rg, rd, ri, rv, rk, rdd, rwi, at0, at1, at2, at3, upd_at, List.getElem?_cons_zero, List.getElem?_cons_succ, Option.some.injEq, exists_eq_left', exists_eq_left, List.set_cons_zero, List.set_cons_succ, true_and, and_true, HO.lst.injEq, HO.tup.injEq, exists_and_left, exists_eq, exists_eq', Br.t, Br.f, Be.t, Be.f, List.cons.injEq, List.append_nil, scal, if_true, if_false, ite_true, ite_false, eq_self_iff_true, decide_true, decide_false, Bool.not_true, Bool.not_false, reduceIte, List.nil_append, List.cons_append, reduceCtorEq, false_and, exists_false, false_or, or_false, Int.reduceLT, ral, rsq, rlu, rdp, Bool.true_or, Bool.false_or, Bool.or_false, Bool.or_true, ha]
    refine Br.d (fun c => absurd c (by decide +kernel)) fun _ => ?_
    simp only [and_assoc, rst, rs, re, ra, rq, rx, ro, rl, rl2, rsp, rz, rix, rln, rg, rd, ri, rv, rk, rdd, rwi, at0, at1, at2, at3, upd_at, List.getElem?_cons_zero, List.getElem?_cons_succ, Option.some.injEq, exists_eq_left', exists_eq_left, List.set_cons_zero, List.set_cons_succ, true_and, and_true, HO.lst.injEq, HO.tup.injEq, exists_and_left, exists_eq, exists_eq', Br.t, Br.f, Be.t, Be.f, List.cons.injEq, List.append_nil, scal, if_true, if_false, ite_true, ite_false, eq_self_iff_true, decide_true, decide_false, Bool.not_true, Bool.not_false, reduceIte, List.nil_append, List.cons_append, reduceCtorEq, false_and, exists_false, false_or, or_false, Int.reduceLT, ral, rsq, rlu, rdp, Bool.true_or, Bool.false_or, Bool.or_false, Bool.or_true, ha]
    refine Br.d (fun c => absurd c (by decide +kernel)) fun _ => ?_
    simp only [and_assoc, rst, rs, re, ra, rq, rx, ro, rl, rl2, rsp, rz, rix, rln, rg, rd, ri, rv, rk, rdd, rwi, at0, at1, at2, at3, upd_at, List.getElem?_cons_zero, List.getElem?_cons_succ, Option.some.injEq, exists_eq_left', exists_eq_left, List.set_cons_zero, List.set_cons_succ, true_and, and_true, HO.lst.injEq, HO.tup.injEq, exists_and_left, exists_eq, exists_eq', Br.t, Br.f, Be.t, Be.f, List.cons.injEq, List.append_nil, scal, if_true, if_false, ite_true, ite_false, eq_self_iff_true, decide_true, decide_false, Bool.not_true, Bool.not_false, reduceIte, List.nil_append, List.cons_append, reduceCtorEq, false_and, exists_false, false_or, or_false, Int.reduceLT, ral, rsq, rlu, rdp, Bool.true_or, Bool.false_or, Bool.or_false, Bool.or_true, ha]
    refine Br.d (fun c => absurd c (by decide +kernel)) fun _ => ?_
    simp only [and_assoc, rst, rs, re, ra, rq, rx, ro, rl, rl2, rsp, rz, rix, rln, rg, rd, ri, rv, rk, rdd, rwi, at0, at1, at2, at3, upd_at, List.getElem?_cons_zero, List.getElem?_cons_succ, Option.some.injEq, exists_eq_left', exists_eq_left, List.set_cons_zero, List.set_cons_succ, true_and, and_true, HO.lst.injEq, HO.tup.injEq, exists_and_left, exists_eq, exists_eq', Br.t, Br.f, Be.t, Be.f, List.cons.injEq, List.append_nil, scal, if_true, if_false, ite_true, ite_false, eq_self_iff_true, decide_true, decide_false, Bool.not_true, Bool.not_false, reduceIte, List.nil_append, List.cons_append, reduceCtorEq, false_and, exists_false, false_or, or_false, Int.reduceLT, ral, rsq, rlu, rdp, Bool.true_or, Bool.false_or, Bool.or_false, Bool.or_true, ha]
    exact ⟨_, rfl, _, .turned h1, ho⟩
  | by1 h1 =>
    simp only [and_assoc, rst, rs, re, ra, rq, rx, ro, rl, rl2, rsp, rz, rix, rln, rg, rd, ri, rv, rk, rdd, rwi, at0, at1, at2, at3, upd_at, List.getElem?_cons_zero, List.getElem?_cons_succ, Option.some.injEq, exists_eq_left', exists_eq_left, List.set_cons_zero, List.set_cons_succ, true_and, and_true, HO.lst.injEq, HO.tup.injEq, exists_and_left, exists_eq, exists_eq', Br.t, Br.f, Be.t, Be.f, List.cons.injEq, List.append_nil, scal, if_true, if_false, ite_true, ite_false, eq_self_iff_true, decide_true, decide_false, Bool.not_true, Bool.not_false, reduceIte, List.nil_append, List.cons_append, reduceCtorEq, false_and, exists_false, false_or, or_false, Int.reduceLT, ral, rsq, rlu, rdp, Bool.true_or, Bool.false_or, Bool.or_false, Bool.or_true, ha]
    refine Br.d (fun c => absurd c (by decide +kernel)) fun _ => ?_
    simp only [and_assoc, rst, rs, re, ra, rq, rx, ro, rl, rl2, rsp, rz, rix, rln, rg, rd, ri, rv, rk, rdd, rwi, at0, at1, at2, at3, upd_at, List.getElem?_cons_zero, List.getElem?_cons_succ, Option.some.injEq, exists_eq_left', exists_eq_left, List.set_cons_zero, List.set_cons_succ, true_and, and_true, HO.lst.injEq, HO.tup.injEq, exists_and_left, exists_eq, exists_eq', Br.t, Br.f, Be.t, Be.f, List.cons.injEq, List.append_nil, scal, if_true, if_false, ite_true, ite_false, eq_self_iff_true, decide_true, decide_false, Bool.not_true, Bool.not_false, reduceIte, List.nil_append, List.cons_append, reduceCtorEq, false_and, exists_false, false_or, or_false, Int.reduceLT, ral, rsq, rlu, rdp, Bool.true_or, Bool.false_or, Bool.or_false, Bool.or_true, ha]
    refine Br.d (fun c => absurd c (by decide +kernel)) fun _ => ?_
    simp only [and_assoc, rst, rs, re, ra, rq, rx, ro, rl, rl2, rsp, rz, rix, rln, rg, rd, ri, rv, rk, rdd, rwi, at0, at1, at2, at3, upd_at, List.getElem?_cons_zero, List.getElem?_cons_succ, Option.some.injEq, exists_eq_left', exists_eq_left, List.set_cons_zero, List.set_cons_succ, true_and, and_true, HO.lst.injEq, HO.tup.injEq, exists_and_left, exists_eq, exists_eq', Br.t, Br.f, Be.t, Be.f, List.cons.injEq, List.append_nil, scal, if_true, if_false, ite_true, ite_false, eq_self_iff_true, decide_true, decide_false, Bool.not_true, Bool.not_false, reduceIte, List.nil_append, List.cons_append, reduceCtorEq, false_and, exists_false, false_or, or_false, Int.reduceLT, ral, rsq, rlu, rdp, Bool.true_or, Bool.false_or, Bool.or_false, Bool.or_true, ha]
    refine Br.d (fun c => absurd c (by decide +kernel)) fun _ => ?_
    simp only [and_assoc, rst, rs, re, ra, rq, rx, ro, rl, rl2, rsp, rz, rix, rln, rg, rd, ri, rv, rk, rdd, rwi, at0, at1, at2, at3, upd_at, List.getElem?_cons_zero, List.getElem?_cons_succ, Option.some.injEq, exists_eq_left', exists_eq_left, List.set_cons_zero, List.set_cons_succ, true_and, and_true, HO.lst.injEq, HO.tup.injEq, exists_and_left, exists_eq, exists_eq', Br.t, Br.f, Be.t, Be.f, List.cons.injEq, List.append_nil, scal, if_true, if_false, ite_true, ite_false, eq_self_iff_true, decide_true, decide_false, Bool.not_true, Bool.not_false, reduceIte, List.nil_append, List.cons_append, reduceCtorEq, false_and, exists_false, false_or, or_false, Int.reduceLT, ral, rsq, rlu, rdp, Bool.true_or, Bool.false_or, Bool.or_false, Bool.or_true, ha]
    refine Br.d (fun c => absurd c (by decide +kernel)) fun _ => ?_
    simp only [and_assoc, rst, rs, re, ra, rq, rx, ro, rl, rl2, rsp, rz, rix, rln, rg, rd, ri, rv, rk, rdd, rwi, at0, at1, at2, at3, upd_at, List.getElem?_cons_zero, List.getElem?_cons_succ, Option.some.injEq, exists_eq_left', exists_eq_left, List.set_cons_zero, List.set_cons_succ, true_and, and_true, HO.lst.injEq, HO.tup.injEq, exists_and_left, exists_eq, exists_eq', Br.t, Br.f, Be.t, Be.f, List.cons.injEq, List.append_nil, scal, if_true, if_false, ite_true, ite_false, eq_self_iff_true, decide_true, decide_false, Bool.not_true, Bool.not_false, reduceIte, List.nil_append, List.cons_append, reduceCtorEq, false_and, exists_false, false_or, or_false, Int.reduceLT, ral, rsq, rlu, rdp, Bool.true_or, Bool.false_or, Bool.or_false, Bool.or_true, ha]
    refine Br.d (fun c => absurd c (by decide +kernel)) fun _ => ?_
    simp only [and_assoc, rst, rs, re, ra, rq, rx, ro, rl, rl2, rsp, rz, rix, rln, rg, rd, ri, rv, rk, rdd, rwi, at0, at1, at2, at3, upd_at, List.getElem?_cons_zero, List.getElem?_cons_succ, Option.some.injEq, exists_eq_left', exists_eq_left, List.set_cons_zero, List.set_cons_succ, true_and, and_true, HO.lst.injEq, HO.tup.injEq, exists_and_left, exists_eq, exists_eq', Br.t, Br.f, Be.t, Be.f, List.cons.injEq, List.append_nil, scal, if_true, if_false, ite_true, ite_false, eq_self_iff_true, decide_true, decide_false, Bool.not_true, Bool.not_false, reduceIte, List.nil_append, List.cons_append, reduceCtorEq, false_and, exists_false, false_or, or_false, Int.reduceLT, ral, rsq, rlu, rdp, Bool.true_or, Bool.false_or, Bool.or_false, Bool.or_true, ha]
    refine Br.d (fun c => absurd c (by decide +kernel)) fun _ => ?_
    simp only [and_assoc, rst, rs, re, ra, rq, rx, ro, rl, rl2, rsp, rz, rix, rln, rg, rd, ri, rv, rk, rdd, rwi, at0, at1, at2, at3, upd_at, List.getElem?_cons_zero, List.getElem?_cons_succ, Option.some.injEq, exists_eq_left', exists_eq_left, List.set_cons_zero, List.set_cons_succ, true_and, and_true, HO.lst.injEq, HO.tup.injEq, exists_and_left, exists_eq, exists_eq', Br.t, Br.f, Be.t, Be.f, List.cons.injEq, List.append_nil, scal, if_true, if_false, ite_true, ite_false, eq_self_iff_true, decide_true, decide_false, Bool.not_true, Bool.not_false, reduceIte, List.nil_append, List.cons_append, reduceCtorEq, false_and, exists_false, false_or, or_false, Int.reduceLT, ral, rsq, rlu, rdp, Bool.true_or, Bool.false_or, Bool.or_false, Bool.or_true, ha]
    exact ⟨_, rfl, _, .by1 h1, ho⟩
  | by2 h1 h2 =>
    simp only [and_assoc, rst, rs, re, ra, rq, rx, ro, rl, rl2, rsp, rz, rix, rln, rg, rd, ri, rv, rk, rdd, rwi, at0, at1, at2, at3, upd_at, List.getElem?_cons_zero, List.getElem?_cons_succ, Option.some.injEq, exists_eq_left', exists_eq_left, List.set_cons_zero, List.set_cons_succ, true_and, and_true, HO.lst.injEq, HO.tup.injEq, exists_and_left, exists_eq, exists_eq', Br.t, Br.f, Be.t, Be.f, List.cons.injEq, List.append_nil, scal, if_true, if_false, ite_true, ite_false, eq_self_iff_true, decide_true, decide_false, Bool.not_true, Bool.not_false, reduceIte, List.nil_append, List.cons_append, reduceCtorEq, false_and, exists_false, false_or, or_false, Int.reduceLT, ral, rsq, rlu, rdp, Bool.true_or, Bool.false_or, Bool.or_false, Bool.or_true, ha]
    refine Br.d (fun c => absurd c (by decide +kernel)) fun _ => ?_
    simp only [and_assoc, rst, rs, re, ra, rq, rx, ro, rl, rl2, rsp, rz, rix, rln, rg, rd, ri, rv, rk, rdd, rwi, at0, at1, at2, at3, upd_at, List.getElem?_cons_zero, List.getElem?_cons_succ, Option.some.injEq, exists_eq_left', exists_eq_left, List.set_cons_zero, List.set_cons_succ, true_and, and_true, HO.lst.injEq, HO.tup.injEq, exists_and_left, exists_eq, exists_eq', Br.t, Br.f, Be.t, Be.f, List.cons.injEq, List.append_nil, scal, if_true, if_false, ite_true, ite_false, eq_self_iff_true, decide_true, decide_false, Bool.not_true, Bool.not_false, reduceIte, List.nil_append, List.cons_append, reduceCtorEq, false_and, exists_false, false_or, or_false, Int.reduceLT, ral, rsq, rlu, rdp, Bool.true_or, Bool.false_or, Bool.or_false, Bool.or_true, ha]
    refine Br.d (fun c => absurd c (by decide +kernel)) fun _ => ?_
    simp only [and_assoc, rst, rs, re, ra, rq, rx, ro, rl, rl2, rsp, rz, rix, rln, rg, rd, ri, rv, rk, rdd, rwi, at0, at1, at2, at3, upd_at, List.getElem?_cons_zero, List.getElem?_cons_succ, Option.some.injEq, exists_eq_left', exists_eq_left, List.set_cons_zero, List.set_cons_succ, true_and, and_true, HO.lst.injEq, HO.tup.injEq, exists_and_left, exists_eq, exists_eq', Br.t, Br.f, Be.t, Be.f, List.cons.injEq, List.append_nil, scal, if_true, if_false, ite_true, ite_false, eq_self_iff_true, decide_true, decide_false, Bool.not_true, Bool.not_false, reduceIte, List.nil_append, List.cons_append, reduceCtorEq, false_and, exists_false, false_or, or_false, Int.reduceLT, ral, rsq, rlu, rdp, Bool.true_or, Bool.false_or, Bool.or_false, Bool.or_true, ha]
    refine Br.d (fun c => absurd c (by decide +kernel)) fun _ => ?_
    simp only [and_assoc, rst, rs, re, ra, rq, rx, ro, rl, rl2, rsp, rz, rix, rln, rg, rd, ri, rv, rk, rdd, rwi, at0, at1, at2, at3, upd_at, List.getElem?_cons_zero, List.getElem?_cons_succ, Option.some.injEq, exists_eq_left', exists_eq_left, List.set_cons_zero, List.set_cons_succ, true_and, and_true, HO.lst.injEq, HO.tup.injEq, exists_and_left, exists_eq, exists_eq', Br.t, Br.f, Be.t, Be.f, List.cons.injEq, List.append_nil, scal, if_true, if_false, ite_true, ite_false, eq_self_iff_true, decide_true, decide_false, Bool.not_true, Bool.not_false, reduceIte, List.nil_append, List.cons_append, reduceCtorEq, false_and, exists_false, false_or, or_false, Int.reduceLT, ral, rsq, rlu, rdp, Bool.true_or, Bool.false_or, Bool.or_false, Bool.or_true, ha]
    refine Br.d (fun c => absurd c (by decide +kernel)) fun _ => ?_
    simp only [and_assoc, rst, rs, re, ra, rq, rx, ro, rl, rl2, rsp, rz, rix, rln, rg, rd, ri, rv, rk, rdd, rwi, at0, at1, at2, at3, upd_at, List.getElem?_cons_zero, List.getElem?_cons_succ, Option.some.injEq, exists_eq_left', exists_eq_left, List.set_cons_zero, List.set_cons_succ, true_and, and_true, HO.lst.injEq, HO.tup.injEq, exists_and_left, exists_eq, exists_eq', Br.t, Br.f, Be.t, Be.f, List.cons.injEq, List.append_nil, scal, if_true, if_false, ite_true, ite_false, eq_self_iff_true, decide_true, decide_false, Bool.not_true, Bool.not_false, reduceIte, List.nil_append, List.cons_append, reduceCtorEq, false_and, exists_false, false_or, or_false, Int.reduceLT, ral, rsq, rlu, rdp, Bool.true_or, Bool.false_or, Bool.or_false, Bool.or_true, ha]
    refine Br.d (fun c => absurd c (by decide +kernel)) fun _ => ?_
    simp only [and_assoc, rst, rs, re, ra, rq, rx, ro, rl, rl2, rsp, rz, rix, rln, rg, rd, ri, rv, rk, rdd, rwi, at0, at1, at2, at3, upd_at, List.getElem?_cons_zero, List.getElem?_cons_succ, Option.some.injEq, exists_eq_left', exists_eq_left, List.set_cons_zero, List.set_cons_succ, true_and, and_true, HO.lst.injEq, HO.tup.injEq, exists_and_left, exists_eq, exists_eq', Br.t, Br.f, Be.t, Be.f, List.cons.injEq, List.append_nil, scal, if_true, if_false, ite_true, ite_false, eq_self_iff_true, decide_true, decide_false, Bool.not_true, Bool.not_false, reduceIte, List.nil_append, List.cons_append, reduceCtorEq, false_and, exists_false, false_or, or_false, Int.reduceLT, ral, rsq, rlu, rdp, Bool.true_or, Bool.false_or, Bool.or_false, Bool.or_true, ha]
    refine Br.d (fun c => absurd c (by decide +kernel)) fun _ => ?_
    simp only [and_assoc, rst, rs, re, ra, rq, rx, ro, rl, rl2, rsp, rz, rix, rln, rg, rd, ri, rv, rk, rdd, rwi, at0, at1, at2, at3, upd_at, List.getElem?_cons_zero, List.getElem?_cons_succ, Option.some.injEq, exists_eq_left', exists_eq_left, List.set_cons_zero, List.set_cons_succ, true_and, and_true, HO.lst.injEq, HO.tup.injEq, exists_and_left, exists_eq, exists_eq', Br.t, Br.f, Be.t, Be.f, List.cons.injEq, List.append_nil, scal, if_true, if_false, ite_true, ite_false, eq_self_iff_true, decide_true, decide_false, Bool.not_true, Bool.not_false, reduceIte, List.nil_append, List.cons_append, reduceCtorEq, false_and, exists_false, false_or, or_false, Int.reduceLT, ral, rsq, rlu, rdp, Bool.true_or, Bool.false_or, Bool.or_false, Bool.or_true, ha]
    exact ⟨_, rfl, _, .by2 h1 h2, ho⟩
  | by3 h1 h2 h3 h4 h5 h6 =>
    simp only [and_assoc, rst, rs, re, ra, rq, rx, ro, rl, rl2, rsp, rz, rix, rln, rg, rd, ri, rv, rk, rdd, rwi, at0, at1, at2, at3, upd_at, List.getElem?_cons_zero, List.getElem?_cons_succ, Option.some.injEq, exists_eq_left', exists_eq_left, List.set_cons_zero, List.set_cons_succ, true_and, and_true, HO.lst.injEq, HO.tup.injEq, exists_and_left, exists_eq, exists_eq', Br.t, Br.f, Be.t, Be.f, List.cons.injEq, List.append_nil, scal, if_true, if_false, ite_true, ite_false, eq_self_iff_true, decide_true, decide_false, Bool.not_true, Bool.not_false, reduceIte, List.nil_append, List.cons_append, reduceCtorEq, false_and, exists_false, false_or, or_false, Int.reduceLT, ral, rsq, rlu, rdp, Bool.true_or, Bool.false_or, Bool.or_false, Bool.or_true, ha]
    refine Br.d (fun c => absurd c (by decide +kernel)) fun _ => ?_
    simp only [and_assoc, rst, rs, re, ra, rq, rx, ro, rl, rl2, rsp, rz, rix, rln, rg, rd, ri, rv, rk, rdd, rwi, at0, at1, at2, at3, upd_at, List.getElem?_cons_zero, List.getElem?_cons_succ, Option.some.injEq, exists_eq_left', exists_eq_left, List.set_cons_zero, List.set_cons_succ, true_and, and_true, HO.lst.injEq, HO.tup.injEq, exists_and_left, exists_eq, exists_eq', Br.t, Br.f, Be.t, Be.f, List.cons.injEq, List.append_nil, scal, if_true, if_false, ite_true, ite_false, eq_self_iff_true, decide_true, decide_false, Bool.not_true, Bool.not_false, reduceIte, List.nil_append, List.cons_append, reduceCtorEq, false_and, exists_false, false_or, or_false, Int.reduceLT, ral, rsq, rlu, rdp, Bool.true_or, Bool.false_or, Bool.or_false, Bool.or_true, ha]
    refine Br.d (fun c => absurd c (by decide +kernel)) fun _ => ?_
    simp only [and_assoc, rst, rs, re, ra, rq, rx, ro, rl, rl2, rsp, rz, rix, rln, rg, rd, ri, rv, rk, rdd, rwi, at0, at1, at2, at3, upd_at, List.getElem?_cons_zero, List.getElem?_cons_succ, Option.some.injEq, exists_eq_left', exists_eq_left, List.set_cons_zero, List.set_cons_succ, true_and, and_true, HO.lst.injEq, HO.tup.injEq, exists_and_left, exists_eq, exists_eq', Br.t, Br.f, Be.t, Be.f, List.cons.injEq, List.append_nil, scal, if_true, if_false, ite_true, ite_false, eq_self_iff_true, decide_true, decide_false, Bool.not_true, Bool.not_false, reduceIte, List.nil_append, List.cons_append, reduceCtorEq, false_and, exists_false, false_or, or_false, Int.reduceLT, ral, rsq, rlu, rdp, Bool.true_or, Bool.false_or, Bool.or_false, Bool.or_true, ha]
    refine Br.d (fun c => absurd c (by decide +kernel)) fun _ => ?_
    simp only [and_assoc, rst, rs, re, ra, rq, rx, ro, rl, rl2, rsp, rz, rix, rln, rg, rd, ri, rv, rk, rdd, rwi, at0, at1, at2, at3, upd_at, List.getElem?_cons_zero, List.getElem?_cons_succ, Option.some.injEq, exists_eq_left', exists_eq_left, List.set_cons_zero, List.set_cons_succ, true_and, and_true, HO.lst.injEq, HO.tup.injEq, exists_and_left, exists_eq, exists_eq', Br.t, Br.f, Be.t, Be.f, List.cons.injEq, List.append_nil, scal, if_true, if_false, ite_true, ite_false, eq_self_iff_true, decide_true, decide_false, Bool.not_true, Bool.not_false, reduceIte, List.nil_append, List.cons_append, reduceCtorEq, false_and, exists_false, false_or, or_false, Int.reduceLT, ral, rsq, rlu, rdp, Bool.true_or, Bool.false_or, Bool.or_false, Bool.or_true, ha]
    refine Br.d (fun c => absurd c (by decide +kernel)) fun _ => ?_
    simp only [and_assoc, rst, rs, re, ra, rq, rx, ro, rl, rl2, rsp, rz, rix, rln, rg, rd, ri, rv, rk, rdd, rwi, at0, at1, at2, at3, upd_at, List.getElem?_cons_zero, List.getElem?_cons_succ, Option.some.injEq, exists_eq_left', exists_eq_left, List.set_cons_zero, List.set_cons_succ, true_and, and_true, HO.lst.injEq, HO.tup.injEq, exists_and_left, exists_eq, exists_eq', Br.t, Br.f, Be.t, Be.f, List.cons.injEq, List.append_nil, scal, if_true, if_false, ite_true, ite_false, eq_self_iff_true, decide_true, decide_false, Bool.not_true, Bool.not_false, reduceIte, List.nil_append, List.cons_append, reduceCtorEq, false_and, exists_false, false_or, or_false, Int.reduceLT, ral, rsq, rlu, rdp, Bool.true_or, Bool.false_or, Bool.or_false, Bool.or_true, ha]
    refine Br.d (fun c => absurd c (by decide +kernel)) fun _ => ?_
    simp only [and_assoc, rst, rs, re, ra, rq, rx, ro, rl, rl2, rsp, rz, rix, rln, rg, rd, ri, rv, rk, rdd, rwi, at0, at1, at2, at3, upd_at, List.getElem?_cons_zero, List.getElem?_cons_succ, Option.some.injEq, exists_eq_left', exists_eq_left, List.set_cons_zero, List.set_cons_succ, true_and, and_true, HO.lst.injEq, HO.tup.injEq, exists_and_left, exists_eq, exists_eq', Br.t, Br.f, Be.t, Be.f, List.cons.injEq, List.append_nil, scal, if_true, if_false, ite_true, ite_false, eq_self_iff_true, decide_true, decide_false, Bool.not_true, Bool.not_false, reduceIte, List.nil_append, List.cons_append, reduceCtorEq, false_and, exists_false, false_or, or_false, Int.reduceLT, ral, rsq, rlu, rdp, Bool.true_or, Bool.false_or, Bool.or_false, Bool.or_true, ha]
    refine Br.d (fun c => absurd c (by decide +kernel)) fun _ => ?_
    simp only [and_assoc, rst, rs, re, ra, rq, rx, ro, rl, rl2, rsp, rz, rix, rln, rg, rd, ri, rv, rk, rdd, rwi, at0, at1, at2, at3, upd_at, List.getElem?_cons_zero, List.getElem?_cons_succ, Option.some.injEq, exists_eq_left', exists_eq_left, List.set_cons_zero, List.set_cons_succ, true_and, and_true, HO.lst.injEq, HO.tup.injEq, exists_and_left, exists_eq, exists_eq', Br.t, Br.f, Be.t, Be.f, List.cons.injEq, List.append_nil, scal, if_true, if_false, ite_true, ite_false, eq_self_iff_true, decide_true, decide_false, Bool.not_true, Bool.not_false, reduceIte, List.nil_append, List.cons_append, reduceCtorEq, false_and, exists_false, false_or, or_false, Int.reduceLT, ral, rsq, rlu, rdp, Bool.true_or, Bool.false_or, Bool.or_false, Bool.or_true, ha]
    exact ⟨_, rfl, _, .by3 h1 h2 h3 h4 h5 h6, ho⟩
  | by4 h1 h2 h3 =>
    simp only [and_assoc, rst, rs, re, ra, rq, rx, ro, rl, rl2, rsp, rz, rix, rln, rg, rd, ri, rv, rk, rdd, rwi, at0, at1, at2, at3, upd_at, List.getElem?_cons_zero, List.getElem?_cons_succ, Option.some.injEq, exists_eq_left', exists_eq_left, List.set_cons_zero, List.set_cons_succ, true_and, and_true, HO.lst.injEq, HO.tup.injEq, exists_and_left, exists_eq, exists_eq', Br.t, Br.f, Be.t, Be.f, List.cons.injEq, List.append_nil, scal, if_true, if_false, ite_true, ite_false, eq_self_iff_true, decide_true, decide_false, Bool.not_true, Bool.not_false, reduceIte, List.nil_append, List.cons_append, reduceCtorEq, false_and, exists_false, false_or, or_false, Int.reduceLT, ral, rsq, rlu, rdp, Bool.true_or, Bool.false_or, Bool.or_false, Bool.or_true, ha]
    refine Br.d (fun c => absurd c (by decide +kernel)) fun _ => ?_
    simp only [and_assoc, rst, rs, re, ra, rq, rx, ro, rl, rl2, rsp, rz, rix, rln, rg, rd, ri, rv, rk, rdd, rwi, at0, at1, at2, at3, upd_at, List.getElem?_cons_zero, List.getElem?_cons_succ, Option.some.injEq, exists_eq_left', exists_eq_left, List.set_cons_zero, List.set_cons_succ, true_and, and_true, HO.lst.injEq, HO.tup.injEq, exists_and_left, exists_eq, exists_eq', Br.t, Br.f, Be.t, Be.f, List.cons.injEq, List.append_nil, scal, if_true, if_false, ite_true, ite_false, eq_self_iff_true, decide_true, decide_false, Bool.not_true, Bool.not_false, reduceIte, List.nil_append, List.cons_append, reduceCtorEq, false_and, exists_false, false_or, or_false, Int.reduceLT, ral, rsq, rlu, rdp, Bool.true_or, Bool.false_or, Bool.or_false, Bool.or_true, ha]
    refine Br.d (fun c => absurd c (by decide +kernel)) fun _ => ?_
    simp only [and_assoc, rst, rs, re, ra, rq, rx, ro, rl, rl2, rsp, rz, rix, rln, rg, rd, ri, rv, rk, rdd, rwi, at0, at1, at2, at3, upd_at, List.getElem?_cons_zero, List.getElem?_cons_succ, Option.some.injEq, exists_eq_left', exists_eq_left, List.set_cons_zero, List.set_cons_succ, true_and, and_true, HO.lst.injEq, HO.tup.injEq, exists_and_left, exists_eq, exists_eq', Br.t, Br.f, Be.t, Be.f, List.cons.injEq, List.append_nil, scal, if_true, if_false, ite_true, ite_false, eq_self_iff_true, decide_true, decide_false, Bool.not_true, Bool.not_false, reduceIte, List.nil_append, List.cons_append, reduceCtorEq, false_and, exists_false, false_or, or_false, Int.reduceLT, ral, rsq, rlu, rdp, Bool.true_or, Bool.false_or, Bool.or_false, Bool.or_true, ha]
    refine Br.d (fun c => absurd c (by decide +kernel)) fun _ => ?_
    simp only [and_assoc, rst, rs, re, ra, rq, rx, ro, rl, rl2, rsp, rz, rix, rln, rg, rd, ri, rv, rk, rdd, rwi, at0, at1, at2, at3, upd_at, List.getElem?_cons_zero, List.getElem?_cons_succ, Option.some.injEq, exists_eq_left', exists_eq_left, List.set_cons_zero, List.set_cons_succ, true_and, and_true, HO.lst.injEq, HO.tup.injEq, exists_and_left, exists_eq, exists_eq', Br.t, Br.f, Be.t, Be.f, List.cons.injEq, List.append_nil, scal, if_true, if_false, ite_true, ite_false, eq_self_iff_true, decide_true, decide_false, Bool.not_true, Bool.not_false, reduceIte, List.nil_append, List.cons_append, reduceCtorEq, false_and, exists_false, false_or, or_false, Int.reduceLT, ral, rsq, rlu, rdp, Bool.true_or, Bool.false_or, Bool.or_false, Bool.or_true, ha]
    refine Br.d (fun c => absurd c (by decide +kernel)) fun _ => ?_
    simp only [and_assoc, rst, rs, re, ra, rq, rx, ro, rl, rl2, rsp, rz, rix, rln, rg, rd, ri, rv, rk, rdd, rwi, at0, at1, at2, at3, upd_at, List.getElem?_cons_zero, List.getElem?_cons_succ, Option.some.injEq, exists_eq_left', exists_eq_left, List.set_cons_zero, List.set_cons_succ, true_and, and_true, HO.lst.injEq, HO.tup.injEq, exists_and_left, exists_eq, exists_eq', Br.t, Br.f, Be.t, Be.f, List.cons.injEq, List.append_nil, scal, if_true, if_false, ite_true, ite_false, eq_self_iff_true, decide_true, decide_false, Bool.not_true, Bool.not_false, reduceIte, List.nil_append, List.cons_append, reduceCtorEq, false_and, exists_false, false_or, or_false, Int.reduceLT, ral, rsq, rlu, rdp, Bool.true_or, Bool.false_or, Bool.or_false, Bool.or_true, ha]
    refine Br.d (fun c => absurd c (by decide +kernel)) fun _ => ?_
    simp only [and_assoc, rst, rs, re, ra, rq, rx, ro, rl, rl2, rsp, rz, rix, rln, rg, rd, ri, rv, rk, rdd, rwi, at0, at1, at2, at3, upd_at, List.getElem?_cons_zero, List.getElem?_cons_succ, Option.some.injEq, exists_eq_left', exists_eq_left, List.set_cons_zero, List.set_cons_succ, true_and, and_true, HO.lst.injEq, HO.tup.injEq, exists_and_left, exists_eq, exists_eq', Br.t, Br.f, Be.t, Be.f, List.cons.injEq, List.append_nil, scal, if_true, if_false, ite_true, ite_false, eq_self_iff_true, decide_true, decide_false, Bool.not_true, Bool.not_false, reduceIte, List.nil_append, List.cons_append, reduceCtorEq, false_and, exists_false, false_or, or_false, Int.reduceLT, ral, rsq, rlu, rdp, Bool.true_or, Bool.false_or, Bool.or_false, Bool.or_true, ha]
    refine Br.d (fun c => absurd c (by decide +kernel)) fun _ => ?_
    simp only [and_assoc, rst, rs, re, ra, rq, rx, ro, rl, rl2, rsp, rz, rix, rln, rg, rd, ri, rv, rk, rdd, rwi, at0, at1, at2, at3, upd_at, List.getElem?_cons_zero, List.getElem?_cons_succ, Option.some.injEq, exists_eq_left', exists_eq_left, List.set_cons_zero, List.set_cons_succ, true_and, and_true, HO.lst.injEq, HO.tup.injEq, exists_and_left, exists_eq, exists_eq', Br.t, Br.f, Be.t, Be.f, List.cons.injEq, List.append_nil, scal, if_true, if_false, ite_true, ite_false, eq_self_iff_true, decide_true, decide_false, Bool.not_true, Bool.not_false, reduceIte, List.nil_append, List.cons_append, reduceCtorEq, false_and, exists_false, false_or, or_false, Int.reduceLT, ral, rsq, rlu, rdp, Bool.true_or, Bool.false_or, Bool.or_false, Bool.or_true, ha]
    exact ⟨_, rfl, _, .by4 h1 h2 h3, ho⟩
  | back h1 h2 =>
    simp only [and_assoc, rst, rs, re, ra, rq, rx, ro, rl, rl2, rsp, rz, rix, rln, rg, rd, ri, rv, rk, rdd, rwi, at0, at1, at2, at3, upd_at, List.getElem?_cons_zero, List.getElem?_cons_succ, Option.some.injEq, exists_eq_left', exists_eq_left, List.set_cons_zero, List.set_cons_succ, true_and, and_true, HO.lst.injEq, HO.tup.injEq, exists_and_left, exists_eq, exists_eq', Br.t, Br.f, Be.t, Be.f, List.cons.injEq, List.append_nil, scal, if_true, if_false, ite_true, ite_false, eq_self_iff_true, decide_true, decide_false, Bool.not_true, Bool.not_false, reduceIte, List.nil_append, List.cons_append, reduceCtorEq, false_and, exists_false, false_or, or_false, Int.reduceLT, ral, rsq, rlu, rdp, Bool.true_or, Bool.false_or, Bool.or_false, Bool.or_true, ha]
    refine Br.d (fun c => absurd c (by decide +kernel)) fun _ => ?_
    simp only [and_assoc, rst, rs, re, ra, rq, rx, ro, rl, rl2, rsp, rz, rix, rln, rg, rd, ri, rv, rk, rdd, rwi, at0, at1, at2, at3, upd_at, List.getElem?_cons_zero, List.getElem?_cons_succ, Option.some.injEq, exists_eq_left', exists_eq_left, List.set_cons_zero, List.set_cons_succ, true_and, and_true, HO.lst.injEq, HO.tup.injEq, exists_and_left, exists_eq, exists_eq', Br.t, Br.f, Be.t, Be.f, List.cons.injEq, List.append_nil, scal, if_true, if_false, ite_true, ite_false, eq_self_iff_true, decide_true, decide_false, Bool.not_true, Bool.not_false, reduceIte, List.nil_append, List.cons_append, reduceCtorEq, false_and, exists_false, false_or, or_false, Int.reduceLT, ral, rsq, rlu, rdp, Bool.true_or, Bool.false_or, Bool.or_false, Bool.or_true, ha]
    refine Br.d (fun c => absurd c (by decide +kernel)) fun _ => ?_
    simp only [and_assoc, rst, rs, re, ra, rq, rx, ro, rl, rl2, rsp, rz, rix, rln, rg, rd, ri, rv, rk, rdd, rwi, at0, at1, at2, at3, upd_at, List.getElem?_cons_zero, List.getElem?_cons_succ, Option.some.injEq, exists_eq_left', exists_eq_left, List.set_cons_zero, List.set_cons_succ, true_and, and_true, HO.lst.injEq, HO.tup.injEq, exists_and_left, exists_eq, exists_eq', Br.t, Br.f, Be.t, Be.f, List.cons.injEq, List.append_nil, scal, if_true, if_false, ite_true, ite_false, eq_self_iff_true, decide_true, decide_false, Bool.not_true, Bool.not_false, reduceIte, List.nil_append, List.cons_append, reduceCtorEq, false_and, exists_false, false_or, or_false, Int.reduceLT, ral, rsq, rlu, rdp, Bool.true_or, Bool.false_or, Bool.or_false, Bool.or_true, ha]
    refine Br.d (fun c => absurd c (by decide +kernel)) fun _ => ?_
    simp only [and_assoc, rst, rs, re, ra, rq, rx, ro, rl, rl2, rsp, rz, rix, rln, rg, rd, ri, rv, rk, rdd, rwi, at0, at1, at2, at3, upd_at, List.getElem?_cons_zero, List.getElem?_cons_succ, Option.some.injEq, exists_eq_left', exists_eq_left, List.set_cons_zero, List.set_cons_succ, true_and, and_true, HO.lst.injEq, HO.tup.injEq, exists_and_left, exists_eq, exists_eq', Br.t, Br.f, Be.t, Be.f, List.cons.injEq, List.append_nil, scal, if_true, if_false, ite_true, ite_false, eq_self_iff_true, decide_true, decide_false, Bool.not_true, Bool.not_false, reduceIte, List.nil_append, List.cons_append, reduceCtorEq, false_and, exists_false, false_or, or_false, Int.reduceLT, ral, rsq, rlu, rdp, Bool.true_or, Bool.false_or, Bool.or_false, Bool.or_true, ha]
    refine Br.d (fun c => absurd c (by decide +kernel)) fun _ => ?_
    simp only [and_assoc, rst, rs, re, ra, rq, rx, ro, rl, rl2, rsp, rz, rix, rln, rg, rd, ri, rv, rk, rdd, rwi, at0, at1, at2, at3, upd_at, List.getElem?_cons_zero, List.getElem?_cons_succ, Option.some.injEq, exists_eq_left', exists_eq_left, List.set_cons_zero, List.set_cons_succ, true_and, and_true, HO.lst.injEq, HO.tup.injEq, exists_and_left, exists_eq, exists_eq', Br.t, Br.f, Be.t, Be.f, List.cons.injEq, List.append_nil, scal, if_true, if_false, ite_true, ite_false, eq_self_iff_true, decide_true, decide_false, Bool.not_true, Bool.not_false, reduceIte, List.nil_append, List.cons_append, reduceCtorEq, false_and, exists_false, false_or, or_false, Int.reduceLT, ral, rsq, rlu, rdp, Bool.true_or, Bool.false_or, Bool.or_false, Bool.or_true, ha]
    refine Br.d (fun c => absurd c (by decide +kernel)) fun _ => ?_
    simp only [and_assoc, rst, rs, re, ra, rq, rx, ro, rl, rl2, rsp, rz, rix, rln, rg, rd, ri, rv, rk, rdd, rwi, at0, at1, at2, at3, upd_at, List.getElem?_cons_zero, List.getElem?_cons_succ, Option.some.injEq, exists_eq_left', exists_eq_left, List.set_cons_zero, List.set_cons_succ, true_and, and_true, HO.lst.injEq, HO.tup.injEq, exists_and_left, exists_eq, exists_eq', Br.t, Br.f, Be.t, Be.f, List.cons.injEq, List.append_nil, scal, if_true, if_false, ite_true, ite_false, eq_self_iff_true, decide_true, decide_false, Bool.not_true, Bool.not_false, reduceIte, List.nil_append, List.cons_append, reduceCtorEq, false_and, exists_false, false_or, or_false, Int.reduceLT, ral, rsq, rlu, rdp, Bool.true_or, Bool.false_or, Bool.or_false, Bool.or_true, ha]
    refine Br.d (fun c => absurd c (by decide +kernel)) fun _ => ?_
    simp only [and_assoc, rst, rs, re, ra, rq, rx, ro, rl, rl2, rsp, rz, rix, rln, rg, rd, ri, rv, rk, rdd, rwi, at0, at1, at2, at3, upd_at, List.getElem?_cons_zero, List.getElem?_cons_succ, Option.some.injEq, exists_eq_left', exists_eq_left, List.set_cons_zero, List.set_cons_succ, true_and, and_true, HO.lst.injEq, HO.tup.injEq, exists_and_left, exists_eq, exists_eq', Br.t, Br.f, Be.t, Be.f, List.cons.injEq, List.append_nil, scal, if_true, if_false, ite_true, ite_false, eq_self_iff_true, decide_true, decide_false, Bool.not_true, Bool.not_false, reduceIte, List.nil_append, List.cons_append, reduceCtorEq, false_and, exists_false, false_or, or_false, Int.reduceLT, ral, rsq, rlu, rdp, Bool.true_or, Bool.false_or, Bool.or_false, Bool.or_true, ha]
    refine Br.d (fun c => absurd c (by decide +kernel)) fun _ => ?_
    simp only [and_assoc, rst, rs, re, ra, rq, rx, ro, rl, rl2, rsp, rz, rix, rln, rg, rd, ri, rv, rk, rdd, rwi, at0, at1, at2, at3, upd_at, List.getElem?_cons_zero, List.getElem?_cons_succ, Option.some.injEq, exists_eq_left', exists_eq_left, List.set_cons_zero, List.set_cons_succ, true_and, and_true, HO.lst.injEq, HO.tup.injEq, exists_and_left, exists_eq, exists_eq', Br.t, Br.f, Be.t, Be.f, List.cons.injEq, List.append_nil, scal, if_true, if_false, ite_true, ite_false, eq_self_iff_true, decide_true, decide_false, Bool.not_true, Bool.not_false, reduceIte, List.nil_append, List.cons_append, reduceCtorEq, false_and, exists_false, false_or, or_false, Int.reduceLT, ral, rsq, rlu, rdp, Bool.true_or, Bool.false_or, Bool.or_false, Bool.or_true, ha]
    exact ⟨_, rfl, _, .back h1 h2, ho⟩
theorem ok__law_called_else (T : Tx K mg w) (c_sets_many : Cal P w K mg base 5 "sets_many" ["many", "size"] (sp_sets_many K)) (c_set_at : Cal P w K mg base 6 "set_at" ["many", "size", "rank"] (sp_set_at K)) (c_set_rank : Cal P w K mg base 6 "set_rank" ["many", "told"] (sp_set_rank K)) (c_next_set : Cal P w K mg base 6 "next_set" ["many", "told"] (sp_next_set K)) (c_shares_many : Cal P w K mg base 5 "shares_many" ["shares"] (sp_shares_many K)) (c_share_at : Cal P w K mg base 7 "share_at" ["shares", "number"] (sp_share_at K)) (c_rest_in : Cal P w K mg base 7 "rest_in" ["shares", "number"] (sp_rest_in K)) (c_first_of : Cal P w K mg base 5 "first_of" ["shares", "at"] (sp_first_of K)) (c_number_of : Cal P w K mg base 6 "number_of" ["shares", "at", "rest"] (sp_number_of K))  : Cal P w K mg base 8 "_law_called_else" ["door", "things"] (sp__law_called_else K) := by
  refine cal_mk T.F__law_called_else T.g__law_called_else sc__law_called_else (len2 _) (fun _ _ _ _ _ _ us hl => match us, hl with | [_, _], _ => rfl) (fun cdv A outer s H vs Q E hr h => ?_)
  obtain ⟨v0, v1, rfl, h⟩ := h
  have hu := hu_of hr
  refine ⟨_, (pss_cons (ps_if (pt_cmpR op_eq (pv 0) pe_str (nomark _)) (pss_one (ps_ret (pe_cal c_sets_many hr (by decide) (passes_call (takes_of rfl rfl rfl rfl) fun _ _ _ _ h => h) rfl (pa_cons (pe_ix ix_q (pv 1) pe_int (fun _ _ => rfl)) (pa_cons (pe_ix ix_q (pv 1) pe_int (fun _ _ => rfl)) pa_nil))))) pss_nil)
      (pss_cons (ps_if (pt_cmpR op_eq (pv 0) pe_str (nomark _)) (pss_one (ps_ret (pe_cal c_set_at hr (by decide) (passes_call (takes_of rfl rfl rfl rfl) fun _ _ _ _ h => h) rfl (pa_cons (pe_ix ix_q (pv 1) pe_int (fun _ _ => rfl)) (pa_cons (pe_ix ix_q (pv 1) pe_int (fun _ _ => rfl)) (pa_cons (pe_ix ix_q (pv 1) pe_int (fun _ _ => rfl)) pa_nil)))))) pss_nil)
      (pss_cons (ps_if (pt_cmpR op_eq (pv 0) pe_str (nomark _)) (pss_one (ps_ret (pe_cal c_set_rank hr (by decide) (passes_call (takes_of rfl rfl rfl rfl) fun _ _ _ _ h => h) rfl (pa_cons (pe_ix ix_q (pv 1) pe_int (fun _ _ => rfl)) (pa_cons (pe_ix ix_q (pv 1) pe_int (fun _ _ => rfl)) pa_nil))))) pss_nil)
      (pss_cons (ps_if (pt_cmpR op_eq (pv 0) pe_str (nomark _)) (pss_one (ps_ret (pe_cal c_next_set hr (by decide) (passes_call (takes_of rfl rfl rfl rfl) fun _ _ _ _ h => h) rfl (pa_cons (pe_ix ix_q (pv 1) pe_int (fun _ _ => rfl)) (pa_cons (pe_ix ix_q (pv 1) pe_int (fun _ _ => rfl)) pa_nil))))) pss_nil)
      (pss_cons (ps_if (pt_cmpR op_eq (pv 0) pe_str (nomark _)) (pss_one (ps_ret (pe_cal c_shares_many hr (by decide) (passes_call (takes_of rfl rfl rfl rfl) fun _ _ _ _ h => h) rfl (pa_cons (pe_ix ix_q (pv 1) pe_int (fun _ _ => rfl)) pa_nil)))) pss_nil)
      (pss_cons (ps_if (pt_cmpR op_eq (pv 0) pe_str (nomark _)) (pss_one (ps_ret (pe_cal c_share_at hr (by decide) (passes_call (takes_of rfl rfl rfl rfl) fun _ _ _ _ h => h) rfl (pa_cons (pe_ix ix_q (pv 1) pe_int (fun _ _ => rfl)) (pa_cons (pe_ix ix_q (pv 1) pe_int (fun _ _ => rfl)) pa_nil))))) pss_nil)
      (pss_cons (ps_if (pt_cmpR op_eq (pv 0) pe_str (nomark _)) (pss_one (ps_ret (pe_cal c_rest_in hr (by decide) (passes_call (takes_of rfl rfl rfl rfl) fun _ _ _ _ h => h) rfl (pa_cons (pe_ix ix_q (pv 1) pe_int (fun _ _ => rfl)) (pa_cons (pe_ix ix_q (pv 1) pe_int (fun _ _ => rfl)) pa_nil))))) pss_nil)
      (pss_cons (ps_if (pt_cmpR op_eq (pv 0) pe_str (nomark _)) (pss_one (ps_ret (pe_cal c_first_of hr (by decide) (passes_call (takes_of rfl rfl rfl rfl) fun _ _ _ _ h => h) rfl (pa_cons (pe_ix ix_q (pv 1) pe_int (fun _ _ => rfl)) (pa_cons (pe_ix ix_q (pv 1) pe_int (fun _ _ => rfl)) pa_nil))))) pss_nil)
      (pss_one (ps_ret (pe_cal c_number_of hr (by decide) (passes_call (takes_of rfl rfl rfl rfl) fun _ _ _ _ h => h) rfl (pa_cons (pe_ix ix_q (pv 1) pe_int (fun _ _ => rfl)) (pa_cons (pe_ix ix_q (pv 1) pe_int (fun _ _ => rfl)) (pa_cons (pe_ix ix_q (pv 1) pe_int (fun _ _ => rfl)) pa_nil)))))))))))))), ?_⟩
  obtain ⟨ds, a, xs, o, rfl, rfl, ha, hd, ho⟩ := h
  cases hd with
  | sets1 h1 h2 h3 =>
    simp only [and_assoc, rst, rs, re, ra, rq, rx, ro, rl, rl2, rsp, rz, rix, rln, rg, rd, ri, rv, rk, rdd, rwi, at0, at1, at2, at3, upd_at, List.getElem?_cons_zero, List.getElem?_cons_succ, Option.some.injEq, exists_eq_left', exists_eq_left, List.set_cons_zero, List.set_cons_succ, true_and, and_true, HO.lst.injEq, HO.tup.injEq, exists_and_left, exists_eq, exists_eq', Br.t, Br.f, Be.t, Be.f, List.cons.injEq, List.append_nil, scal, if_true, if_false, ite_true, ite_false, eq_self_iff_true, decide_true, decide_false, Bool.not_true, Bool.not_false, reduceIte, List.nil_append, List.cons_append, reduceCtorEq, false_and, exists_false, false_or, or_false, Int.reduceLT, ral, rsq, rlu, rdp, Bool.true_or, Bool.false_or, Bool.or_false, Bool.or_true, ha]
    exact ⟨_, _, rfl, .inl ⟨_, .sets1 h1 h2 h3, ho⟩⟩
  | sets2 h1 h2 h3 =>
    simp only [and_assoc, rst, rs, re, ra, rq, rx, ro, rl, rl2, rsp, rz, rix, rln, rg, rd, ri, rv, rk, rdd, rwi, at0, at1, at2, at3, upd_at, List.getElem?_cons_zero, List.getElem?_cons_succ, Option.some.injEq, exists_eq_left', exists_eq_left, List.set_cons_zero, List.set_cons_succ, true_and, and_true, HO.lst.injEq, HO.tup.injEq, exists_and_left, exists_eq, exists_eq', Br.t, Br.f, Be.t, Be.f, List.cons.injEq, List.append_nil, scal, if_true, if_false, ite_true, ite_false, eq_self_iff_true, decide_true, decide_false, Bool.not_true, Bool.not_false, reduceIte, List.nil_append, List.cons_append, reduceCtorEq, false_and, exists_false, false_or, or_false, Int.reduceLT, ral, rsq, rlu, rdp, Bool.true_or, Bool.false_or, Bool.or_false, Bool.or_true, ha]
    exact ⟨_, _, rfl, .inl ⟨_, .sets2 h1 h2 h3, ho⟩⟩
  | set1 h1 h2 h3 h4 =>
    simp only [and_assoc, rst, rs, re, ra, rq, rx, ro, rl, rl2, rsp, rz, rix, rln, rg, rd, ri, rv, rk, rdd, rwi, at0, at1, at2, at3, upd_at, List.getElem?_cons_zero, List.getElem?_cons_succ, Option.some.injEq, exists_eq_left', exists_eq_left, List.set_cons_zero, List.set_cons_succ, true_and, and_true, HO.lst.injEq, HO.tup.injEq, exists_and_left, exists_eq, exists_eq', Br.t, Br.f, Be.t, Be.f, List.cons.injEq, List.append_nil, scal, if_true, if_false, ite_true, ite_false, eq_self_iff_true, decide_true, decide_false, Bool.not_true, Bool.not_false, reduceIte, List.nil_append, List.cons_append, reduceCtorEq, false_and, exists_false, false_or, or_false, Int.reduceLT, ral, rsq, rlu, rdp, Bool.true_or, Bool.false_or, Bool.or_false, Bool.or_true, ha]
    refine Br.d (fun c => absurd c (by decide +kernel)) fun _ => ?_
    simp only [and_assoc, rst, rs, re, ra, rq, rx, ro, rl, rl2, rsp, rz, rix, rln, rg, rd, ri, rv, rk, rdd, rwi, at0, at1, at2, at3, upd_at, List.getElem?_cons_zero, List.getElem?_cons_succ, Option.some.injEq, exists_eq_left', exists_eq_left, List.set_cons_zero, List.set_cons_succ, true_and, and_true, HO.lst.injEq, HO.tup.injEq, exists_and_left, exists_eq, exists_eq', Br.t, Br.f, Be.t, Be.f, List.cons.injEq, List.append_nil, scal, if_true, if_false, ite_true, ite_false, eq_self_iff_true, decide_true, decide_false, Bool.not_true, Bool.not_false, reduceIte, List.nil_append, List.cons_append, reduceCtorEq, false_and, exists_false, false_or, or_false, Int.reduceLT, ral, rsq, rlu, rdp, Bool.true_or, Bool.false_or, Bool.or_false, Bool.or_true, ha]
    exact ⟨_, _, _, rfl, _, .set1 h1 h2 h3 h4, ho⟩
  | set2 h1 h2 h3 h4 =>
    simp only [and_assoc, rst, rs, re, ra, rq, rx, ro, rl, rl2, rsp, rz, rix, rln, rg, rd, ri, rv, rk, rdd, rwi, at0, at1, at2, at3, upd_at, List.getElem?_cons_zero, List.getElem?_cons_succ, Option.some.injEq, exists_eq_left', exists_eq_left, List.set_cons_zero, List.set_cons_succ, true_and, and_true, HO.lst.injEq, HO.tup.injEq, exists_and_left, exists_eq, exists_eq', Br.t, Br.f, Be.t, Be.f, List.cons.injEq, List.append_nil, scal, if_true, if_false, ite_true, ite_false, eq_self_iff_true, decide_true, decide_false, Bool.not_true, Bool.not_false, reduceIte, List.nil_append, List.cons_append, reduceCtorEq, false_and, exists_false, false_or, or_false, Int.reduceLT, ral, rsq, rlu, rdp, Bool.true_or, Bool.false_or, Bool.or_false, Bool.or_true, ha]
    refine Br.d (fun c => absurd c (by decide +kernel)) fun _ => ?_
    simp only [and_assoc, rst, rs, re, ra, rq, rx, ro, rl, rl2, rsp, rz, rix, rln, rg, rd, ri, rv, rk, rdd, rwi, at0, at1, at2, at3, upd_at, List.getElem?_cons_zero, List.getElem?_cons_succ, Option.some.injEq, exists_eq_left', exists_eq_left, List.set_cons_zero, List.set_cons_succ, true_and, and_true, HO.lst.injEq, HO.tup.injEq, exists_and_left, exists_eq, exists_eq', Br.t, Br.f, Be.t, Be.f, List.cons.injEq, List.append_nil, scal, if_true, if_false, ite_true, ite_false, eq_self_iff_true, decide_true, decide_false, Bool.not_true, Bool.not_false, reduceIte, List.nil_append, List.cons_append, reduceCtorEq, false_and, exists_false, false_or, or_false, Int.reduceLT, ral, rsq, rlu, rdp, Bool.true_or, Bool.false_or, Bool.or_false, Bool.or_true, ha]
    exact ⟨_, _, _, rfl, _, .set2 h1 h2 h3 h4, ho⟩
  | set3 h1 h2 h3 h4 =>
    simp only [and_assoc, rst, rs, re, ra, rq, rx, ro, rl, rl2, rsp, rz, rix, rln, rg, rd, ri, rv, rk, rdd, rwi, at0, at1, at2, at3, upd_at, List.getElem?_cons_zero, List.getElem?_cons_succ, Option.some.injEq, exists_eq_left', exists_eq_left, List.set_cons_zero, List.set_cons_succ, true_and, and_true, HO.lst.injEq, HO.tup.injEq, exists_and_left, exists_eq, exists_eq', Br.t, Br.f, Be.t, Be.f, List.cons.injEq, List.append_nil, scal, if_true, if_false, ite_true, ite_false, eq_self_iff_true, decide_true, decide_false, Bool.not_true, Bool.not_false, reduceIte, List.nil_append, List.cons_append, reduceCtorEq, false_and, exists_false, false_or, or_false, Int.reduceLT, ral, rsq, rlu, rdp, Bool.true_or, Bool.false_or, Bool.or_false, Bool.or_true, ha]
    refine Br.d (fun c => absurd c (by decide +kernel)) fun _ => ?_
    simp only [and_assoc, rst, rs, re, ra, rq, rx, ro, rl, rl2, rsp, rz, rix, rln, rg, rd, ri, rv, rk, rdd, rwi, at0, at1, at2, at3, upd_at, List.getElem?_cons_zero, List.getElem?_cons_succ, Option.some.injEq, exists_eq_left', exists_eq_left, List.set_cons_zero, List.set_cons_succ, true_and, and_true, HO.lst.injEq, HO.tup.injEq, exists_and_left, exists_eq, exists_eq', Br.t, Br.f, Be.t, Be.f, List.cons.injEq, List.append_nil, scal, if_true, if_false, ite_true, ite_false, eq_self_iff_true, decide_true, decide_false, Bool.not_true, Bool.not_false, reduceIte, List.nil_append, List.cons_append, reduceCtorEq, false_and, exists_false, false_or, or_false, Int.reduceLT, ral, rsq, rlu, rdp, Bool.true_or, Bool.false_or, Bool.or_false, Bool.or_true, ha]
    exact ⟨_, _, _, rfl, _, .set3 h1 h2 h3 h4, ho⟩
  | set4 h1 h2 =>
    simp only [and_assoc, rst, rs, re, ra, rq, rx, ro, rl, rl2, rsp, rz, rix, rln, rg, rd, ri, rv, rk, rdd, rwi, at0, at1, at2, at3, upd_at, List.getElem?_cons_zero, List.getElem?_cons_succ, Option.some.injEq, exists_eq_left', exists_eq_left, List.set_cons_zero, List.set_cons_succ, true_and, and_true, HO.lst.injEq, HO.tup.injEq, exists_and_left, exists_eq, exists_eq', Br.t, Br.f, Be.t, Be.f, List.cons.injEq, List.append_nil, scal, if_true, if_false, ite_true, ite_false, eq_self_iff_true, decide_true, decide_false, Bool.not_true, Bool.not_false, reduceIte, List.nil_append, List.cons_append, reduceCtorEq, false_and, exists_false, false_or, or_false, Int.reduceLT, ral, rsq, rlu, rdp, Bool.true_or, Bool.false_or, Bool.or_false, Bool.or_true, ha]
    refine Br.d (fun c => absurd c (by decide +kernel)) fun _ => ?_
    simp only [and_assoc, rst, rs, re, ra, rq, rx, ro, rl, rl2, rsp, rz, rix, rln, rg, rd, ri, rv, rk, rdd, rwi, at0, at1, at2, at3, upd_at, List.getElem?_cons_zero, List.getElem?_cons_succ, Option.some.injEq, exists_eq_left', exists_eq_left, List.set_cons_zero, List.set_cons_succ, true_and, and_true, HO.lst.injEq, HO.tup.injEq, exists_and_left, exists_eq, exists_eq', Br.t, Br.f, Be.t, Be.f, List.cons.injEq, List.append_nil, scal, if_true, if_false, ite_true, ite_false, eq_self_iff_true, decide_true, decide_false, Bool.not_true, Bool.not_false, reduceIte, List.nil_append, List.cons_append, reduceCtorEq, false_and, exists_false, false_or, or_false, Int.reduceLT, ral, rsq, rlu, rdp, Bool.true_or, Bool.false_or, Bool.or_false, Bool.or_true, ha]
    exact ⟨_, _, _, rfl, _, .set4 h1 h2, ho⟩
  | srank1 h1 h2 =>
    simp only [and_assoc, rst, rs, re, ra, rq, rx, ro, rl, rl2, rsp, rz, rix, rln, rg, rd, ri, rv, rk, rdd, rwi, at0, at1, at2, at3, upd_at, List.getElem?_cons_zero, List.getElem?_cons_succ, Option.some.injEq, exists_eq_left', exists_eq_left, List.set_cons_zero, List.set_cons_succ, true_and, and_true, HO.lst.injEq, HO.tup.injEq, exists_and_left, exists_eq, exists_eq', Br.t, Br.f, Be.t, Be.f, List.cons.injEq, List.append_nil, scal, if_true, if_false, ite_true, ite_false, eq_self_iff_true, decide_true, decide_false, Bool.not_true, Bool.not_false, reduceIte, List.nil_append, List.cons_append, reduceCtorEq, false_and, exists_false, false_or, or_false, Int.reduceLT, ral, rsq, rlu, rdp, Bool.true_or, Bool.false_or, Bool.or_false, Bool.or_true, ha]
    refine Br.d (fun c => absurd c (by decide +kernel)) fun _ => ?_
    simp only [and_assoc, rst, rs, re, ra, rq, rx, ro, rl, rl2, rsp, rz, rix, rln, rg, rd, ri, rv, rk, rdd, rwi, at0, at1, at2, at3, upd_at, List.getElem?_cons_zero, List.getElem?_cons_succ, Option.some.injEq, exists_eq_left', exists_eq_left, List.set_cons_zero, List.set_cons_succ, true_and, and_true, HO.lst.injEq, HO.tup.injEq, exists_and_left, exists_eq, exists_eq', Br.t, Br.f, Be.t, Be.f, List.cons.injEq, List.append_nil, scal, if_true, if_false, ite_true, ite_false, eq_self_iff_true, decide_true, decide_false, Bool.not_true, Bool.not_false, reduceIte, List.nil_append, List.cons_append, reduceCtorEq, false_and, exists_false, false_or, or_false, Int.reduceLT, ral, rsq, rlu, rdp, Bool.true_or, Bool.false_or, Bool.or_false, Bool.or_true, ha]
    refine Br.d (fun c => absurd c (by decide +kernel)) fun _ => ?_
    simp only [and_assoc, rst, rs, re, ra, rq, rx, ro, rl, rl2, rsp, rz, rix, rln, rg, rd, ri, rv, rk, rdd, rwi, at0, at1, at2, at3, upd_at, List.getElem?_cons_zero, List.getElem?_cons_succ, Option.some.injEq, exists_eq_left', exists_eq_left, List.set_cons_zero, List.set_cons_succ, true_and, and_true, HO.lst.injEq, HO.tup.injEq, exists_and_left, exists_eq, exists_eq', Br.t, Br.f, Be.t, Be.f, List.cons.injEq, List.append_nil, scal, if_true, if_false, ite_true, ite_false, eq_self_iff_true, decide_true, decide_false, Bool.not_true, Bool.not_false, reduceIte, List.nil_append, List.cons_append, reduceCtorEq, false_and, exists_false, false_or, or_false, Int.reduceLT, ral, rsq, rlu, rdp, Bool.true_or, Bool.false_or, Bool.or_false, Bool.or_true, ha]
    exact ⟨_, _, rfl, _, .srank1 h1 h2, ho⟩
  | srank2 h1 h2 =>
    simp only [and_assoc, rst, rs, re, ra, rq, rx, ro, rl, rl2, rsp, rz, rix, rln, rg, rd, ri, rv, rk, rdd, rwi, at0, at1, at2, at3, upd_at, List.getElem?_cons_zero, List.getElem?_cons_succ, Option.some.injEq, exists_eq_left', exists_eq_left, List.set_cons_zero, List.set_cons_succ, true_and, and_true, HO.lst.injEq, HO.tup.injEq, exists_and_left, exists_eq, exists_eq', Br.t, Br.f, Be.t, Be.f, List.cons.injEq, List.append_nil, scal, if_true, if_false, ite_true, ite_false, eq_self_iff_true, decide_true, decide_false, Bool.not_true, Bool.not_false, reduceIte, List.nil_append, List.cons_append, reduceCtorEq, false_and, exists_false, false_or, or_false, Int.reduceLT, ral, rsq, rlu, rdp, Bool.true_or, Bool.false_or, Bool.or_false, Bool.or_true, ha]
    refine Br.d (fun c => absurd c (by decide +kernel)) fun _ => ?_
    simp only [and_assoc, rst, rs, re, ra, rq, rx, ro, rl, rl2, rsp, rz, rix, rln, rg, rd, ri, rv, rk, rdd, rwi, at0, at1, at2, at3, upd_at, List.getElem?_cons_zero, List.getElem?_cons_succ, Option.some.injEq, exists_eq_left', exists_eq_left, List.set_cons_zero, List.set_cons_succ, true_and, and_true, HO.lst.injEq, HO.tup.injEq, exists_and_left, exists_eq, exists_eq', Br.t, Br.f, Be.t, Be.f, List.cons.injEq, List.append_nil, scal, if_true, if_false, ite_true, ite_false, eq_self_iff_true, decide_true, decide_false, Bool.not_true, Bool.not_false, reduceIte, List.nil_append, List.cons_append, reduceCtorEq, false_and, exists_false, false_or, or_false, Int.reduceLT, ral, rsq, rlu, rdp, Bool.true_or, Bool.false_or, Bool.or_false, Bool.or_true, ha]
    refine Br.d (fun c => absurd c (by decide +kernel)) fun _ => ?_
    simp only [and_assoc, rst, rs, re, ra, rq, rx, ro, rl, rl2, rsp, rz, rix, rln, rg, rd, ri, rv, rk, rdd, rwi, at0, at1, at2, at3, upd_at, List.getElem?_cons_zero, List.getElem?_cons_succ, Option.some.injEq, exists_eq_left', exists_eq_left, List.set_cons_zero, List.set_cons_succ, true_and, and_true, HO.lst.injEq, HO.tup.injEq, exists_and_left, exists_eq, exists_eq', Br.t, Br.f, Be.t, Be.f, List.cons.injEq, List.append_nil, scal, if_true, if_false, ite_true, ite_false, eq_self_iff_true, decide_true, decide_false, Bool.not_true, Bool.not_false, reduceIte, List.nil_append, List.cons_append, reduceCtorEq, false_and, exists_false, false_or, or_false, Int.reduceLT, ral, rsq, rlu, rdp, Bool.true_or, Bool.false_or, Bool.or_false, Bool.or_true, ha]
    exact ⟨_, _, rfl, _, .srank2 h1 h2, ho⟩
  | snext1 h1 h2 =>
    simp only [and_assoc, rst, rs, re, ra, rq, rx, ro, rl, rl2, rsp, rz, rix, rln, rg, rd, ri, rv, rk, rdd, rwi, at0, at1, at2, at3, upd_at, List.getElem?_cons_zero, List.getElem?_cons_succ, Option.some.injEq, exists_eq_left', exists_eq_left, List.set_cons_zero, List.set_cons_succ, true_and, and_true, HO.lst.injEq, HO.tup.injEq, exists_and_left, exists_eq, exists_eq', Br.t, Br.f, Be.t, Be.f, List.cons.injEq, List.append_nil, scal, if_true, if_false, ite_true, ite_false, eq_self_iff_true, decide_true, decide_false, Bool.not_true, Bool.not_false, reduceIte, List.nil_append, List.cons_append, reduceCtorEq, false_and, exists_false, false_or, or_false, Int.reduceLT, ral, rsq, rlu, rdp, Bool.true_or, Bool.false_or, Bool.or_false, Bool.or_true, ha]
    refine Br.d (fun c => absurd c (by decide +kernel)) fun _ => ?_
    simp only [and_assoc, rst, rs, re, ra, rq, rx, ro, rl, rl2, rsp, rz, rix, rln, rg, rd, ri, rv, rk, rdd, rwi, at0, at1, at2, at3, upd_at, List.getElem?_cons_zero, List.getElem?_cons_succ, Option.some.injEq, exists_eq_left', exists_eq_left, List.set_cons_zero, List.set_cons_succ, true_and, and_true, HO.lst.injEq, HO.tup.injEq, exists_and_left, exists_eq, exists_eq', Br.t, Br.f, Be.t, Be.f, List.cons.injEq, List.append_nil, scal, if_true, if_false, ite_true, ite_false, eq_self_iff_true, decide_true, decide_false, Bool.not_true, Bool.not_false, reduceIte, List.nil_append, List.cons_append, reduceCtorEq, false_and, exists_false, false_or, or_false, Int.reduceLT, ral, rsq, rlu, rdp, Bool.true_or, Bool.false_or, Bool.or_false, Bool.or_true, ha]
    refine Br.d (fun c => absurd c (by decide +kernel)) fun _ => ?_
    simp only [and_assoc, rst, rs, re, ra, rq, rx, ro, rl, rl2, rsp, rz, rix, rln, rg, rd, ri, rv, rk, rdd, rwi, at0, at1, at2, at3, upd_at, List.getElem?_cons_zero, List.getElem?_cons_succ, Option.some.injEq, exists_eq_left', exists_eq_left, List.set_cons_zero, List.set_cons_succ, true_and, and_true, HO.lst.injEq, HO.tup.injEq, exists_and_left, exists_eq, exists_eq', Br.t, Br.f, Be.t, Be.f, List.cons.injEq, List.append_nil, scal, if_true, if_false, ite_true, ite_false, eq_self_iff_true, decide_true, decide_false, Bool.not_true, Bool.not_false, reduceIte, List.nil_append, List.cons_append, reduceCtorEq, false_and, exists_false, false_or, or_false, Int.reduceLT, ral, rsq, rlu, rdp, Bool.true_or, Bool.false_or, Bool.or_false, Bool.or_true, ha]
    refine Br.d (fun c => absurd c (by decide +kernel)) fun _ => ?_
    simp only [and_assoc, rst, rs, re, ra, rq, rx, ro, rl, rl2, rsp, rz, rix, rln, rg, rd, ri, rv, rk, rdd, rwi, at0, at1, at2, at3, upd_at, List.getElem?_cons_zero, List.getElem?_cons_succ, Option.some.injEq, exists_eq_left', exists_eq_left, List.set_cons_zero, List.set_cons_succ, true_and, and_true, HO.lst.injEq, HO.tup.injEq, exists_and_left, exists_eq, exists_eq', Br.t, Br.f, Be.t, Be.f, List.cons.injEq, List.append_nil, scal, if_true, if_false, ite_true, ite_false, eq_self_iff_true, decide_true, decide_false, Bool.not_true, Bool.not_false, reduceIte, List.nil_append, List.cons_append, reduceCtorEq, false_and, exists_false, false_or, or_false, Int.reduceLT, ral, rsq, rlu, rdp, Bool.true_or, Bool.false_or, Bool.or_false, Bool.or_true, ha]
    exact ⟨_, _, rfl, _, .snext1 h1 h2, ho⟩
  | snext2 h1 h2 =>
    simp only [and_assoc, rst, rs, re, ra, rq, rx, ro, rl, rl2, rsp, rz, rix, rln, rg, rd, ri, rv, rk, rdd, rwi, at0, at1, at2, at3, upd_at, List.getElem?_cons_zero, List.getElem?_cons_succ, Option.some.injEq, exists_eq_left', exists_eq_left, List.set_cons_zero, List.set_cons_succ, true_and, and_true, HO.lst.injEq, HO.tup.injEq, exists_and_left, exists_eq, exists_eq', Br.t, Br.f, Be.t, Be.f, List.cons.injEq, List.append_nil, scal, if_true, if_false, ite_true, ite_false, eq_self_iff_true, decide_true, decide_false, Bool.not_true, Bool.not_false, reduceIte, List.nil_append, List.cons_append, reduceCtorEq, false_and, exists_false, false_or, or_false, Int.reduceLT, ral, rsq, rlu, rdp, Bool.true_or, Bool.false_or, Bool.or_false, Bool.or_true, ha]
    refine Br.d (fun c => absurd c (by decide +kernel)) fun _ => ?_
    simp only [and_assoc, rst, rs, re, ra, rq, rx, ro, rl, rl2, rsp, rz, rix, rln, rg, rd, ri, rv, rk, rdd, rwi, at0, at1, at2, at3, upd_at, List.getElem?_cons_zero, List.getElem?_cons_succ, Option.some.injEq, exists_eq_left', exists_eq_left, List.set_cons_zero, List.set_cons_succ, true_and, and_true, HO.lst.injEq, HO.tup.injEq, exists_and_left, exists_eq, exists_eq', Br.t, Br.f, Be.t, Be.f, List.cons.injEq, List.append_nil, scal, if_true, if_false, ite_true, ite_false, eq_self_iff_true, decide_true, decide_false, Bool.not_true, Bool.not_false, reduceIte, List.nil_append, List.cons_append, reduceCtorEq, false_and, exists_false, false_or, or_false, Int.reduceLT, ral, rsq, rlu, rdp, Bool.true_or, Bool.false_or, Bool.or_false, Bool.or_true, ha]
    refine Br.d (fun c => absurd c (by decide +kernel)) fun _ => ?_
    simp only [and_assoc, rst, rs, re, ra, rq, rx, ro, rl, rl2, rsp, rz, rix, rln, rg, rd, ri, rv, rk, rdd, rwi, at0, at1, at2, at3, upd_at, List.getElem?_cons_zero, List.getElem?_cons_succ, Option.some.injEq, exists_eq_left', exists_eq_left, List.set_cons_zero, List.set_cons_succ, true_and, and_true, HO.lst.injEq, HO.tup.injEq, exists_and_left, exists_eq, exists_eq', Br.t, Br.f, Be.t, Be.f, List.cons.injEq, List.append_nil, scal, if_true, if_false, ite_true, ite_false, eq_self_iff_true, decide_true, decide_false, Bool.not_true, Bool.not_false, reduceIte, List.nil_append, List.cons_append, reduceCtorEq, false_and, exists_false, false_or, or_false, Int.reduceLT, ral, rsq, rlu, rdp, Bool.true_or, Bool.false_or, Bool.or_false, Bool.or_true, ha]
    refine Br.d (fun c => absurd c (by decide +kernel)) fun _ => ?_
    simp only [and_assoc, rst, rs, re, ra, rq, rx, ro, rl, rl2, rsp, rz, rix, rln, rg, rd, ri, rv, rk, rdd, rwi, at0, at1, at2, at3, upd_at, List.getElem?_cons_zero, List.getElem?_cons_succ, Option.some.injEq, exists_eq_left', exists_eq_left, List.set_cons_zero, List.set_cons_succ, true_and, and_true, HO.lst.injEq, HO.tup.injEq, exists_and_left, exists_eq, exists_eq', Br.t, Br.f, Be.t, Be.f, List.cons.injEq, List.append_nil, scal, if_true, if_false, ite_true, ite_false, eq_self_iff_true, decide_true, decide_false, Bool.not_true, Bool.not_false, reduceIte, List.nil_append, List.cons_append, reduceCtorEq, false_and, exists_false, false_or, or_false, Int.reduceLT, ral, rsq, rlu, rdp, Bool.true_or, Bool.false_or, Bool.or_false, Bool.or_true, ha]
    exact ⟨_, _, rfl, _, .snext2 h1 h2, ho⟩
  | shares h1 =>
    simp only [and_assoc, rst, rs, re, ra, rq, rx, ro, rl, rl2, rsp, rz, rix, rln, rg, rd, ri, rv, rk, rdd, rwi, at0, at1, at2, at3, upd_at, List.getElem?_cons_zero, List.getElem?_cons_succ, Option.some.injEq, exists_eq_left', exists_eq_left, List.set_cons_zero, List.set_cons_succ, true_and, and_true, HO.lst.injEq, HO.tup.injEq, exists_and_left, exists_eq, exists_eq', Br.t, Br.f, Be.t, Be.f, List.cons.injEq, List.append_nil, scal, if_true, if_false, ite_true, ite_false, eq_self_iff_true, decide_true, decide_false, Bool.not_true, Bool.not_false, reduceIte, List.nil_append, List.cons_append, reduceCtorEq, false_and, exists_false, false_or, or_false, Int.reduceLT, ral, rsq, rlu, rdp, Bool.true_or, Bool.false_or, Bool.or_false, Bool.or_true, ha]
    refine Br.d (fun c => absurd c (by decide +kernel)) fun _ => ?_
    simp only [and_assoc, rst, rs, re, ra, rq, rx, ro, rl, rl2, rsp, rz, rix, rln, rg, rd, ri, rv, rk, rdd, rwi, at0, at1, at2, at3, upd_at, List.getElem?_cons_zero, List.getElem?_cons_succ, Option.some.injEq, exists_eq_left', exists_eq_left, List.set_cons_zero, List.set_cons_succ, true_and, and_true, HO.lst.injEq, HO.tup.injEq, exists_and_left, exists_eq, exists_eq', Br.t, Br.f, Be.t, Be.f, List.cons.injEq, List.append_nil, scal, if_true, if_false, ite_true, ite_false, eq_self_iff_true, decide_true, decide_false, Bool.not_true, Bool.not_false, reduceIte, List.nil_append, List.cons_append, reduceCtorEq, false_and, exists_false, false_or, or_false, Int.reduceLT, ral, rsq, rlu, rdp, Bool.true_or, Bool.false_or, Bool.or_false, Bool.or_true, ha]
    refine Br.d (fun c => absurd c (by decide +kernel)) fun _ => ?_
    simp only [and_assoc, rst, rs, re, ra, rq, rx, ro, rl, rl2, rsp, rz, rix, rln, rg, rd, ri, rv, rk, rdd, rwi, at0, at1, at2, at3, upd_at, List.getElem?_cons_zero, List.getElem?_cons_succ, Option.some.injEq, exists_eq_left', exists_eq_left, List.set_cons_zero, List.set_cons_succ, true_and, and_true, HO.lst.injEq, HO.tup.injEq, exists_and_left, exists_eq, exists_eq', Br.t, Br.f, Be.t, Be.f, List.cons.injEq, List.append_nil, scal, if_true, if_false, ite_true, ite_false, eq_self_iff_true, decide_true, decide_false, Bool.not_true, Bool.not_false, reduceIte, List.nil_append, List.cons_append, reduceCtorEq, false_and, exists_false, false_or, or_false, Int.reduceLT, ral, rsq, rlu, rdp, Bool.true_or, Bool.false_or, Bool.or_false, Bool.or_true, ha]
    refine Br.d (fun c => absurd c (by decide +kernel)) fun _ => ?_
    simp only [and_assoc, rst, rs, re, ra, rq, rx, ro, rl, rl2, rsp, rz, rix, rln, rg, rd, ri, rv, rk, rdd, rwi, at0, at1, at2, at3, upd_at, List.getElem?_cons_zero, List.getElem?_cons_succ, Option.some.injEq, exists_eq_left', exists_eq_left, List.set_cons_zero, List.set_cons_succ, true_and, and_true, HO.lst.injEq, HO.tup.injEq, exists_and_left, exists_eq, exists_eq', Br.t, Br.f, Be.t, Be.f, List.cons.injEq, List.append_nil, scal, if_true, if_false, ite_true, ite_false, eq_self_iff_true, decide_true, decide_false, Bool.not_true, Bool.not_false, reduceIte, List.nil_append, List.cons_append, reduceCtorEq, false_and, exists_false, false_or, or_false, Int.reduceLT, ral, rsq, rlu, rdp, Bool.true_or, Bool.false_or, Bool.or_false, Bool.or_true, ha]
    refine Br.d (fun c => absurd c (by decide +kernel)) fun _ => ?_
    simp only [and_assoc, rst, rs, re, ra, rq, rx, ro, rl, rl2, rsp, rz, rix, rln, rg, rd, ri, rv, rk, rdd, rwi, at0, at1, at2, at3, upd_at, List.getElem?_cons_zero, List.getElem?_cons_succ, Option.some.injEq, exists_eq_left', exists_eq_left, List.set_cons_zero, List.set_cons_succ, true_and, and_true, HO.lst.injEq, HO.tup.injEq, exists_and_left, exists_eq, exists_eq', Br.t, Br.f, Be.t, Be.f, List.cons.injEq, List.append_nil, scal, if_true, if_false, ite_true, ite_false, eq_self_iff_true, decide_true, decide_false, Bool.not_true, Bool.not_false, reduceIte, List.nil_append, List.cons_append, reduceCtorEq, false_and, exists_false, false_or, or_false, Int.reduceLT, ral, rsq, rlu, rdp, Bool.true_or, Bool.false_or, Bool.or_false, Bool.or_true, ha]
    exact ⟨_, rfl, .inl ⟨_, .shares h1, ho⟩⟩
  | share1 h1 =>
    simp only [and_assoc, rst, rs, re, ra, rq, rx, ro, rl, rl2, rsp, rz, rix, rln, rg, rd, ri, rv, rk, rdd, rwi, at0, at1, at2, at3, upd_at, List.getElem?_cons_zero, List.getElem?_cons_succ, Option.some.injEq, exists_eq_left', exists_eq_left, List.set_cons_zero, List.set_cons_succ, true_and, and_true, HO.lst.injEq, HO.tup.injEq, exists_and_left, exists_eq, exists_eq', Br.t, Br.f, Be.t, Be.f, List.cons.injEq, List.append_nil, scal, if_true, if_false, ite_true, ite_false, eq_self_iff_true, decide_true, decide_false, Bool.not_true, Bool.not_false, reduceIte, List.nil_append, List.cons_append, reduceCtorEq, false_and, exists_false, false_or, or_false, Int.reduceLT, ral, rsq, rlu, rdp, Bool.true_or, Bool.false_or, Bool.or_false, Bool.or_true, ha]
    refine Br.d (fun c => absurd c (by decide +kernel)) fun _ => ?_
    simp only [and_assoc, rst, rs, re, ra, rq, rx, ro, rl, rl2, rsp, rz, rix, rln, rg, rd, ri, rv, rk, rdd, rwi, at0, at1, at2, at3, upd_at, List.getElem?_cons_zero, List.getElem?_cons_succ, Option.some.injEq, exists_eq_left', exists_eq_left, List.set_cons_zero, List.set_cons_succ, true_and, and_true, HO.lst.injEq, HO.tup.injEq, exists_and_left, exists_eq, exists_eq', Br.t, Br.f, Be.t, Be.f, List.cons.injEq, List.append_nil, scal, if_true, if_false, ite_true, ite_false, eq_self_iff_true, decide_true, decide_false, Bool.not_true, Bool.not_false, reduceIte, List.nil_append, List.cons_append, reduceCtorEq, false_and, exists_false, false_or, or_false, Int.reduceLT, ral, rsq, rlu, rdp, Bool.true_or, Bool.false_or, Bool.or_false, Bool.or_true, ha]
    refine Br.d (fun c => absurd c (by decide +kernel)) fun _ => ?_
    simp only [and_assoc, rst, rs, re, ra, rq, rx, ro, rl, rl2, rsp, rz, rix, rln, rg, rd, ri, rv, rk, rdd, rwi, at0, at1, at2, at3, upd_at, List.getElem?_cons_zero, List.getElem?_cons_succ, Option.some.injEq, exists_eq_left', exists_eq_left, List.set_cons_zero, List.set_cons_succ, true_and, and_true, HO.lst.injEq, HO.tup.injEq, exists_and_left, exists_eq, exists_eq', Br.t, Br.f, Be.t, Be.f, List.cons.injEq, List.append_nil, scal, if_true, if_false, ite_true, ite_false, eq_self_iff_true, decide_true, decide_false, Bool.not_true, Bool.not_false, reduceIte, List.nil_append, List.cons_append, reduceCtorEq, false_and, exists_false, false_or, or_false, Int.reduceLT, ral, rsq, rlu, rdp, Bool.true_or, Bool.false_or, Bool.or_false, Bool.or_true, ha]
    refine Br.d (fun c => absurd c (by decide +kernel)) fun _ => ?_
    simp only [and_assoc, rst, rs, re, ra, rq, rx, ro, rl, rl2, rsp, rz, rix, rln, rg, rd, ri, rv, rk, rdd, rwi, at0, at1, at2, at3, upd_at, List.getElem?_cons_zero, List.getElem?_cons_succ, Option.some.injEq, exists_eq_left', exists_eq_left, List.set_cons_zero, List.set_cons_succ, true_and, and_true, HO.lst.injEq, HO.tup.injEq, exists_and_left, exists_eq, exists_eq', Br.t, Br.f, Be.t, Be.f, List.cons.injEq, List.append_nil, scal, if_true, if_false, ite_true, ite_false, eq_self_iff_true, decide_true, decide_false, Bool.not_true, Bool.not_false, reduceIte, List.nil_append, List.cons_append, reduceCtorEq, false_and, exists_false, false_or, or_false, Int.reduceLT, ral, rsq, rlu, rdp, Bool.true_or, Bool.false_or, Bool.or_false, Bool.or_true, ha]
    refine Br.d (fun c => absurd c (by decide +kernel)) fun _ => ?_
    simp only [and_assoc, rst, rs, re, ra, rq, rx, ro, rl, rl2, rsp, rz, rix, rln, rg, rd, ri, rv, rk, rdd, rwi, at0, at1, at2, at3, upd_at, List.getElem?_cons_zero, List.getElem?_cons_succ, Option.some.injEq, exists_eq_left', exists_eq_left, List.set_cons_zero, List.set_cons_succ, true_and, and_true, HO.lst.injEq, HO.tup.injEq, exists_and_left, exists_eq, exists_eq', Br.t, Br.f, Be.t, Be.f, List.cons.injEq, List.append_nil, scal, if_true, if_false, ite_true, ite_false, eq_self_iff_true, decide_true, decide_false, Bool.not_true, Bool.not_false, reduceIte, List.nil_append, List.cons_append, reduceCtorEq, false_and, exists_false, false_or, or_false, Int.reduceLT, ral, rsq, rlu, rdp, Bool.true_or, Bool.false_or, Bool.or_false, Bool.or_true, ha]
    refine Br.d (fun c => absurd c (by decide +kernel)) fun _ => ?_
    simp only [and_assoc, rst, rs, re, ra, rq, rx, ro, rl, rl2, rsp, rz, rix, rln, rg, rd, ri, rv, rk, rdd, rwi, at0, at1, at2, at3, upd_at, List.getElem?_cons_zero, List.getElem?_cons_succ, Option.some.injEq, exists_eq_left', exists_eq_left, List.set_cons_zero, List.set_cons_succ, true_and, and_true, HO.lst.injEq, HO.tup.injEq, exists_and_left, exists_eq, exists_eq', Br.t, Br.f, Be.t, Be.f, List.cons.injEq, List.append_nil, scal, if_true, if_false, ite_true, ite_false, eq_self_iff_true, decide_true, decide_false, Bool.not_true, Bool.not_false, reduceIte, List.nil_append, List.cons_append, reduceCtorEq, false_and, exists_false, false_or, or_false, Int.reduceLT, ral, rsq, rlu, rdp, Bool.true_or, Bool.false_or, Bool.or_false, Bool.or_true, ha]
    exact ⟨_, _, rfl, _, .share1 h1, ho⟩
  | share2 h1 h2 h3 h4 =>
    simp only [and_assoc, rst, rs, re, ra, rq, rx, ro, rl, rl2, rsp, rz, rix, rln, rg, rd, ri, rv, rk, rdd, rwi, at0, at1, at2, at3, upd_at, List.getElem?_cons_zero, List.getElem?_cons_succ, Option.some.injEq, exists_eq_left', exists_eq_left, List.set_cons_zero, List.set_cons_succ, true_and, and_true, HO.lst.injEq, HO.tup.injEq, exists_and_left, exists_eq, exists_eq', Br.t, Br.f, Be.t, Be.f, List.cons.injEq, List.append_nil, scal, if_true, if_false, ite_true, ite_false, eq_self_iff_true, decide_true, decide_false, Bool.not_true, Bool.not_false, reduceIte, List.nil_append, List.cons_append, reduceCtorEq, false_and, exists_false, false_or, or_false, Int.reduceLT, ral, rsq, rlu, rdp, Bool.true_or, Bool.false_or, Bool.or_false, Bool.or_true, ha]
    refine Br.d (fun c => absurd c (by decide +kernel)) fun _ => ?_
    simp only [and_assoc, rst, rs, re, ra, rq, rx, ro, rl, rl2, rsp, rz, rix, rln, rg, rd, ri, rv, rk, rdd, rwi, at0, at1, at2, at3, upd_at, List.getElem?_cons_zero, List.getElem?_cons_succ, Option.some.injEq, exists_eq_left', exists_eq_left, List.set_cons_zero, List.set_cons_succ, true_and, and_true, HO.lst.injEq, HO.tup.injEq, exists_and_left, exists_eq, exists_eq', Br.t, Br.f, Be.t, Be.f, List.cons.injEq, List.append_nil, scal, if_true, if_false, ite_true, ite_false, eq_self_iff_true, decide_true, decide_false, Bool.not_true, Bool.not_false, reduceIte, List.nil_append, List.cons_append, reduceCtorEq, false_and, exists_false, false_or, or_false, Int.reduceLT, ral, rsq, rlu, rdp, Bool.true_or, Bool.false_or, Bool.or_false, Bool.or_true, ha]
    refine Br.d (fun c => absurd c (by decide +kernel)) fun _ => ?_
    simp only [and_assoc, rst, rs, re, ra, rq, rx, ro, rl, rl2, rsp, rz, rix, rln, rg, rd, ri, rv, rk, rdd, rwi, at0, at1, at2, at3, upd_at, List.getElem?_cons_zero, List.getElem?_cons_succ, Option.some.injEq, exists_eq_left', exists_eq_left, List.set_cons_zero, List.set_cons_succ, true_and, and_true, HO.lst.injEq, HO.tup.injEq, exists_and_left, exists_eq, exists_eq', Br.t, Br.f, Be.t, Be.f, List.cons.injEq, List.append_nil, scal, if_true, if_false, ite_true, ite_false, eq_self_iff_true, decide_true, decide_false, Bool.not_true, Bool.not_false, reduceIte, List.nil_append, List.cons_append, reduceCtorEq, false_and, exists_false, false_or, or_false, Int.reduceLT, ral, rsq, rlu, rdp, Bool.true_or, Bool.false_or, Bool.or_false, Bool.or_true, ha]
    refine Br.d (fun c => absurd c (by decide +kernel)) fun _ => ?_
    simp only [and_assoc, rst, rs, re, ra, rq, rx, ro, rl, rl2, rsp, rz, rix, rln, rg, rd, ri, rv, rk, rdd, rwi, at0, at1, at2, at3, upd_at, List.getElem?_cons_zero, List.getElem?_cons_succ, Option.some.injEq, exists_eq_left', exists_eq_left, List.set_cons_zero, List.set_cons_succ, true_and, and_true, HO.lst.injEq, HO.tup.injEq, exists_and_left, exists_eq, exists_eq', Br.t, Br.f, Be.t, Be.f, List.cons.injEq, List.append_nil, scal, if_true, if_false, ite_true, ite_false, eq_self_iff_true, decide_true, decide_false, Bool.not_true, Bool.not_false, reduceIte, List.nil_append, List.cons_append, reduceCtorEq, false_and, exists_false, false_or, or_false, Int.reduceLT, ral, rsq, rlu, rdp, Bool.true_or, Bool.false_or, Bool.or_false, Bool.or_true, ha]
    refine Br.d (fun c => absurd c (by decide +kernel)) fun _ => ?_
    simp only [and_assoc, rst, rs, re, ra, rq, rx, ro, rl, rl2, rsp, rz, rix, rln, rg, rd, ri, rv, rk, rdd, rwi, at0, at1, at2, at3, upd_at, List.getElem?_cons_zero, List.getElem?_cons_succ, Option.some.injEq, exists_eq_left', exists_eq_left, List.set_cons_zero, List.set_cons_succ, true_and, and_true, HO.lst.injEq, HO.tup.injEq, exists_and_left, exists_eq, exists_eq', Br.t, Br.f, Be.t, Be.f, List.cons.injEq, List.append_nil, scal, if_true, if_false, ite_true, ite_false, eq_self_iff_true, decide_true, decide_false, Bool.not_true, Bool.not_false, reduceIte, List.nil_append, List.cons_append, reduceCtorEq, false_and, exists_false, false_or, or_false, Int.reduceLT, ral, rsq, rlu, rdp, Bool.true_or, Bool.false_or, Bool.or_false, Bool.or_true, ha]
    refine Br.d (fun c => absurd c (by decide +kernel)) fun _ => ?_
    simp only [and_assoc, rst, rs, re, ra, rq, rx, ro, rl, rl2, rsp, rz, rix, rln, rg, rd, ri, rv, rk, rdd, rwi, at0, at1, at2, at3, upd_at, List.getElem?_cons_zero, List.getElem?_cons_succ, Option.some.injEq, exists_eq_left', exists_eq_left, List.set_cons_zero, List.set_cons_succ, true_and, and_true, HO.lst.injEq, HO.tup.injEq, exists_and_left, exists_eq, exists_eq', Br.t, Br.f, Be.t, Be.f, List.cons.injEq, List.append_nil, scal, if_true, if_false, ite_true, ite_false, eq_self_iff_true, decide_true, decide_false, Bool.not_true, Bool.not_false, reduceIte, List.nil_append, List.cons_append, reduceCtorEq, false_and, exists_false, false_or, or_false, Int.reduceLT, ral, rsq, rlu, rdp, Bool.true_or, Bool.false_or, Bool.or_false, Bool.or_true, ha]
    exact ⟨_, _, rfl, _, .share2 h1 h2 h3 h4, ho⟩
  | share3 h1 h2 h3 h4 =>
    simp only [and_assoc, rst, rs, re, ra, rq, rx, ro, rl, rl2, rsp, rz, rix, rln, rg, rd, ri, rv, rk, rdd, rwi, at0, at1, at2, at3, upd_at, List.getElem?_cons_zero, List.getElem?_cons_succ, Option.some.injEq, exists_eq_left', exists_eq_left, List.set_cons_zero, List.set_cons_succ, true_and, and_true, HO.lst.injEq, HO.tup.injEq, exists_and_left, exists_eq, exists_eq', Br.t, Br.f, Be.t, Be.f, List.cons.injEq, List.append_nil, scal, if_true, if_false, ite_true, ite_false, eq_self_iff_true, decide_true, decide_false, Bool.not_true, Bool.not_false, reduceIte, List.nil_append, List.cons_append, reduceCtorEq, false_and, exists_false, false_or, or_false, Int.reduceLT, ral, rsq, rlu, rdp, Bool.true_or, Bool.false_or, Bool.or_false, Bool.or_true, ha]
    refine Br.d (fun c => absurd c (by decide +kernel)) fun _ => ?_
    simp only [and_assoc, rst, rs, re, ra, rq, rx, ro, rl, rl2, rsp, rz, rix, rln, rg, rd, ri, rv, rk, rdd, rwi, at0, at1, at2, at3, upd_at, List.getElem?_cons_zero, List.getElem?_cons_succ, Option.some.injEq, exists_eq_left', exists_eq_left, List.set_cons_zero, List.set_cons_succ, true_and, and_true, HO.lst.injEq, HO.tup.injEq, exists_and_left, exists_eq, exists_eq', Br.t, Br.f, Be.t, Be.f, List.cons.injEq, List.append_nil, scal, if_true, if_false, ite_true, ite_false, eq_self_iff_true, decide_true, decide_false, Bool.not_true, Bool.not_false, reduceIte, List.nil_append, List.cons_append, reduceCtorEq, false_and, exists_false, false_or, or_false, Int.reduceLT, ral, rsq, rlu, rdp, Bool.true_or, Bool.false_or, Bool.or_false, Bool.or_true, ha]
    refine Br.d (fun c => absurd c (by decide +kernel)) fun _ => ?_
    simp only [and_assoc, rst, rs, re, ra, rq, rx, ro, rl, rl2, rsp, rz, rix, rln, rg, rd, ri, rv, rk, rdd, rwi, at0, at1, at2, at3, upd_at, List.getElem?_cons_zero, List.getElem?_cons_succ, Option.some.injEq, exists_eq_left', exists_eq_left, List.set_cons_zero, List.set_cons_succ, true_and, and_true, HO.lst.injEq, HO.tup.injEq, exists_and_left, exists_eq, exists_eq', Br.t, Br.f, Be.t, Be.f, List.cons.injEq, List.append_nil, scal, if_true, if_false, ite_true, ite_false, eq_self_iff_true, decide_true, decide_false, Bool.not_true, Bool.not_false, reduceIte, List.nil_append, List.cons_append, reduceCtorEq, false_and, exists_false, false_or, or_false, Int.reduceLT, ral, rsq, rlu, rdp, Bool.true_or, Bool.false_or, Bool.or_false, Bool.or_true, ha]
    refine Br.d (fun c => absurd c (by decide +kernel)) fun _ => ?_
    simp only [and_assoc, rst, rs, re, ra, rq, rx, ro, rl, rl2, rsp, rz, rix, rln, rg, rd, ri, rv, rk, rdd, rwi, at0, at1, at2, at3, upd_at, List.getElem?_cons_zero, List.getElem?_cons_succ, Option.some.injEq, exists_eq_left', exists_eq_left, List.set_cons_zero, List.set_cons_succ, true_and, and_true, HO.lst.injEq, HO.tup.injEq, exists_and_left, exists_eq, exists_eq', Br.t, Br.f, Be.t, Be.f, List.cons.injEq, List.append_nil, scal, if_true, if_false, ite_true, ite_false, eq_self_iff_true, decide_true, decide_false, Bool.not_true, Bool.not_false, reduceIte, List.nil_append, List.cons_append, reduceCtorEq, false_and, exists_false, false_or, or_false, Int.reduceLT, ral, rsq, rlu, rdp, Bool.true_or, Bool.false_or, Bool.or_false, Bool.or_true, ha]
    refine Br.d (fun c => absurd c (by decide +kernel)) fun _ => ?_
    simp only [and_assoc, rst, rs, re, ra, rq, rx, ro, rl, rl2, rsp, rz, rix, rln, rg, rd, ri, rv, rk, rdd, rwi, at0, at1, at2, at3, upd_at, List.getElem?_cons_zero, List.getElem?_cons_succ, Option.some.injEq, exists_eq_left', exists_eq_left, List.set_cons_zero, List.set_cons_succ, true_and, and_true, HO.lst.injEq, HO.tup.injEq, exists_and_left, exists_eq, exists_eq', Br.t, Br.f, Be.t, Be.f, List.cons.injEq, List.append_nil, scal, if_true, if_false, ite_true, ite_false, eq_self_iff_true, decide_true, decide_false, Bool.not_true, Bool.not_false, reduceIte, List.nil_append, List.cons_append, reduceCtorEq, false_and, exists_false, false_or, or_false, Int.reduceLT, ral, rsq, rlu, rdp, Bool.true_or, Bool.false_or, Bool.or_false, Bool.or_true, ha]
    refine Br.d (fun c => absurd c (by decide +kernel)) fun _ => ?_
    simp only [and_assoc, rst, rs, re, ra, rq, rx, ro, rl, rl2, rsp, rz, rix, rln, rg, rd, ri, rv, rk, rdd, rwi, at0, at1, at2, at3, upd_at, List.getElem?_cons_zero, List.getElem?_cons_succ, Option.some.injEq, exists_eq_left', exists_eq_left, List.set_cons_zero, List.set_cons_succ, true_and, and_true, HO.lst.injEq, HO.tup.injEq, exists_and_left, exists_eq, exists_eq', Br.t, Br.f, Be.t, Be.f, List.cons.injEq, List.append_nil, scal, if_true, if_false, ite_true, ite_false, eq_self_iff_true, decide_true, decide_false, Bool.not_true, Bool.not_false, reduceIte, List.nil_append, List.cons_append, reduceCtorEq, false_and, exists_false, false_or, or_false, Int.reduceLT, ral, rsq, rlu, rdp, Bool.true_or, Bool.false_or, Bool.or_false, Bool.or_true, ha]
    exact ⟨_, _, rfl, _, .share3 h1 h2 h3 h4, ho⟩
  | rest1 h1 =>
    simp only [and_assoc, rst, rs, re, ra, rq, rx, ro, rl, rl2, rsp, rz, rix, rln, rg, rd, ri, rv, rk, rdd, rwi, at0, at1, at2, at3, upd_at, List.getElem?_cons_zero, List.getElem?_cons_succ, Option.some.injEq, exists_eq_left', exists_eq_left, List.set_cons_zero, List.set_cons_succ, true_and, and_true, HO.lst.injEq, HO.tup.injEq, exists_and_left, exists_eq, exists_eq', Br.t, Br.f, Be.t, Be.f, List.cons.injEq, List.append_nil, scal, if_true, if_false, ite_true, ite_false, eq_self_iff_true, decide_true, decide_false, Bool.not_true, Bool.not_false, reduceIte, List.nil_append, List.cons_append, reduceCtorEq, false_and, exists_false, false_or, or_false, Int.reduceLT, ral, rsq, rlu, rdp, Bool.true_or, Bool.false_or, Bool.or_false, Bool.or_true, ha]
    refine Br.d (fun c => absurd c (by decide +kernel)) fun _ => ?_
    simp only [and_assoc, rst, rs, re, ra, rq, rx, ro, rl, rl2, rsp, rz, rix, rln, rg, rd, ri, rv, rk, rdd, rwi, at0, at1, at2, at3, upd_at, List.getElem?_cons_zero, List.getElem?_cons_succ, Option.some.injEq, exists_eq_left', exists_eq_left, List.set_cons_zero, List.set_cons_succ, true_and, and_true, HO.lst.injEq, HO.tup.injEq, exists_and_left, exists_eq, exists_eq', Br.t, Br.f, Be.t, Be.f, List.cons.injEq, List.append_nil, scal, if_true, if_false, ite_true, ite_false, eq_self_iff_true, decide_true, decide_false, Bool.not_true, Bool.not_false, reduceIte, List.nil_append, List.cons_append, reduceCtorEq, false_and, exists_false, false_or, or_false, Int.reduceLT, ral, rsq, rlu, rdp, Bool.true_or, Bool.false_or, Bool.or_false, Bool.or_true, ha]
    refine Br.d (fun c => absurd c (by decide +kernel)) fun _ => ?_
    simp only [and_assoc, rst, rs, re, ra, rq, rx, ro, rl, rl2, rsp, rz, rix, rln, rg, rd, ri, rv, rk, rdd, rwi, at0, at1, at2, at3, upd_at, List.getElem?_cons_zero, List.getElem?_cons_succ, Option.some.injEq, exists_eq_left', exists_eq_left, List.set_cons_zero, List.set_cons_succ, true_and, and_true, HO.lst.injEq, HO.tup.injEq, exists_and_left, exists_eq, exists_eq', Br.t, Br.f, Be.t, Be.f, List.cons.injEq, List.append_nil, scal, if_true, if_false, ite_true, ite_false, eq_self_iff_true, decide_true, decide_false, Bool.not_true, Bool.not_false, reduceIte, List.nil_append, List.cons_append, reduceCtorEq, false_and, exists_false, false_or, or_false, Int.reduceLT, ral, rsq, rlu, rdp, Bool.true_or, Bool.false_or, Bool.or_false, Bool.or_true, ha]
    refine Br.d (fun c => absurd c (by decide +kernel)) fun _ => ?_
    simp only [and_assoc, rst, rs, re, ra, rq, rx, ro, rl, rl2, rsp, rz, rix, rln, rg, rd, ri, rv, rk, rdd, rwi, at0, at1, at2, at3, upd_at, List.getElem?_cons_zero, List.getElem?_cons_succ, Option.some.injEq, exists_eq_left', exists_eq_left, List.set_cons_zero, List.set_cons_succ, true_and, and_true, HO.lst.injEq, HO.tup.injEq, exists_and_left, exists_eq, exists_eq', Br.t, Br.f, Be.t, Be.f, List.cons.injEq, List.append_nil, scal, if_true, if_false, ite_true, ite_false, eq_self_iff_true, decide_true, decide_false, Bool.not_true, Bool.not_false, reduceIte, List.nil_append, List.cons_append, reduceCtorEq, false_and, exists_false, false_or, or_false, Int.reduceLT, ral, rsq, rlu, rdp, Bool.true_or, Bool.false_or, Bool.or_false, Bool.or_true, ha]
    refine Br.d (fun c => absurd c (by decide +kernel)) fun _ => ?_
    simp only [and_assoc, rst, rs, re, ra, rq, rx, ro, rl, rl2, rsp, rz, rix, rln, rg, rd, ri, rv, rk, rdd, rwi, at0, at1, at2, at3, upd_at, List.getElem?_cons_zero, List.getElem?_cons_succ, Option.some.injEq, exists_eq_left', exists_eq_left, List.set_cons_zero, List.set_cons_succ, true_and, and_true, HO.lst.injEq, HO.tup.injEq, exists_and_left, exists_eq, exists_eq', Br.t, Br.f, Be.t, Be.f, List.cons.injEq, List.append_nil, scal, if_true, if_false, ite_true, ite_false, eq_self_iff_true, decide_true, decide_false, Bool.not_true, Bool.not_false, reduceIte, List.nil_append, List.cons_append, reduceCtorEq, false_and, exists_false, false_or, or_false, Int.reduceLT, ral, rsq, rlu, rdp, Bool.true_or, Bool.false_or, Bool.or_false, Bool.or_true, ha]
    refine Br.d (fun c => absurd c (by decide +kernel)) fun _ => ?_
    simp only [and_assoc, rst, rs, re, ra, rq, rx, ro, rl, rl2, rsp, rz, rix, rln, rg, rd, ri, rv, rk, rdd, rwi, at0, at1, at2, at3, upd_at, List.getElem?_cons_zero, List.getElem?_cons_succ, Option.some.injEq, exists_eq_left', exists_eq_left, List.set_cons_zero, List.set_cons_succ, true_and, and_true, HO.lst.injEq, HO.tup.injEq, exists_and_left, exists_eq, exists_eq', Br.t, Br.f, Be.t, Be.f, List.cons.injEq, List.append_nil, scal, if_true, if_false, ite_true, ite_false, eq_self_iff_true, decide_true, decide_false, Bool.not_true, Bool.not_false, reduceIte, List.nil_append, List.cons_append, reduceCtorEq, false_and, exists_false, false_or, or_false, Int.reduceLT, ral, rsq, rlu, rdp, Bool.true_or, Bool.false_or, Bool.or_false, Bool.or_true, ha]
    refine Br.d (fun c => absurd c (by decide +kernel)) fun _ => ?_
    simp only [and_assoc, rst, rs, re, ra, rq, rx, ro, rl, rl2, rsp, rz, rix, rln, rg, rd, ri, rv, rk, rdd, rwi, at0, at1, at2, at3, upd_at, List.getElem?_cons_zero, List.getElem?_cons_succ, Option.some.injEq, exists_eq_left', exists_eq_left, List.set_cons_zero, List.set_cons_succ, true_and, and_true, HO.lst.injEq, HO.tup.injEq, exists_and_left, exists_eq, exists_eq', Br.t, Br.f, Be.t, Be.f, List.cons.injEq, List.append_nil, scal, if_true, if_false, ite_true, ite_false, eq_self_iff_true, decide_true, decide_false, Bool.not_true, Bool.not_false, reduceIte, List.nil_append, List.cons_append, reduceCtorEq, false_and, exists_false, false_or, or_false, Int.reduceLT, ral, rsq, rlu, rdp, Bool.true_or, Bool.false_or, Bool.or_false, Bool.or_true, ha]
    exact ⟨_, _, rfl, _, .rest1 h1, ho⟩
  | rest2 h1 h2 h3 h4 =>
    simp only [and_assoc, rst, rs, re, ra, rq, rx, ro, rl, rl2, rsp, rz, rix, rln, rg, rd, ri, rv, rk, rdd, rwi, at0, at1, at2, at3, upd_at, List.getElem?_cons_zero, List.getElem?_cons_succ, Option.some.injEq, exists_eq_left', exists_eq_left, List.set_cons_zero, List.set_cons_succ, true_and, and_true, HO.lst.injEq, HO.tup.injEq, exists_and_left, exists_eq, exists_eq', Br.t, Br.f, Be.t, Be.f, List.cons.injEq, List.append_nil, scal, if_true, if_false, ite_true, ite_false, eq_self_iff_true, decide_true, decide_false, Bool.not_true, Bool.not_false, reduceIte, List.nil_append, List.cons_append, reduceCtorEq, false_and, exists_false, false_or, or_false, Int.reduceLT, ral, rsq, rlu, rdp, Bool.true_or, Bool.false_or, Bool.or_false, Bool.or_true, ha]
    refine Br.d (fun c => absurd c (by decide +kernel)) fun _ => ?_
    simp only [and_assoc, rst, rs, re, ra, rq, rx, ro, rl, rl2, rsp, rz, rix, rln, rg, rd, ri, rv, rk, rdd, rwi, at0, at1, at2, at3, upd_at, List.getElem?_cons_zero, List.getElem?_cons_succ, Option.some.injEq, exists_eq_left', exists_eq_left, List.set_cons_zero, List.set_cons_succ, true_and, and_true, HO.lst.injEq, HO.tup.injEq, exists_and_left, exists_eq, exists_eq', Br.t, Br.f, Be.t, Be.f, List.cons.injEq, List.append_nil, scal, if_true, if_false, ite_true, ite_false, eq_self_iff_true, decide_true, decide_false, Bool.not_true, Bool.not_false, reduceIte, List.nil_append, List.cons_append, reduceCtorEq, false_and, exists_false, false_or, or_false, Int.reduceLT, ral, rsq, rlu, rdp, Bool.true_or, Bool.false_or, Bool.or_false, Bool.or_true, ha]
    refine Br.d (fun c => absurd c (by decide +kernel)) fun _ => ?_
    simp only [and_assoc, rst, rs, re, ra, rq, rx, ro, rl, rl2, rsp, rz, rix, rln, rg, rd, ri, rv, rk, rdd, rwi, at0, at1, at2, at3, upd_at, List.getElem?_cons_zero, List.getElem?_cons_succ, Option.some.injEq, exists_eq_left', exists_eq_left, List.set_cons_zero, List.set_cons_succ, true_and, and_true, HO.lst.injEq, HO.tup.injEq, exists_and_left, exists_eq, exists_eq', Br.t, Br.f, Be.t, Be.f, List.cons.injEq, List.append_nil, scal, if_true, if_false, ite_true, ite_false, eq_self_iff_true, decide_true, decide_false, Bool.not_true, Bool.not_false, reduceIte, List.nil_append, List.cons_append, reduceCtorEq, false_and, exists_false, false_or, or_false, Int.reduceLT, ral, rsq, rlu, rdp, Bool.true_or, Bool.false_or, Bool.or_false, Bool.or_true, ha]
    refine Br.d (fun c => absurd c (by decide +kernel)) fun _ => ?_
    simp only [and_assoc, rst, rs, re, ra, rq, rx, ro, rl, rl2, rsp, rz, rix, rln, rg, rd, ri, rv, rk, rdd, rwi, at0, at1, at2, at3, upd_at, List.getElem?_cons_zero, List.getElem?_cons_succ, Option.some.injEq, exists_eq_left', exists_eq_left, List.set_cons_zero, List.set_cons_succ, true_and, and_true, HO.lst.injEq, HO.tup.injEq, exists_and_left, exists_eq, exists_eq', Br.t, Br.f, Be.t, Be.f, List.cons.injEq, List.append_nil, scal, if_true, if_false, ite_true, ite_false, eq_self_iff_true, decide_true, decide_false, Bool.not_true, Bool.not_false, reduceIte, List.nil_append, List.cons_append, reduceCtorEq, false_and, exists_false, false_or, or_false, Int.reduceLT, ral, rsq, rlu, rdp, Bool.true_or, Bool.false_or, Bool.or_false, Bool.or_true, ha]
    refine Br.d (fun c => absurd c (by decide +kernel)) fun _ => ?_
    simp only [and_assoc, rst, rs, re, ra, rq, rx, ro, rl, rl2, rsp, rz, rix, rln, rg, rd, ri, rv, rk, rdd, rwi, at0, at1, at2, at3, upd_at, List.getElem?_cons_zero, List.getElem?_cons_succ, Option.some.injEq, exists_eq_left', exists_eq_left, List.set_cons_zero, List.set_cons_succ, true_and, and_true, HO.lst.injEq, HO.tup.injEq, exists_and_left, exists_eq, exists_eq', Br.t, Br.f, Be.t, Be.f, List.cons.injEq, List.append_nil, scal, if_true, if_false, ite_true, ite_false, eq_self_iff_true, decide_true, decide_false, Bool.not_true, Bool.not_false, reduceIte, List.nil_append, List.cons_append, reduceCtorEq, false_and, exists_false, false_or, or_false, Int.reduceLT, ral, rsq, rlu, rdp, Bool.true_or, Bool.false_or, Bool.or_false, Bool.or_true, ha]
    refine Br.d (fun c => absurd c (by decide +kernel)) fun _ => ?_
    simp only [and_assoc, rst, rs, re, ra, rq, rx, ro, rl, rl2, rsp, rz, rix, rln, rg, rd, ri, rv, rk, rdd, rwi, at0, at1, at2, at3, upd_at, List.getElem?_cons_zero, List.getElem?_cons_succ, Option.some.injEq, exists_eq_left', exists_eq_left, List.set_cons_zero, List.set_cons_succ, true_and, and_true, HO.lst.injEq, HO.tup.injEq, exists_and_left, exists_eq, exists_eq', Br.t, Br.f, Be.t, Be.f, List.cons.injEq, List.append_nil, scal, if_true, if_false, ite_true, ite_false, eq_self_iff_true, decide_true, decide_false, Bool.not_true, Bool.not_false, reduceIte, List.nil_append, List.cons_append, reduceCtorEq, false_and, exists_false, false_or, or_false, Int.reduceLT, ral, rsq, rlu, rdp, Bool.true_or, Bool.false_or, Bool.or_false, Bool.or_true, ha]
    refine Br.d (fun c => absurd c (by decide +kernel)) fun _ => ?_
    simp only [and_assoc, rst, rs, re, ra, rq, rx, ro, rl, rl2, rsp, rz, rix, rln, rg, rd, ri, rv, rk, rdd, rwi, at0, at1, at2, at3, upd_at, List.getElem?_cons_zero, List.getElem?_cons_succ, Option.some.injEq, exists_eq_left', exists_eq_left, List.set_cons_zero, List.set_cons_succ, true_and, and_true, HO.lst.injEq, HO.tup.injEq, exists_and_left, exists_eq, exists_eq', Br.t, Br.f, Be.t, Be.f, List.cons.injEq, List.append_nil, scal, if_true, if_false, ite_true, ite_false, eq_self_iff_true, decide_true, decide_false, Bool.not_true, Bool.not_false, reduceIte, List.nil_append, List.cons_append, reduceCtorEq, false_and, exists_false, false_or, or_false, Int.reduceLT, ral, rsq, rlu, rdp, Bool.true_or, Bool.false_or, Bool.or_false, Bool.or_true, ha]
    exact ⟨_, _, rfl, _, .rest2 h1 h2 h3 h4, ho⟩
  | first1 h1 =>
    simp only [and_assoc, rst, rs, re, ra, rq, rx, ro, rl, rl2, rsp, rz, rix, rln, rg, rd, ri, rv, rk, rdd, rwi, at0, at1, at2, at3, upd_at, List.getElem?_cons_zero, List.getElem?_cons_succ, Option.some.injEq, exists_eq_left', exists_eq_left, List.set_cons_zero, List.set_cons_succ, true_and, and_true, HO.lst.injEq, HO.tup.injEq, exists_and_left, exists_eq, exists_eq', Br.t, Br.f, Be.t, Be.f, List.cons.injEq, List.append_nil, scal, if_true, if_false, ite_true, ite_false, eq_self_iff_true, decide_true, decide_false, Bool.not_true, Bool.not_false, reduceIte, List.nil_append, List.cons_append, reduceCtorEq, false_and, exists_false, false_or, or_false, Int.reduceLT, ral, rsq, rlu, rdp, Bool.true_or, Bool.false_or, Bool.or_false, Bool.or_true, ha]
    refine Br.d (fun c => absurd c (by decide +kernel)) fun _ => ?_
    simp only [and_assoc, rst, rs, re, ra, rq, rx, ro, rl, rl2, rsp, rz, rix, rln, rg, rd, ri, rv, rk, rdd, rwi, at0, at1, at2, at3, upd_at, List.getElem?_cons_zero, List.getElem?_cons_succ, Option.some.injEq, exists_eq_left', exists_eq_left, List.set_cons_zero, List.set_cons_succ, true_and, and_true, HO.lst.injEq, HO.tup.injEq, exists_and_left, exists_eq, exists_eq', Br.t, Br.f, Be.t, Be.f, List.cons.injEq, List.append_nil, scal, if_true, if_false, ite_true, ite_false, eq_self_iff_true, decide_true, decide_false, Bool.not_true, Bool.not_false, reduceIte, List.nil_append, List.cons_append, reduceCtorEq, false_and, exists_false, false_or, or_false, Int.reduceLT, ral, rsq, rlu, rdp, Bool.true_or, Bool.false_or, Bool.or_false, Bool.or_true, ha]
    refine Br.d (fun c => absurd c (by decide +kernel)) fun _ => ?_
    simp only [and_assoc, rst, rs, re, ra, rq, rx, ro, rl, rl2, rsp, rz, rix, rln, rg, rd, ri, rv, rk, rdd, rwi, at0, at1, at2, at3, upd_at, List.getElem?_cons_zero, List.getElem?_cons_succ, Option.some.injEq, exists_eq_left', exists_eq_left, List.set_cons_zero, List.set_cons_succ, true_and, and_true, HO.lst.injEq, HO.tup.injEq, exists_and_left, exists_eq, exists_eq', Br.t, Br.f, Be.t, Be.f, List.cons.injEq, List.append_nil, scal, if_true, if_false, ite_true, ite_false, eq_self_iff_true, decide_true, decide_false, Bool.not_true, Bool.not_false, reduceIte, List.nil_append, List.cons_append, reduceCtorEq, false_and, exists_false, false_or, or_false, Int.reduceLT, ral, rsq, rlu, rdp, Bool.true_or, Bool.false_or, Bool.or_false, Bool.or_true, ha]
    refine Br.d (fun c => absurd c (by decide +kernel)) fun _ => ?_
    simp only [and_assoc, rst, rs, re, ra, rq, rx, ro, rl, rl2, rsp, rz, rix, rln, rg, rd, ri, rv, rk, rdd, rwi, at0, at1, at2, at3, upd_at, List.getElem?_cons_zero, List.getElem?_cons_succ, Option.some.injEq, exists_eq_left', exists_eq_left, List.set_cons_zero, List.set_cons_succ, true_and, and_true, HO.lst.injEq, HO.tup.injEq, exists_and_left, exists_eq, exists_eq', Br.t, Br.f, Be.t, Be.f, List.cons.injEq, List.append_nil, scal, if_true, if_false, ite_true, ite_false, eq_self_iff_true, decide_true, decide_false, Bool.not_true, Bool.not_false, reduceIte, List.nil_append, List.cons_append, reduceCtorEq, false_and, exists_false, false_or, or_false, Int.reduceLT, ral, rsq, rlu, rdp, Bool.true_or, Bool.false_or, Bool.or_false, Bool.or_true, ha]
    refine Br.d (fun c => absurd c (by decide +kernel)) fun _ => ?_
    simp only [and_assoc, rst, rs, re, ra, rq, rx, ro, rl, rl2, rsp, rz, rix, rln, rg, rd, ri, rv, rk, rdd, rwi, at0, at1, at2, at3, upd_at, List.getElem?_cons_zero, List.getElem?_cons_succ, Option.some.injEq, exists_eq_left', exists_eq_left, List.set_cons_zero, List.set_cons_succ, true_and, and_true, HO.lst.injEq, HO.tup.injEq, exists_and_left, exists_eq, exists_eq', Br.t, Br.f, Be.t, Be.f, List.cons.injEq, List.append_nil, scal, if_true, if_false, ite_true, ite_false, eq_self_iff_true, decide_true, decide_false, Bool.not_true, Bool.not_false, reduceIte, List.nil_append, List.cons_append, reduceCtorEq, false_and, exists_false, false_or, or_false, Int.reduceLT, ral, rsq, rlu, rdp, Bool.true_or, Bool.false_or, Bool.or_false, Bool.or_true, ha]
    refine Br.d (fun c => absurd c (by decide +kernel)) fun _ => ?_
    simp only [and_assoc, rst, rs, re, ra, rq, rx, ro, rl, rl2, rsp, rz, rix, rln, rg, rd, ri, rv, rk, rdd, rwi, at0, at1, at2, at3, upd_at, List.getElem?_cons_zero, List.getElem?_cons_succ, Option.some.injEq, exists_eq_left', exists_eq_left, List.set_cons_zero, List.set_cons_succ, true_and, and_true, HO.lst.injEq, HO.tup.injEq, exists_and_left, exists_eq, exists_eq', Br.t, Br.f, Be.t, Be.f, List.cons.injEq, List.append_nil, scal, if_true, if_false, ite_true, ite_false, eq_self_iff_true, decide_true, decide_false, Bool.not_true, Bool.not_false, reduceIte, List.nil_append, List.cons_append, reduceCtorEq, false_and, exists_false, false_or, or_false, Int.reduceLT, ral, rsq, rlu, rdp, Bool.true_or, Bool.false_or, Bool.or_false, Bool.or_true, ha]
    refine Br.d (fun c => absurd c (by decide +kernel)) fun _ => ?_
    simp only [and_assoc, rst, rs, re, ra, rq, rx, ro, rl, rl2, rsp, rz, rix, rln, rg, rd, ri, rv, rk, rdd, rwi, at0, at1, at2, at3, upd_at, List.getElem?_cons_zero, List.getElem?_cons_succ, Option.some.injEq, exists_eq_left', exists_eq_left, List.set_cons_zero, List.set_cons_succ, true_and, and_true, HO.lst.injEq, HO.tup.injEq, exists_and_left, exists_eq, exists_eq', Br.t, Br.f, Be.t, Be.f, List.cons.injEq, List.append_nil, scal, if_true, if_false, ite_true, ite_false, eq_self_iff_true, decide_true, decide_false, Bool.not_true, Bool.not_false, reduceIte, List.nil_append, List.cons_append, reduceCtorEq, false_and, exists_false, false_or, or_false, Int.reduceLT, ral, rsq, rlu, rdp, Bool.true_or, Bool.false_or, Bool.or_false, Bool.or_true, ha]
    refine Br.d (fun c => absurd c (by decide +kernel)) fun _ => ?_
    simp only [and_assoc, rst, rs, re, ra, rq, rx, ro, rl, rl2, rsp, rz, rix, rln, rg, rd, ri, rv, rk, rdd, rwi, at0, at1, at2, at3, upd_at, List.getElem?_cons_zero, List.getElem?_cons_succ, Option.some.injEq, exists_eq_left', exists_eq_left, List.set_cons_zero, List.set_cons_succ, true_and, and_true, HO.lst.injEq, HO.tup.injEq, exists_and_left, exists_eq, exists_eq', Br.t, Br.f, Be.t, Be.f, List.cons.injEq, List.append_nil, scal, if_true, if_false, ite_true, ite_false, eq_self_iff_true, decide_true, decide_false, Bool.not_true, Bool.not_false, reduceIte, List.nil_append, List.cons_append, reduceCtorEq, false_and, exists_false, false_or, or_false, Int.reduceLT, ral, rsq, rlu, rdp, Bool.true_or, Bool.false_or, Bool.or_false, Bool.or_true, ha]
    exact ⟨_, _, rfl, .inl ⟨_, _, .first1 h1, ho⟩⟩
  | first2 h1 h2 h3 h4 =>
    simp only [and_assoc, rst, rs, re, ra, rq, rx, ro, rl, rl2, rsp, rz, rix, rln, rg, rd, ri, rv, rk, rdd, rwi, at0, at1, at2, at3, upd_at, List.getElem?_cons_zero, List.getElem?_cons_succ, Option.some.injEq, exists_eq_left', exists_eq_left, List.set_cons_zero, List.set_cons_succ, true_and, and_true, HO.lst.injEq, HO.tup.injEq, exists_and_left, exists_eq, exists_eq', Br.t, Br.f, Be.t, Be.f, List.cons.injEq, List.append_nil, scal, if_true, if_false, ite_true, ite_false, eq_self_iff_true, decide_true, decide_false, Bool.not_true, Bool.not_false, reduceIte, List.nil_append, List.cons_append, reduceCtorEq, false_and, exists_false, false_or, or_false, Int.reduceLT, ral, rsq, rlu, rdp, Bool.true_or, Bool.false_or, Bool.or_false, Bool.or_true, ha]
    refine Br.d (fun c => absurd c (by decide +kernel)) fun _ => ?_
    simp only [and_assoc, rst, rs, re, ra, rq, rx, ro, rl, rl2, rsp, rz, rix, rln, rg, rd, ri, rv, rk, rdd, rwi, at0, at1, at2, at3, upd_at, List.getElem?_cons_zero, List.getElem?_cons_succ, Option.some.injEq, exists_eq_left', exists_eq_left, List.set_cons_zero, List.set_cons_succ, true_and, and_true, HO.lst.injEq, HO.tup.injEq, exists_and_left, exists_eq, exists_eq', Br.t, Br.f, Be.t, Be.f, List.cons.injEq, List.append_nil, scal, if_true, if_false, ite_true, ite_false, eq_self_iff_true, decide_true, decide_false, Bool.not_true, Bool.not_false, reduceIte, List.nil_append, List.cons_append, reduceCtorEq, false_and, exists_false, false_or, or_false, Int.reduceLT, ral, rsq, rlu, rdp, Bool.true_or, Bool.false_or, Bool.or_false, Bool.or_true, ha]
    refine Br.d (fun c => absurd c (by decide +kernel)) fun _ => ?_
    simp only [and_assoc, rst, rs, re, ra, rq, rx, ro, rl, rl2, rsp, rz, rix, rln, rg, rd, ri, rv, rk, rdd, rwi, at0, at1, at2, at3, upd_at, List.getElem?_cons_zero, List.getElem?_cons_succ, Option.some.injEq, exists_eq_left', exists_eq_left, List.set_cons_zero, List.set_cons_succ, true_and, and_true, HO.lst.injEq, HO.tup.injEq, exists_and_left, exists_eq, exists_eq', Br.t, Br.f, Be.t, Be.f, List.cons.injEq, List.append_nil, scal, if_true, if_false, ite_true, ite_false, eq_self_iff_true, decide_true, decide_false, Bool.not_true, Bool.not_false, reduceIte, List.nil_append, List.cons_append, reduceCtorEq, false_and, exists_false, false_or, or_false, Int.reduceLT, ral, rsq, rlu, rdp, Bool.true_or, Bool.false_or, Bool.or_false, Bool.or_true, ha]
    refine Br.d (fun c => absurd c (by decide +kernel)) fun _ => ?_
    simp only [and_assoc, rst, rs, re, ra, rq, rx, ro, rl, rl2, rsp, rz, rix, rln, rg, rd, ri, rv, rk, rdd, rwi, at0, at1, at2, at3, upd_at, List.getElem?_cons_zero, List.getElem?_cons_succ, Option.some.injEq, exists_eq_left', exists_eq_left, List.set_cons_zero, List.set_cons_succ, true_and, and_true, HO.lst.injEq, HO.tup.injEq, exists_and_left, exists_eq, exists_eq', Br.t, Br.f, Be.t, Be.f, List.cons.injEq, List.append_nil, scal, if_true, if_false, ite_true, ite_false, eq_self_iff_true, decide_true, decide_false, Bool.not_true, Bool.not_false, reduceIte, List.nil_append, List.cons_append, reduceCtorEq, false_and, exists_false, false_or, or_false, Int.reduceLT, ral, rsq, rlu, rdp, Bool.true_or, Bool.false_or, Bool.or_false, Bool.or_true, ha]
    refine Br.d (fun c => absurd c (by decide +kernel)) fun _ => ?_
    simp only [and_assoc, rst, rs, re, ra, rq, rx, ro, rl, rl2, rsp, rz, rix, rln, rg, rd, ri, rv, rk, rdd, rwi, at0, at1, at2, at3, upd_at, List.getElem?_cons_zero, List.getElem?_cons_succ, Option.some.injEq, exists_eq_left', exists_eq_left, List.set_cons_zero, List.set_cons_succ, true_and, and_true, HO.lst.injEq, HO.tup.injEq, exists_and_left, exists_eq, exists_eq', Br.t, Br.f, Be.t, Be.f, List.cons.injEq, List.append_nil, scal, if_true, if_false, ite_true, ite_false, eq_self_iff_true, decide_true, decide_false, Bool.not_true, Bool.not_false, reduceIte, List.nil_append, List.cons_append, reduceCtorEq, false_and, exists_false, false_or, or_false, Int.reduceLT, ral, rsq, rlu, rdp, Bool.true_or, Bool.false_or, Bool.or_false, Bool.or_true, ha]
    refine Br.d (fun c => absurd c (by decide +kernel)) fun _ => ?_
    simp only [and_assoc, rst, rs, re, ra, rq, rx, ro, rl, rl2, rsp, rz, rix, rln, rg, rd, ri, rv, rk, rdd, rwi, at0, at1, at2, at3, upd_at, List.getElem?_cons_zero, List.getElem?_cons_succ, Option.some.injEq, exists_eq_left', exists_eq_left, List.set_cons_zero, List.set_cons_succ, true_and, and_true, HO.lst.injEq, HO.tup.injEq, exists_and_left, exists_eq, exists_eq', Br.t, Br.f, Be.t, Be.f, List.cons.injEq, List.append_nil, scal, if_true, if_false, ite_true, ite_false, eq_self_iff_true, decide_true, decide_false, Bool.not_true, Bool.not_false, reduceIte, List.nil_append, List.cons_append, reduceCtorEq, false_and, exists_false, false_or, or_false, Int.reduceLT, ral, rsq, rlu, rdp, Bool.true_or, Bool.false_or, Bool.or_false, Bool.or_true, ha]
    refine Br.d (fun c => absurd c (by decide +kernel)) fun _ => ?_
    simp only [and_assoc, rst, rs, re, ra, rq, rx, ro, rl, rl2, rsp, rz, rix, rln, rg, rd, ri, rv, rk, rdd, rwi, at0, at1, at2, at3, upd_at, List.getElem?_cons_zero, List.getElem?_cons_succ, Option.some.injEq, exists_eq_left', exists_eq_left, List.set_cons_zero, List.set_cons_succ, true_and, and_true, HO.lst.injEq, HO.tup.injEq, exists_and_left, exists_eq, exists_eq', Br.t, Br.f, Be.t, Be.f, List.cons.injEq, List.append_nil, scal, if_true, if_false, ite_true, ite_false, eq_self_iff_true, decide_true, decide_false, Bool.not_true, Bool.not_false, reduceIte, List.nil_append, List.cons_append, reduceCtorEq, false_and, exists_false, false_or, or_false, Int.reduceLT, ral, rsq, rlu, rdp, Bool.true_or, Bool.false_or, Bool.or_false, Bool.or_true, ha]
    refine Br.d (fun c => absurd c (by decide +kernel)) fun _ => ?_
    simp only [and_assoc, rst, rs, re, ra, rq, rx, ro, rl, rl2, rsp, rz, rix, rln, rg, rd, ri, rv, rk, rdd, rwi, at0, at1, at2, at3, upd_at, List.getElem?_cons_zero, List.getElem?_cons_succ, Option.some.injEq, exists_eq_left', exists_eq_left, List.set_cons_zero, List.set_cons_succ, true_and, and_true, HO.lst.injEq, HO.tup.injEq, exists_and_left, exists_eq, exists_eq', Br.t, Br.f, Be.t, Be.f, List.cons.injEq, List.append_nil, scal, if_true, if_false, ite_true, ite_false, eq_self_iff_true, decide_true, decide_false, Bool.not_true, Bool.not_false, reduceIte, List.nil_append, List.cons_append, reduceCtorEq, false_and, exists_false, false_or, or_false, Int.reduceLT, ral, rsq, rlu, rdp, Bool.true_or, Bool.false_or, Bool.or_false, Bool.or_true, ha]
    exact ⟨_, _, rfl, .inl ⟨_, _, .first2 h1 h2 h3 h4, ho⟩⟩
  | first3 h1 h2 h3 =>
    simp only [and_assoc, rst, rs, re, ra, rq, rx, ro, rl, rl2, rsp, rz, rix, rln, rg, rd, ri, rv, rk, rdd, rwi, at0, at1, at2, at3, upd_at, List.getElem?_cons_zero, List.getElem?_cons_succ, Option.some.injEq, exists_eq_left', exists_eq_left, List.set_cons_zero, List.set_cons_succ, true_and, and_true, HO.lst.injEq, HO.tup.injEq, exists_and_left, exists_eq, exists_eq', Br.t, Br.f, Be.t, Be.f, List.cons.injEq, List.append_nil, scal, if_true, if_false, ite_true, ite_false, eq_self_iff_true, decide_true, decide_false, Bool.not_true, Bool.not_false, reduceIte, List.nil_append, List.cons_append, reduceCtorEq, false_and, exists_false, false_or, or_false, Int.reduceLT, ral, rsq, rlu, rdp, Bool.true_or, Bool.false_or, Bool.or_false, Bool.or_true, ha]
    refine Br.d (fun c => absurd c (by decide +kernel)) fun _ => ?_
    simp only [and_assoc, rst, rs, re, ra, rq, rx, ro, rl, rl2, rsp, rz, rix, rln, rg, rd, ri, rv, rk, rdd, rwi, at0, at1, at2, at3, upd_at, List.getElem?_cons_zero, List.getElem?_cons_succ, Option.some.injEq, exists_eq_left', exists_eq_left, List.set_cons_zero, List.set_cons_succ, true_and, and_true, HO.lst.injEq, HO.tup.injEq, exists_and_left, exists_eq, exists_eq', Br.t, Br.f, Be.t, Be.f, List.cons.injEq, List.append_nil, scal, if_true, if_false, ite_true, ite_false, eq_self_iff_true, decide_true, decide_false, Bool.not_true, Bool.not_false, reduceIte, List.nil_append, List.cons_append, reduceCtorEq, false_and, exists_false, false_or, or_false, Int.reduceLT, ral, rsq, rlu, rdp, Bool.true_or, Bool.false_or, Bool.or_false, Bool.or_true, ha]
    refine Br.d (fun c => absurd c (by decide +kernel)) fun _ => ?_
    simp only [and_assoc, rst, rs, re, ra, rq, rx, ro, rl, rl2, rsp, rz, rix, rln, rg, rd, ri, rv, rk, rdd, rwi, at0, at1, at2, at3, upd_at, List.getElem?_cons_zero, List.getElem?_cons_succ, Option.some.injEq, exists_eq_left', exists_eq_left, List.set_cons_zero, List.set_cons_succ, true_and, and_true, HO.lst.injEq, HO.tup.injEq, exists_and_left, exists_eq, exists_eq', Br.t, Br.f, Be.t, Be.f, List.cons.injEq, List.append_nil, scal, if_true, if_false, ite_true, ite_false, eq_self_iff_true, decide_true, decide_false, Bool.not_true, Bool.not_false, reduceIte, List.nil_append, List.cons_append, reduceCtorEq, false_and, exists_false, false_or, or_false, Int.reduceLT, ral, rsq, rlu, rdp, Bool.true_or, Bool.false_or, Bool.or_false, Bool.or_true, ha]
    refine Br.d (fun c => absurd c (by decide +kernel)) fun _ => ?_
    simp only [and_assoc, rst, rs, re, ra, rq, rx, ro, rl, rl2, rsp, rz, rix, rln, rg, rd, ri, rv, rk, rdd, rwi, at0, at1, at2, at3, upd_at, List.getElem?_cons_zero, List.getElem?_cons_succ, Option.some.injEq, exists_eq_left', exists_eq_left, List.set_cons_zero, List.set_cons_succ, true_and, and_true, HO.lst.injEq, HO.tup.injEq, exists_and_left, exists_eq, exists_eq', Br.t, Br.f, Be.t, Be.f, List.cons.injEq, List.append_nil, scal, if_true, if_false, ite_true, ite_false, eq_self_iff_true, decide_true, decide_false, Bool.not_true, Bool.not_false, reduceIte, List.nil_append, List.cons_append, reduceCtorEq, false_and, exists_false, false_or, or_false, Int.reduceLT, ral, rsq, rlu, rdp, Bool.true_or, Bool.false_or, Bool.or_false, Bool.or_true, ha]
    refine Br.d (fun c => absurd c (by decide +kernel)) fun _ => ?_
    simp only [and_assoc, rst, rs, re, ra, rq, rx, ro, rl, rl2, rsp, rz, rix, rln, rg, rd, ri, rv, rk, rdd, rwi, at0, at1, at2, at3, upd_at, List.getElem?_cons_zero, List.getElem?_cons_succ, Option.some.injEq, exists_eq_left', exists_eq_left, List.set_cons_zero, List.set_cons_succ, true_and, and_true, HO.lst.injEq, HO.tup.injEq, exists_and_left, exists_eq, exists_eq', Br.t, Br.f, Be.t, Be.f, List.cons.injEq, List.append_nil, scal, if_true, if_false, ite_true, ite_false, eq_self_iff_true, decide_true, decide_false, Bool.not_true, Bool.not_false, reduceIte, List.nil_append, List.cons_append, reduceCtorEq, false_and, exists_false, false_or, or_false, Int.reduceLT, ral, rsq, rlu, rdp, Bool.true_or, Bool.false_or, Bool.or_false, Bool.or_true, ha]
    refine Br.d (fun c => absurd c (by decide +kernel)) fun _ => ?_
    simp only [and_assoc, rst, rs, re, ra, rq, rx, ro, rl, rl2, rsp, rz, rix, rln, rg, rd, ri, rv, rk, rdd, rwi, at0, at1, at2, at3, upd_at, List.getElem?_cons_zero, List.getElem?_cons_succ, Option.some.injEq, exists_eq_left', exists_eq_left, List.set_cons_zero, List.set_cons_succ, true_and, and_true, HO.lst.injEq, HO.tup.injEq, exists_and_left, exists_eq, exists_eq', Br.t, Br.f, Be.t, Be.f, List.cons.injEq, List.append_nil, scal, if_true, if_false, ite_true, ite_false, eq_self_iff_true, decide_true, decide_false, Bool.not_true, Bool.not_false, reduceIte, List.nil_append, List.cons_append, reduceCtorEq, false_and, exists_false, false_or, or_false, Int.reduceLT, ral, rsq, rlu, rdp, Bool.true_or, Bool.false_or, Bool.or_false, Bool.or_true, ha]
    refine Br.d (fun c => absurd c (by decide +kernel)) fun _ => ?_
    simp only [and_assoc, rst, rs, re, ra, rq, rx, ro, rl, rl2, rsp, rz, rix, rln, rg, rd, ri, rv, rk, rdd, rwi, at0, at1, at2, at3, upd_at, List.getElem?_cons_zero, List.getElem?_cons_succ, Option.some.injEq, exists_eq_left', exists_eq_left, List.set_cons_zero, List.set_cons_succ, true_and, and_true, HO.lst.injEq, HO.tup.injEq, exists_and_left, exists_eq, exists_eq', Br.t, Br.f, Be.t, Be.f, List.cons.injEq, List.append_nil, scal, if_true, if_false, ite_true, ite_false, eq_self_iff_true, decide_true, decide_false, Bool.not_true, Bool.not_false, reduceIte, List.nil_append, List.cons_append, reduceCtorEq, false_and, exists_false, false_or, or_false, Int.reduceLT, ral, rsq, rlu, rdp, Bool.true_or, Bool.false_or, Bool.or_false, Bool.or_true, ha]
    refine Br.d (fun c => absurd c (by decide +kernel)) fun _ => ?_
    simp only [and_assoc, rst, rs, re, ra, rq, rx, ro, rl, rl2, rsp, rz, rix, rln, rg, rd, ri, rv, rk, rdd, rwi, at0, at1, at2, at3, upd_at, List.getElem?_cons_zero, List.getElem?_cons_succ, Option.some.injEq, exists_eq_left', exists_eq_left, List.set_cons_zero, List.set_cons_succ, true_and, and_true, HO.lst.injEq, HO.tup.injEq, exists_and_left, exists_eq, exists_eq', Br.t, Br.f, Be.t, Be.f, List.cons.injEq, List.append_nil, scal, if_true, if_false, ite_true, ite_false, eq_self_iff_true, decide_true, decide_false, Bool.not_true, Bool.not_false, reduceIte, List.nil_append, List.cons_append, reduceCtorEq, false_and, exists_false, false_or, or_false, Int.reduceLT, ral, rsq, rlu, rdp, Bool.true_or, Bool.false_or, Bool.or_false, Bool.or_true, ha]
    exact ⟨_, _, rfl, .inr ⟨.first3 h1 h2 h3, fun z H1 s => ho _ H1 s⟩⟩
  | number1 h1 =>
    simp only [and_assoc, rst, rs, re, ra, rq, rx, ro, rl, rl2, rsp, rz, rix, rln, rg, rd, ri, rv, rk, rdd, rwi, at0, at1, at2, at3, upd_at, List.getElem?_cons_zero, List.getElem?_cons_succ, Option.some.injEq, exists_eq_left', exists_eq_left, List.set_cons_zero, List.set_cons_succ, true_and, and_true, HO.lst.injEq, HO.tup.injEq, exists_and_left, exists_eq, exists_eq', Br.t, Br.f, Be.t, Be.f, List.cons.injEq, List.append_nil, scal, if_true, if_false, ite_true, ite_false, eq_self_iff_true, decide_true, decide_false, Bool.not_true, Bool.not_false, reduceIte, List.nil_append, List.cons_append, reduceCtorEq, false_and, exists_false, false_or, or_false, Int.reduceLT, ral, rsq, rlu, rdp, Bool.true_or, Bool.false_or, Bool.or_false, Bool.or_true, ha]
    refine Br.d (fun c => absurd c (by decide +kernel)) fun _ => ?_
    simp only [and_assoc, rst, rs, re, ra, rq, rx, ro, rl, rl2, rsp, rz, rix, rln, rg, rd, ri, rv, rk, rdd, rwi, at0, at1, at2, at3, upd_at, List.getElem?_cons_zero, List.getElem?_cons_succ, Option.some.injEq, exists_eq_left', exists_eq_left, List.set_cons_zero, List.set_cons_succ, true_and, and_true, HO.lst.injEq, HO.tup.injEq, exists_and_left, exists_eq, exists_eq', Br.t, Br.f, Be.t, Be.f, List.cons.injEq, List.append_nil, scal, if_true, if_false, ite_true, ite_false, eq_self_iff_true, decide_true, decide_false, Bool.not_true, Bool.not_false, reduceIte, List.nil_append, List.cons_append, reduceCtorEq, false_and, exists_false, false_or, or_false, Int.reduceLT, ral, rsq, rlu, rdp, Bool.true_or, Bool.false_or, Bool.or_false, Bool.or_true, ha]
    refine Br.d (fun c => absurd c (by decide +kernel)) fun _ => ?_
    simp only [and_assoc, rst, rs, re, ra, rq, rx, ro, rl, rl2, rsp, rz, rix, rln, rg, rd, ri, rv, rk, rdd, rwi, at0, at1, at2, at3, upd_at, List.getElem?_cons_zero, List.getElem?_cons_succ, Option.some.injEq, exists_eq_left', exists_eq_left, List.set_cons_zero, List.set_cons_succ, true_and, and_true, HO.lst.injEq, HO.tup.injEq, exists_and_left, exists_eq, exists_eq', Br.t, Br.f, Be.t, Be.f, List.cons.injEq, List.append_nil, scal, if_true, if_false, ite_true, ite_false, eq_self_iff_true, decide_true, decide_false, Bool.not_true, Bool.not_false, reduceIte, List.nil_append, List.cons_append, reduceCtorEq, false_and, exists_false, false_or, or_false, Int.reduceLT, ral, rsq, rlu, rdp, Bool.true_or, Bool.false_or, Bool.or_false, Bool.or_true, ha]
    refine Br.d (fun c => absurd c (by decide +kernel)) fun _ => ?_
    simp only [and_assoc, rst, rs, re, ra, rq, rx, ro, rl, rl2, rsp, rz, rix, rln, rg, rd, ri, rv, rk, rdd, rwi, at0, at1, at2, at3, upd_at, List.getElem?_cons_zero, List.getElem?_cons_succ, Option.some.injEq, exists_eq_left', exists_eq_left, List.set_cons_zero, List.set_cons_succ, true_and, and_true, HO.lst.injEq, HO.tup.injEq, exists_and_left, exists_eq, exists_eq', Br.t, Br.f, Be.t, Be.f, List.cons.injEq, List.append_nil, scal, if_true, if_false, ite_true, ite_false, eq_self_iff_true, decide_true, decide_false, Bool.not_true, Bool.not_false, reduceIte, List.nil_append, List.cons_append, reduceCtorEq, false_and, exists_false, false_or, or_false, Int.reduceLT, ral, rsq, rlu, rdp, Bool.true_or, Bool.false_or, Bool.or_false, Bool.or_true, ha]
    refine Br.d (fun c => absurd c (by decide +kernel)) fun _ => ?_
    simp only [and_assoc, rst, rs, re, ra, rq, rx, ro, rl, rl2, rsp, rz, rix, rln, rg, rd, ri, rv, rk, rdd, rwi, at0, at1, at2, at3, upd_at, List.getElem?_cons_zero, List.getElem?_cons_succ, Option.some.injEq, exists_eq_left', exists_eq_left, List.set_cons_zero, List.set_cons_succ, true_and, and_true, HO.lst.injEq, HO.tup.injEq, exists_and_left, exists_eq, exists_eq', Br.t, Br.f, Be.t, Be.f, List.cons.injEq, List.append_nil, scal, if_true, if_false, ite_true, ite_false, eq_self_iff_true, decide_true, decide_false, Bool.not_true, Bool.not_false, reduceIte, List.nil_append, List.cons_append, reduceCtorEq, false_and, exists_false, false_or, or_false, Int.reduceLT, ral, rsq, rlu, rdp, Bool.true_or, Bool.false_or, Bool.or_false, Bool.or_true, ha]
    refine Br.d (fun c => absurd c (by decide +kernel)) fun _ => ?_
    simp only [and_assoc, rst, rs, re, ra, rq, rx, ro, rl, rl2, rsp, rz, rix, rln, rg, rd, ri, rv, rk, rdd, rwi, at0, at1, at2, at3, upd_at, List.getElem?_cons_zero, List.getElem?_cons_succ, Option.some.injEq, exists_eq_left', exists_eq_left, List.set_cons_zero, List.set_cons_succ, true_and, and_true, HO.lst.injEq, HO.tup.injEq, exists_and_left, exists_eq, exists_eq', Br.t, Br.f, Be.t, Be.f, List.cons.injEq, List.append_nil, scal, if_true, if_false, ite_true, ite_false, eq_self_iff_true, decide_true, decide_false, Bool.not_true, Bool.not_false, reduceIte, List.nil_append, List.cons_append, reduceCtorEq, false_and, exists_false, false_or, or_false, Int.reduceLT, ral, rsq, rlu, rdp, Bool.true_or, Bool.false_or, Bool.or_false, Bool.or_true, ha]
    refine Br.d (fun c => absurd c (by decide +kernel)) fun _ => ?_
    simp only [and_assoc, rst, rs, re, ra, rq, rx, ro, rl, rl2, rsp, rz, rix, rln, rg, rd, ri, rv, rk, rdd, rwi, at0, at1, at2, at3, upd_at, List.getElem?_cons_zero, List.getElem?_cons_succ, Option.some.injEq, exists_eq_left', exists_eq_left, List.set_cons_zero, List.set_cons_succ, true_and, and_true, HO.lst.injEq, HO.tup.injEq, exists_and_left, exists_eq, exists_eq', Br.t, Br.f, Be.t, Be.f, List.cons.injEq, List.append_nil, scal, if_true, if_false, ite_true, ite_false, eq_self_iff_true, decide_true, decide_false, Bool.not_true, Bool.not_false, reduceIte, List.nil_append, List.cons_append, reduceCtorEq, false_and, exists_false, false_or, or_false, Int.reduceLT, ral, rsq, rlu, rdp, Bool.true_or, Bool.false_or, Bool.or_false, Bool.or_true, ha]
    refine Br.d (fun c => absurd c (by decide +kernel)) fun _ => ?_
    simp only [and_assoc, rst, rs, re, ra, rq, rx, ro, rl, rl2, rsp, rz, rix, rln, rg, rd, ri, rv, rk, rdd, rwi, at0, at1, at2, at3, upd_at, List.getElem?_cons_zero, List.getElem?_cons_succ, Option.some.injEq, exists_eq_left', exists_eq_left, List.set_cons_zero, List.set_cons_succ, true_and, and_true, HO.lst.injEq, HO.tup.injEq, exists_and_left, exists_eq, exists_eq', Br.t, Br.f, Be.t, Be.f, List.cons.injEq, List.append_nil, scal, if_true, if_false, ite_true, ite_false, eq_self_iff_true, decide_true, decide_false, Bool.not_true, Bool.not_false, reduceIte, List.nil_append, List.cons_append, reduceCtorEq, false_and, exists_false, false_or, or_false, Int.reduceLT, ral, rsq, rlu, rdp, Bool.true_or, Bool.false_or, Bool.or_false, Bool.or_true, ha]
    refine Br.d (fun c => absurd c (by decide +kernel)) fun _ => ?_
    simp only [and_assoc, rst, rs, re, ra, rq, rx, ro, rl, rl2, rsp, rz, rix, rln, rg, rd, ri, rv, rk, rdd, rwi, at0, at1, at2, at3, upd_at, List.getElem?_cons_zero, List.getElem?_cons_succ, Option.some.injEq, exists_eq_left', exists_eq_left, List.set_cons_zero, List.set_cons_succ, true_and, and_true, HO.lst.injEq, HO.tup.injEq, exists_and_left, exists_eq, exists_eq', Br.t, Br.f, Be.t, Be.f, List.cons.injEq, List.append_nil, scal, if_true, if_false, ite_true, ite_false, eq_self_iff_true, decide_true, decide_false, Bool.not_true, Bool.not_false, reduceIte, List.nil_append, List.cons_append, reduceCtorEq, false_and, exists_false, false_or, or_false, Int.reduceLT, ral, rsq, rlu, rdp, Bool.true_or, Bool.false_or, Bool.or_false, Bool.or_true, ha]
    exact ⟨_, _, _, rfl, _, .number1 h1, ho⟩
  | number2 h1 h2 h3 h4 =>
    simp only [and_assoc, rst, rs, re, ra, rq, rx, ro, rl, rl2, rsp, rz, rix, rln, rg, rd, ri, rv, rk, rdd, rwi, at0, at1, at2, at3, upd_at, List.getElem?_cons_zero, List.getElem?_cons_succ, Option.some.injEq, exists_eq_left', exists_eq_left, List.set_cons_zero, List.set_cons_succ, true_and, and_true, HO.lst.injEq, HO.tup.injEq, exists_and_left, exists_eq, exists_eq', Br.t, Br.f, Be.t, Be.f, List.cons.injEq, List.append_nil, scal, if_true, if_false, ite_true, ite_false, eq_self_iff_true, decide_true, decide_false, Bool.not_true, Bool.not_false, reduceIte, List.nil_append, List.cons_append, reduceCtorEq, false_and, exists_false, false_or, or_false, Int.reduceLT, ral, rsq, rlu, rdp, Bool.true_or, Bool.false_or, Bool.or_false, Bool.or_true, ha]
    refine Br.d (fun c => absurd c (by decide +kernel)) fun _ => ?_
    simp only [and_assoc, rst, rs, re, ra, rq, rx, ro, rl, rl2, rsp, rz, rix, rln, rg, rd, ri, rv, rk, rdd, rwi, at0, at1, at2, at3, upd_at, List.getElem?_cons_zero, List.getElem?_cons_succ, Option.some.injEq, exists_eq_left', exists_eq_left, List.set_cons_zero, List.set_cons_succ, true_and, and_true, HO.lst.injEq, HO.tup.injEq, exists_and_left, exists_eq, exists_eq', Br.t, Br.f, Be.t, Be.f, List.cons.injEq, List.append_nil, scal, if_true, if_false, ite_true, ite_false, eq_self_iff_true, decide_true, decide_false, Bool.not_true, Bool.not_false, reduceIte, List.nil_append, List.cons_append, reduceCtorEq, false_and, exists_false, false_or, or_false, Int.reduceLT, ral, rsq, rlu, rdp, Bool.true_or, Bool.false_or, Bool.or_false, Bool.or_true, ha]
    refine Br.d (fun c => absurd c (by decide +kernel)) fun _ => ?_
    simp only [and_assoc, rst, rs, re, ra, rq, rx, ro, rl, rl2, rsp, rz, rix, rln, rg, rd, ri, rv, rk, rdd, rwi, at0, at1, at2, at3, upd_at, List.getElem?_cons_zero, List.getElem?_cons_succ, Option.some.injEq, exists_eq_left', exists_eq_left, List.set_cons_zero, List.set_cons_succ, true_and, and_true, HO.lst.injEq, HO.tup.injEq, exists_and_left, exists_eq, exists_eq', Br.t, Br.f, Be.t, Be.f, List.cons.injEq, List.append_nil, scal, if_true, if_false, ite_true, ite_false, eq_self_iff_true, decide_true, decide_false, Bool.not_true, Bool.not_false, reduceIte, List.nil_append, List.cons_append, reduceCtorEq, false_and, exists_false, false_or, or_false, Int.reduceLT, ral, rsq, rlu, rdp, Bool.true_or, Bool.false_or, Bool.or_false, Bool.or_true, ha]
    refine Br.d (fun c => absurd c (by decide +kernel)) fun _ => ?_
    simp only [and_assoc, rst, rs, re, ra, rq, rx, ro, rl, rl2, rsp, rz, rix, rln, rg, rd, ri, rv, rk, rdd, rwi, at0, at1, at2, at3, upd_at, List.getElem?_cons_zero, List.getElem?_cons_succ, Option.some.injEq, exists_eq_left', exists_eq_left, List.set_cons_zero, List.set_cons_succ, true_and, and_true, HO.lst.injEq, HO.tup.injEq, exists_and_left, exists_eq, exists_eq', Br.t, Br.f, Be.t, Be.f, List.cons.injEq, List.append_nil, scal, if_true, if_false, ite_true, ite_false, eq_self_iff_true, decide_true, decide_false, Bool.not_true, Bool.not_false, reduceIte, List.nil_append, List.cons_append, reduceCtorEq, false_and, exists_false, false_or, or_false, Int.reduceLT, ral, rsq, rlu, rdp, Bool.true_or, Bool.false_or, Bool.or_false, Bool.or_true, ha]
    refine Br.d (fun c => absurd c (by decide +kernel)) fun _ => ?_
    simp only [and_assoc, rst, rs, re, ra, rq, rx, ro, rl, rl2, rsp, rz, rix, rln, rg, rd, ri, rv, rk, rdd, rwi, at0, at1, at2, at3, upd_at, List.getElem?_cons_zero, List.getElem?_cons_succ, Option.some.injEq, exists_eq_left', exists_eq_left, List.set_cons_zero, List.set_cons_succ, true_and, and_true, HO.lst.injEq, HO.tup.injEq, exists_and_left, exists_eq, exists_eq', Br.t, Br.f, Be.t, Be.f, List.cons.injEq, List.append_nil, scal, if_true, if_false, ite_true, ite_false, eq_self_iff_true, decide_true, decide_false, Bool.not_true, Bool.not_false, reduceIte, List.nil_append, List.cons_append, reduceCtorEq, false_and, exists_false, false_or, or_false, Int.reduceLT, ral, rsq, rlu, rdp, Bool.true_or, Bool.false_or, Bool.or_false, Bool.or_true, ha]
    refine Br.d (fun c => absurd c (by decide +kernel)) fun _ => ?_
    simp only [and_assoc, rst, rs, re, ra, rq, rx, ro, rl, rl2, rsp, rz, rix, rln, rg, rd, ri, rv, rk, rdd, rwi, at0, at1, at2, at3, upd_at, List.getElem?_cons_zero, List.getElem?_cons_succ, Option.some.injEq, exists_eq_left', exists_eq_left, List.set_cons_zero, List.set_cons_succ, true_and, and_true, HO.lst.injEq, HO.tup.injEq, exists_and_left, exists_eq, exists_eq', Br.t, Br.f, Be.t, Be.f, List.cons.injEq, List.append_nil, scal, if_true, if_false, ite_true, ite_false, eq_self_iff_true, decide_true, decide_false, Bool.not_true, Bool.not_false, reduceIte, List.nil_append, List.cons_append, reduceCtorEq, false_and, exists_false, false_or, or_false, Int.reduceLT, ral, rsq, rlu, rdp, Bool.true_or, Bool.false_or, Bool.or_false, Bool.or_true, ha]
    refine Br.d (fun c => absurd c (by decide +kernel)) fun _ => ?_
    simp only [and_assoc, rst, rs, re, ra, rq, rx, ro, rl, rl2, rsp, rz, rix, rln, rg, rd, ri, rv, rk, rdd, rwi, at0, at1, at2, at3, upd_at, List.getElem?_cons_zero, List.getElem?_cons_succ, Option.some.injEq, exists_eq_left', exists_eq_left, List.set_cons_zero, List.set_cons_succ, true_and, and_true, HO.lst.injEq, HO.tup.injEq, exists_and_left, exists_eq, exists_eq', Br.t, Br.f, Be.t, Be.f, List.cons.injEq, List.append_nil, scal, if_true, if_false, ite_true, ite_false, eq_self_iff_true, decide_true, decide_false, Bool.not_true, Bool.not_false, reduceIte, List.nil_append, List.cons_append, reduceCtorEq, false_and, exists_false, false_or, or_false, Int.reduceLT, ral, rsq, rlu, rdp, Bool.true_or, Bool.false_or, Bool.or_false, Bool.or_true, ha]
    refine Br.d (fun c => absurd c (by decide +kernel)) fun _ => ?_
    simp only [and_assoc, rst, rs, re, ra, rq, rx, ro, rl, rl2, rsp, rz, rix, rln, rg, rd, ri, rv, rk, rdd, rwi, at0, at1, at2, at3, upd_at, List.getElem?_cons_zero, List.getElem?_cons_succ, Option.some.injEq, exists_eq_left', exists_eq_left, List.set_cons_zero, List.set_cons_succ, true_and, and_true, HO.lst.injEq, HO.tup.injEq, exists_and_left, exists_eq, exists_eq', Br.t, Br.f, Be.t, Be.f, List.cons.injEq, List.append_nil, scal, if_true, if_false, ite_true, ite_false, eq_self_iff_true, decide_true, decide_false, Bool.not_true, Bool.not_false, reduceIte, List.nil_append, List.cons_append, reduceCtorEq, false_and, exists_false, false_or, or_false, Int.reduceLT, ral, rsq, rlu, rdp, Bool.true_or, Bool.false_or, Bool.or_false, Bool.or_true, ha]
    refine Br.d (fun c => absurd c (by decide +kernel)) fun _ => ?_
    simp only [and_assoc, rst, rs, re, ra, rq, rx, ro, rl, rl2, rsp, rz, rix, rln, rg, rd, ri, rv, rk, rdd, rwi, at0, at1, at2, at3, upd_at, List.getElem?_cons_zero, List.getElem?_cons_succ, Option.some.injEq, exists_eq_left', exists_eq_left, List.set_cons_zero, List.set_cons_succ, true_and, and_true, HO.lst.injEq, HO.tup.injEq, exists_and_left, exists_eq, exists_eq', Br.t, Br.f, Be.t, Be.f, List.cons.injEq, List.append_nil, scal, if_true, if_false, ite_true, ite_false, eq_self_iff_true, decide_true, decide_false, Bool.not_true, Bool.not_false, reduceIte, List.nil_append, List.cons_append, reduceCtorEq, false_and, exists_false, false_or, or_false, Int.reduceLT, ral, rsq, rlu, rdp, Bool.true_or, Bool.false_or, Bool.or_false, Bool.or_true, ha]
    exact ⟨_, _, _, rfl, _, .number2 h1 h2 h3 h4, ho⟩
  | number3 h1 h2 h3 h4 h5 =>
    simp only [and_assoc, rst, rs, re, ra, rq, rx, ro, rl, rl2, rsp, rz, rix, rln, rg, rd, ri, rv, rk, rdd, rwi, at0, at1, at2, at3, upd_at, List.getElem?_cons_zero, List.getElem?_cons_succ, Option.some.injEq, exists_eq_left', exists_eq_left, List.set_cons_zero, List.set_cons_succ, true_and, and_true, HO.lst.injEq, HO.tup.injEq, exists_and_left, exists_eq, exists_eq', Br.t, Br.f, Be.t, Be.f, List.cons.injEq, List.append_nil, scal, if_true, if_false, ite_true, ite_false, eq_self_iff_true, decide_true, decide_false, Bool.not_true, Bool.not_false, reduceIte, List.nil_append, List.cons_append, reduceCtorEq, false_and, exists_false, false_or, or_false, Int.reduceLT, ral, rsq, rlu, rdp, Bool.true_or, Bool.false_or, Bool.or_false, Bool.or_true, ha]
    refine Br.d (fun c => absurd c (by decide +kernel)) fun _ => ?_
    simp only [and_assoc, rst, rs, re, ra, rq, rx, ro, rl, rl2, rsp, rz, rix, rln, rg, rd, ri, rv, rk, rdd, rwi, at0, at1, at2, at3, upd_at, List.getElem?_cons_zero, List.getElem?_cons_succ, Option.some.injEq, exists_eq_left', exists_eq_left, List.set_cons_zero, List.set_cons_succ, true_and, and_true, HO.lst.injEq, HO.tup.injEq, exists_and_left, exists_eq, exists_eq', Br.t, Br.f, Be.t, Be.f, List.cons.injEq, List.append_nil, scal, if_true, if_false, ite_true, ite_false, eq_self_iff_true, decide_true, decide_false, Bool.not_true, Bool.not_false, reduceIte, List.nil_append, List.cons_append, reduceCtorEq, false_and, exists_false, false_or, or_false, Int.reduceLT, ral, rsq, rlu, rdp, Bool.true_or, Bool.false_or, Bool.or_false, Bool.or_true, ha]
    refine Br.d (fun c => absurd c (by decide +kernel)) fun _ => ?_
    simp only [and_assoc, rst, rs, re, ra, rq, rx, ro, rl, rl2, rsp, rz, rix, rln, rg, rd, ri, rv, rk, rdd, rwi, at0, at1, at2, at3, upd_at, List.getElem?_cons_zero, List.getElem?_cons_succ, Option.some.injEq, exists_eq_left', exists_eq_left, List.set_cons_zero, List.set_cons_succ, true_and, and_true, HO.lst.injEq, HO.tup.injEq, exists_and_left, exists_eq, exists_eq', Br.t, Br.f, Be.t, Be.f, List.cons.injEq, List.append_nil, scal, if_true, if_false, ite_true, ite_false, eq_self_iff_true, decide_true, decide_false, Bool.not_true, Bool.not_false, reduceIte, List.nil_append, List.cons_append, reduceCtorEq, false_and, exists_false, false_or, or_false, Int.reduceLT, ral, rsq, rlu, rdp, Bool.true_or, Bool.false_or, Bool.or_false, Bool.or_true, ha]
    refine Br.d (fun c => absurd c (by decide +kernel)) fun _ => ?_
    simp only [and_assoc, rst, rs, re, ra, rq, rx, ro, rl, rl2, rsp, rz, rix, rln, rg, rd, ri, rv, rk, rdd, rwi, at0, at1, at2, at3, upd_at, List.getElem?_cons_zero, List.getElem?_cons_succ, Option.some.injEq, exists_eq_left', exists_eq_left, List.set_cons_zero, List.set_cons_succ, true_and, and_true, HO.lst.injEq, HO.tup.injEq, exists_and_left, exists_eq, exists_eq', Br.t, Br.f, Be.t, Be.f, List.cons.injEq, List.append_nil, scal, if_true, if_false, ite_true, ite_false, eq_self_iff_true, decide_true, decide_false, Bool.not_true, Bool.not_false, reduceIte, List.nil_append, List.cons_append, reduceCtorEq, false_and, exists_false, false_or, or_false, Int.reduceLT, ral, rsq, rlu, rdp, Bool.true_or, Bool.false_or, Bool.or_false, Bool.or_true, ha]
    refine Br.d (fun c => absurd c (by decide +kernel)) fun _ => ?_
    simp only [and_assoc, rst, rs, re, ra, rq, rx, ro, rl, rl2, rsp, rz, rix, rln, rg, rd, ri, rv, rk, rdd, rwi, at0, at1, at2, at3, upd_at, List.getElem?_cons_zero, List.getElem?_cons_succ, Option.some.injEq, exists_eq_left', exists_eq_left, List.set_cons_zero, List.set_cons_succ, true_and, and_true, HO.lst.injEq, HO.tup.injEq, exists_and_left, exists_eq, exists_eq', Br.t, Br.f, Be.t, Be.f, List.cons.injEq, List.append_nil, scal, if_true, if_false, ite_true, ite_false, eq_self_iff_true, decide_true, decide_false, Bool.not_true, Bool.not_false, reduceIte, List.nil_append, List.cons_append, reduceCtorEq, false_and, exists_false, false_or, or_false, Int.reduceLT, ral, rsq, rlu, rdp, Bool.true_or, Bool.false_or, Bool.or_false, Bool.or_true, ha]
    refine Br.d (fun c => absurd c (by decide +kernel)) fun _ => ?_
    simp only [and_assoc, rst, rs, re, ra, rq, rx, ro, rl, rl2, rsp, rz, rix, rln, rg, rd, ri, rv, rk, rdd, rwi, at0, at1, at2, at3, upd_at, List.getElem?_cons_zero, List.getElem?_cons_succ, Option.some.injEq, exists_eq_left', exists_eq_left, List.set_cons_zero, List.set_cons_succ, true_and, and_true, HO.lst.injEq, HO.tup.injEq, exists_and_left, exists_eq, exists_eq', Br.t, Br.f, Be.t, Be.f, List.cons.injEq, List.append_nil, scal, if_true, if_false, ite_true, ite_false, eq_self_iff_true, decide_true, decide_false, Bool.not_true, Bool.not_false, reduceIte, List.nil_append, List.cons_append, reduceCtorEq, false_and, exists_false, false_or, or_false, Int.reduceLT, ral, rsq, rlu, rdp, Bool.true_or, Bool.false_or, Bool.or_false, Bool.or_true, ha]
    refine Br.d (fun c => absurd c (by decide +kernel)) fun _ => ?_
    simp only [and_assoc, rst, rs, re, ra, rq, rx, ro, rl, rl2, rsp, rz, rix, rln, rg, rd, ri, rv, rk, rdd, rwi, at0, at1, at2, at3, upd_at, List.getElem?_cons_zero, List.getElem?_cons_succ, Option.some.injEq, exists_eq_left', exists_eq_left, List.set_cons_zero, List.set_cons_succ, true_and, and_true, HO.lst.injEq, HO.tup.injEq, exists_and_left, exists_eq, exists_eq', Br.t, Br.f, Be.t, Be.f, List.cons.injEq, List.append_nil, scal, if_true, if_false, ite_true, ite_false, eq_self_iff_true, decide_true, decide_false, Bool.not_true, Bool.not_false, reduceIte, List.nil_append, List.cons_append, reduceCtorEq, false_and, exists_false, false_or, or_false, Int.reduceLT, ral, rsq, rlu, rdp, Bool.true_or, Bool.false_or, Bool.or_false, Bool.or_true, ha]
    refine Br.d (fun c => absurd c (by decide +kernel)) fun _ => ?_
    simp only [and_assoc, rst, rs, re, ra, rq, rx, ro, rl, rl2, rsp, rz, rix, rln, rg, rd, ri, rv, rk, rdd, rwi, at0, at1, at2, at3, upd_at, List.getElem?_cons_zero, List.getElem?_cons_succ, Option.some.injEq, exists_eq_left', exists_eq_left, List.set_cons_zero, List.set_cons_succ, true_and, and_true, HO.lst.injEq, HO.tup.injEq, exists_and_left, exists_eq, exists_eq', Br.t, Br.f, Be.t, Be.f, List.cons.injEq, List.append_nil, scal, if_true, if_false, ite_true, ite_false, eq_self_iff_true, decide_true, decide_false, Bool.not_true, Bool.not_false, reduceIte, List.nil_append, List.cons_append, reduceCtorEq, false_and, exists_false, false_or, or_false, Int.reduceLT, ral, rsq, rlu, rdp, Bool.true_or, Bool.false_or, Bool.or_false, Bool.or_true, ha]
    refine Br.d (fun c => absurd c (by decide +kernel)) fun _ => ?_
    simp only [and_assoc, rst, rs, re, ra, rq, rx, ro, rl, rl2, rsp, rz, rix, rln, rg, rd, ri, rv, rk, rdd, rwi, at0, at1, at2, at3, upd_at, List.getElem?_cons_zero, List.getElem?_cons_succ, Option.some.injEq, exists_eq_left', exists_eq_left, List.set_cons_zero, List.set_cons_succ, true_and, and_true, HO.lst.injEq, HO.tup.injEq, exists_and_left, exists_eq, exists_eq', Br.t, Br.f, Be.t, Be.f, List.cons.injEq, List.append_nil, scal, if_true, if_false, ite_true, ite_false, eq_self_iff_true, decide_true, decide_false, Bool.not_true, Bool.not_false, reduceIte, List.nil_append, List.cons_append, reduceCtorEq, false_and, exists_false, false_or, or_false, Int.reduceLT, ral, rsq, rlu, rdp, Bool.true_or, Bool.false_or, Bool.or_false, Bool.or_true, ha]
    exact ⟨_, _, _, rfl, _, .number3 h1 h2 h3 h4 h5, ho⟩
end
end Law

-- RDX ral, rsq, rlu, rdp, Bool.true_or, Bool.false_or, Bool.or_false, Bool.or_true
set_option pp.deepTerms true
set_option pp.maxSteps 100000
namespace Law
open PySem PySem.Spec PyProof.Rows L2 Sw
theorem inv1 {H : Hp} {ds : Str} {xs : List V} {o : Option (Str × V)} (h : Dor H ds xs o) : inV (.str ds) [.str "orders", .str "at", .str "rank", .str "next", .str "laid", .str "turned", .str "by", .str "back"] = true := by
  cases h <;> decide +kernel
theorem inv2 {H : Hp} {ds : Str} {xs : List V} {o : Option (Str × V)} (h : Dor2 H ds xs o) : inV (.str ds) [.str "orders", .str "at", .str "rank", .str "next", .str "laid", .str "turned", .str "by", .str "back"] = false := by
  cases h <;> decide +kernel
theorem four1 {H : Hp} {ds c : Str} {x : V} {xs : List V} (h : Dor H ds xs (some (c, x))) : c = "NoNumber" ∨ c = "NoOrder" ∨ c = "NoSet" ∨ c = "NoShares" := by
  generalize e : some (c, x) = o at h
  cases h <;> cases e <;> simp
theorem four2 {H : Hp} {ds c : Str} {x : V} {xs : List V} (h : Dor2 H ds xs (some (c, x))) : c = "NoNumber" ∨ c = "NoOrder" ∨ c = "NoSet" ∨ c = "NoShares" := by
  generalize e : some (c, x) = o at h
  cases h <;> cases e <;> simp
theorem told1 {x : V} : told (some ("NoNumber", x)) = [.str "number", x, .bl false] := by rw [told, if_pos rfl]
theorem told2 {x : V} : told (some ("NoOrder", x)) = [.str "order", x, .bl false] := by rw [told, if_neg (by decide +kernel), if_pos rfl]
theorem told3 {x : V} : told (some ("NoSet", x)) = [.str "set", x, .bl false] := by rw [told, if_neg (by decide +kernel), if_neg (by decide +kernel), if_pos rfl]
theorem told4 {x : V} : told (some ("NoShares", x)) = [.str "shares", x, .bl false] := by rw [told, if_neg (by decide +kernel), if_neg (by decide +kernel), if_neg (by decide +kernel)]
theorem isB_of {H : Hp} {v : V} {n : String} (h : tyN H v = some n) {T : String} {b : Bool} (k : kitB n T = some b) : isB H v T = some b := by rw [isB, h, Option.bind_some, k]
theorem nice_kind {H : Hp} {v : V} (h : Nice H v) : (∃ p xs, v = .ref p ∧ H p = some (.lst xs) ∧ (∀ x ∈ xs, Nice1 H x) ∧ xs.length ≤ 1000) ∨ (∃ p, v = .ref p ∧ H p = some (.dK [])) ∨ (isB H v "list" = some false ∧ isB H v "dict" = some false) := by
  rcases h with (h | ⟨p, xs, rfl, h | h, f, l⟩) | ⟨p, xs, rfl, h, f, l⟩ | ⟨p, rfl, h⟩
  · refine .inr (.inr ?_)
    cases v with
    | non => exact ⟨isB_of (n := "NoneType") rfl (by decide +kernel), isB_of (n := "NoneType") rfl (by decide +kernel)⟩
    | bl b => exact ⟨isB_of (n := "bool") rfl (by decide +kernel), isB_of (n := "bool") rfl (by decide +kernel)⟩
    | int b => exact ⟨isB_of (n := "int") rfl (by decide +kernel), isB_of (n := "int") rfl (by decide +kernel)⟩
    | str b => exact ⟨isB_of (n := "str") rfl (by decide +kernel), isB_of (n := "str") rfl (by decide +kernel)⟩
    | _ => exact Bool.noConfusion (show false = true from h)
  · exact .inl ⟨p, xs, rfl, h, fun x hx => .inl (f x hx), l⟩
  · have e : tyN H (.ref p) = some "tuple" := by rw [tyN, h] <;> rfl
    exact .inr (.inr ⟨isB_of e (by decide +kernel), isB_of e (by decide +kernel)⟩)
  · exact .inl ⟨p, xs, rfl, h, f, l⟩
  · exact .inr (.inl ⟨p, rfl, h⟩)
theorem grown {H : Hp} {p : Addr} {xs : List V} {o : HO} (hp : H p = some (.lst xs)) {x : V} (hx : x ∈ xs) (h : Nice1 H x) : Nice1 (upd H p o) x := by
  rcases h with h | ⟨q, ys, rfl, h, f, l⟩
  · exact .inl h
  · have n : q ≠ p := fun e => by
      subst e
      rw [hp] at h
      rcases h with h | h <;> cases h
      exact Bool.noConfusion (show false = true from f _ hx)
    exact .inr ⟨q, ys, rfl, by rw [upd_ne n]; exact h, f, l⟩
theorem back_same {H : Hp} {p : Addr} {o u : HO} (hp : H p = some o) : Same H (upd (upd H p u) p o) := fun a x e => by
  rw [L2.upd_upd]
  by_cases c : a = p
  · subst c
    rw [upd_same]
    rw [hp] at e
    exact e
  · rw [upd_ne c]
    exact e
section
variable {P : Program} {w : World} {K : Fg} {mg : Str → Option Value} {base : Heap}
theorem ok__law_told (T : Tx K mg w) (c__law_called : Cal P w K mg base 6 "_law_called" ["door", "things"] (sp__law_called K)) (c__law_called_else : Cal P w K mg base 8 "_law_called_else" ["door", "things"] (sp__law_called_else K))  : Cal P w K mg base 9 "_law_told" ["door", "things"] (sp__law_told K) := by
  refine cal_mk T.F__law_told T.g__law_told sc__law_told (len2 _) (fun _ _ _ _ _ _ us hl => match us, hl with | [_, _], _ => rfl) (fun cdv A outer s H vs Q E hr h => ?_)
  obtain ⟨v0, v1, rfl, h⟩ := h
  have hu := hu_of hr
  refine ⟨_, (pss_cons (ps_try_ases (i := 2) (tb := _) (Wz := fun _ _ _ _ => False) rfl rfl sc__law_told.nd rfl rfl takes0
        (fun W pn xe tk _ => (pss_one (ps_if (pt_cmpR (show OpR _ (compareOp .In) (rIn K false) from op_in_seq) (pv 0) (pe_lstA (pa_cons pe_str (pa_cons pe_str (pa_cons pe_str (pa_cons pe_str (pa_cons pe_str (pa_cons pe_str (pa_cons pe_str (pa_cons pe_str pa_nil))))))))) rfl) (pss_one (ps_expr (pe_calS c__law_called hr (by decide) tk rfl (pa_cons (pv 0) (pa_cons (pv 1) pa_nil))))) (pss_one (ps_expr (pe_calS c__law_called_else hr (by decide) tk rfl (pa_cons (pv 0) (pa_cons (pv 1) pa_nil))))))))
        (.cons ⟨rfl, by decide, Or.inl T.g_NoNumber⟩ (fun a oe cls d pn hz hf => (pss_one (ps_ret (pe_tupA (pa_cons pe_str (pa_cons (pe_exf T.x_NoNumber T.a_NoNumber_found hz hf (pv 2)) (pa_cons (pe_callB (call_isDT T.x_NoNumber hz hf) (by rfl) T.n_isinstance (by decide +kernel) (pa_cons (pv 2) (pa_cons (pe_tupA (pa_cons (pe_glob (v := .ref (He.ga K "NoOrder")) rfl T.g_NoOrder rfl) (pa_cons (pe_glob (v := .ref (He.ga K "NoSet")) rfl T.g_NoSet rfl) (pa_cons (pe_glob (v := .ref (He.ga K "NoShares")) rfl T.g_NoShares rfl) pa_nil)))) pa_nil))) pa_nil))))))) (.cons ⟨rfl, by decide, Or.inl T.g_NoOrder⟩ (fun a oe cls d pn hz hf => (pss_one (ps_ret (pe_tupA (pa_cons pe_str (pa_cons (pe_exf T.x_NoOrder T.a_NoOrder_found hz hf (pv 2)) (pa_cons (pe_callB (call_isDT T.x_NoOrder hz hf) (by rfl) T.n_isinstance (by decide +kernel) (pa_cons (pv 2) (pa_cons (pe_tupA (pa_cons (pe_glob (v := .ref (He.ga K "NoNumber")) rfl T.g_NoNumber rfl) (pa_cons (pe_glob (v := .ref (He.ga K "NoSet")) rfl T.g_NoSet rfl) (pa_cons (pe_glob (v := .ref (He.ga K "NoShares")) rfl T.g_NoShares rfl) pa_nil)))) pa_nil))) pa_nil))))))) (.cons ⟨rfl, by decide, Or.inl T.g_NoSet⟩ (fun a oe cls d pn hz hf => (pss_one (ps_ret (pe_tupA (pa_cons pe_str (pa_cons (pe_exf T.x_NoSet T.a_NoSet_found hz hf (pv 2)) (pa_cons (pe_callB (call_isDT T.x_NoSet hz hf) (by rfl) T.n_isinstance (by decide +kernel) (pa_cons (pv 2) (pa_cons (pe_tupA (pa_cons (pe_glob (v := .ref (He.ga K "NoNumber")) rfl T.g_NoNumber rfl) (pa_cons (pe_glob (v := .ref (He.ga K "NoOrder")) rfl T.g_NoOrder rfl) (pa_cons (pe_glob (v := .ref (He.ga K "NoShares")) rfl T.g_NoShares rfl) pa_nil)))) pa_nil))) pa_nil))))))) (.cons ⟨rfl, by decide, Or.inl T.g_NoShares⟩ (fun a oe cls d pn hz hf => (pss_one (ps_ret (pe_tupA (pa_cons pe_str (pa_cons (pe_exf T.x_NoShares T.a_NoShares_found hz hf (pv 2)) (pa_cons (pe_callB (call_isDT T.x_NoShares hz hf) (by rfl) T.n_isinstance (by decide +kernel) (pa_cons (pv 2) (pa_cons (pe_tupA (pa_cons (pe_glob (v := .ref (He.ga K "NoNumber")) rfl T.g_NoNumber rfl) (pa_cons (pe_glob (v := .ref (He.ga K "NoOrder")) rfl T.g_NoOrder rfl) (pa_cons (pe_glob (v := .ref (He.ga K "NoSet")) rfl T.g_NoSet rfl) pa_nil)))) pa_nil))) pa_nil))))))) (.bare ⟨rfl, by decide, Or.inl T.g_SeedError⟩ (fun a oe cls d pn hz hf => (pss_one (ps_ret (pe_tupA (pa_cons pe_str (pa_cons pe_non (pa_cons pe_bl pa_nil))))))) .nil))))))
      (pss_one (ps_ret (pe_tupA (pa_cons pe_str (pa_cons pe_non (pa_cons pe_bl pa_nil))))))), ?_⟩
  obtain ⟨ds, o, rfl, ⟨a, xs, rfl, ha, hd⟩, q⟩ := h
  simp only [and_assoc, rst, rs, re, ra, rq, rx, ro, rl, rl2, rsp, rz, rix, rln, rg, rd, ri, rv, rk, rdd, rwi, at0, at1, at2, at3, upd_at, List.getElem?_cons_zero, List.getElem?_cons_succ, Option.some.injEq, exists_eq_left', exists_eq_left, List.set_cons_zero, List.set_cons_succ, true_and, and_true, HO.lst.injEq, HO.tup.injEq, exists_and_left, exists_eq, exists_eq', Br.t, Br.f, Be.t, Be.f, List.cons.injEq, List.append_nil, scal, if_true, if_false, ite_true, ite_false, eq_self_iff_true, decide_true, decide_false, Bool.not_true, Bool.not_false, reduceIte, List.nil_append, List.cons_append, reduceCtorEq, false_and, exists_false, false_or, or_false, Int.reduceLT, ral, rsq, rlu, rdp, Bool.true_or, Bool.false_or, Bool.or_false, Bool.or_true]
  refine ⟨by rw [sizeLine_eq]; simp, fun p1 H1 a1 => ⟨p1, _, rfl, .inl (SqL.of a1.e), rfl, rfl, ?_⟩⟩
  rw [if_neg (by decide)]
  rcases hd with hd | hd
  · rw [inv1 hd]
    simp only [and_assoc, rst, rs, re, ra, rq, rx, ro, rl, rl2, rsp, rz, rix, rln, rg, rd, ri, rv, rk, rdd, rwi, at0, at1, at2, at3, upd_at, List.getElem?_cons_zero, List.getElem?_cons_succ, Option.some.injEq, exists_eq_left', exists_eq_left, List.set_cons_zero, List.set_cons_succ, true_and, and_true, HO.lst.injEq, HO.tup.injEq, exists_and_left, exists_eq, exists_eq', Br.t, Br.f, Be.t, Be.f, List.cons.injEq, List.append_nil, scal, if_true, if_false, ite_true, ite_false, eq_self_iff_true, decide_true, decide_false, Bool.not_true, Bool.not_false, reduceIte, List.nil_append, List.cons_append, reduceCtorEq, false_and, exists_false, false_or, or_false, Int.reduceLT, ral, rsq, rlu, rdp, Bool.true_or, Bool.false_or, Bool.or_false, Bool.or_true]
    refine ⟨_, _, rfl, ds, a, xs, o, rfl, rfl, a1.k ha, hd.same a1.s, ?_⟩
    cases o with
    | none =>
      exact fun v H' s1 p2 H2 a2 => q _ _ (Same.trans a1.s (Same.trans s1 a2.s)) a2.e
    | some cx =>
      obtain ⟨c, x⟩ := cx
      intro H' d s1 nd
      rcases four1 hd with rfl | rfl | rfl | rfl
      · refine ⟨true, T.exm_NoNumber_NoNumber, fun _ z hz => ?_, nofun⟩
        simp only [and_assoc, rst, rs, re, ra, rq, rx, ro, rl, rl2, rsp, rz, rix, rln, rg, rd, ri, rv, rk, rdd, rwi, at0, at1, at2, at3, upd_at, List.getElem?_cons_zero, List.getElem?_cons_succ, Option.some.injEq, exists_eq_left', exists_eq_left, List.set_cons_zero, List.set_cons_succ, true_and, and_true, HO.lst.injEq, HO.tup.injEq, exists_and_left, exists_eq, exists_eq', Br.t, Br.f, Be.t, Be.f, List.cons.injEq, List.append_nil, scal, if_true, if_false, ite_true, ite_false, eq_self_iff_true, decide_true, decide_false, Bool.not_true, Bool.not_false, reduceIte, List.nil_append, List.cons_append, reduceCtorEq, false_and, exists_false, false_or, or_false, Int.reduceLT, ral, rsq, rlu, rdp, Bool.true_or, Bool.false_or, Bool.or_false, Bool.or_true]
        refine ⟨_, rfl, x, rfl, fun p2 H2 a2 => isDT_ref (Cs := [He.ga K "NoOrder", He.ga K "NoSet", He.ga K "NoShares"]) (a2.k upd_same) a2.e
          (kitAny_cons T.kit_NoNumber_NoOrder (fun _ => kitAny_cons T.kit_NoNumber_NoSet (fun _ => kitAny_cons T.kit_NoNumber_NoShares (fun _ => rfl) nofun) nofun) nofun) ?_⟩
        exact fun p3 H3 a3 => q _ _ (Same.trans a1.s (Same.trans s1 (Same.trans (Same.new nd) (Same.trans a2.s a3.s)))) (by rw [told1]; exact a3.e)
      · refine ⟨false, T.exm_NoOrder_NoNumber, nofun, fun _ => ⟨true, T.exm_NoOrder_NoOrder, fun _ z hz => ?_, nofun⟩⟩
        simp only [and_assoc, rst, rs, re, ra, rq, rx, ro, rl, rl2, rsp, rz, rix, rln, rg, rd, ri, rv, rk, rdd, rwi, at0, at1, at2, at3, upd_at, List.getElem?_cons_zero, List.getElem?_cons_succ, Option.some.injEq, exists_eq_left', exists_eq_left, List.set_cons_zero, List.set_cons_succ, true_and, and_true, HO.lst.injEq, HO.tup.injEq, exists_and_left, exists_eq, exists_eq', Br.t, Br.f, Be.t, Be.f, List.cons.injEq, List.append_nil, scal, if_true, if_false, ite_true, ite_false, eq_self_iff_true, decide_true, decide_false, Bool.not_true, Bool.not_false, reduceIte, List.nil_append, List.cons_append, reduceCtorEq, false_and, exists_false, false_or, or_false, Int.reduceLT, ral, rsq, rlu, rdp, Bool.true_or, Bool.false_or, Bool.or_false, Bool.or_true]
        refine ⟨_, rfl, x, rfl, fun p2 H2 a2 => isDT_ref (Cs := [He.ga K "NoNumber", He.ga K "NoSet", He.ga K "NoShares"]) (a2.k upd_same) a2.e
          (kitAny_cons T.kit_NoOrder_NoNumber (fun _ => kitAny_cons T.kit_NoOrder_NoSet (fun _ => kitAny_cons T.kit_NoOrder_NoShares (fun _ => rfl) nofun) nofun) nofun) ?_⟩
        exact fun p3 H3 a3 => q _ _ (Same.trans a1.s (Same.trans s1 (Same.trans (Same.new nd) (Same.trans a2.s a3.s)))) (by rw [told2]; exact a3.e)
      · refine ⟨false, T.exm_NoSet_NoNumber, nofun, fun _ => ⟨false, T.exm_NoSet_NoOrder, nofun, fun _ => ⟨true, T.exm_NoSet_NoSet, fun _ z hz => ?_, nofun⟩⟩⟩
        simp only [and_assoc, rst, rs, re, ra, rq, rx, ro, rl, rl2, rsp, rz, rix, rln, rg, rd, ri, rv, rk, rdd, rwi, at0, at1, at2, at3, upd_at, List.getElem?_cons_zero, List.getElem?_cons_succ, Option.some.injEq, exists_eq_left', exists_eq_left, List.set_cons_zero, List.set_cons_succ, true_and, and_true, HO.lst.injEq, HO.tup.injEq, exists_and_left, exists_eq, exists_eq', Br.t, Br.f, Be.t, Be.f, List.cons.injEq, List.append_nil, scal, if_true, if_false, ite_true, ite_false, eq_self_iff_true, decide_true, decide_false, Bool.not_true, Bool.not_false, reduceIte, List.nil_append, List.cons_append, reduceCtorEq, false_and, exists_false, false_or, or_false, Int.reduceLT, ral, rsq, rlu, rdp, Bool.true_or, Bool.false_or, Bool.or_false, Bool.or_true]
        refine ⟨_, rfl, x, rfl, fun p2 H2 a2 => isDT_ref (Cs := [He.ga K "NoNumber", He.ga K "NoOrder", He.ga K "NoShares"]) (a2.k upd_same) a2.e
          (kitAny_cons T.kit_NoSet_NoNumber (fun _ => kitAny_cons T.kit_NoSet_NoOrder (fun _ => kitAny_cons T.kit_NoSet_NoShares (fun _ => rfl) nofun) nofun) nofun) ?_⟩
        exact fun p3 H3 a3 => q _ _ (Same.trans a1.s (Same.trans s1 (Same.trans (Same.new nd) (Same.trans a2.s a3.s)))) (by rw [told3]; exact a3.e)
      · refine ⟨false, T.exm_NoShares_NoNumber, nofun, fun _ => ⟨false, T.exm_NoShares_NoOrder, nofun, fun _ => ⟨false, T.exm_NoShares_NoSet, nofun, fun _ => ⟨true, T.exm_NoShares_NoShares, fun _ z hz => ?_, nofun⟩⟩⟩⟩
        simp only [and_assoc, rst, rs, re, ra, rq, rx, ro, rl, rl2, rsp, rz, rix, rln, rg, rd, ri, rv, rk, rdd, rwi, at0, at1, at2, at3, upd_at, List.getElem?_cons_zero, List.getElem?_cons_succ, Option.some.injEq, exists_eq_left', exists_eq_left, List.set_cons_zero, List.set_cons_succ, true_and, and_true, HO.lst.injEq, HO.tup.injEq, exists_and_left, exists_eq, exists_eq', Br.t, Br.f, Be.t, Be.f, List.cons.injEq, List.append_nil, scal, if_true, if_false, ite_true, ite_false, eq_self_iff_true, decide_true, decide_false, Bool.not_true, Bool.not_false, reduceIte, List.nil_append, List.cons_append, reduceCtorEq, false_and, exists_false, false_or, or_false, Int.reduceLT, ral, rsq, rlu, rdp, Bool.true_or, Bool.false_or, Bool.or_false, Bool.or_true]
        refine ⟨_, rfl, x, rfl, fun p2 H2 a2 => isDT_ref (Cs := [He.ga K "NoNumber", He.ga K "NoOrder", He.ga K "NoSet"]) (a2.k upd_same) a2.e
          (kitAny_cons T.kit_NoShares_NoNumber (fun _ => kitAny_cons T.kit_NoShares_NoOrder (fun _ => kitAny_cons T.kit_NoShares_NoSet (fun _ => rfl) nofun) nofun) nofun) ?_⟩
        exact fun p3 H3 a3 => q _ _ (Same.trans a1.s (Same.trans s1 (Same.trans (Same.new nd) (Same.trans a2.s a3.s)))) (by rw [told4]; exact a3.e)
  · rw [inv2 hd]
    simp only [and_assoc, rst, rs, re, ra, rq, rx, ro, rl, rl2, rsp, rz, rix, rln, rg, rd, ri, rv, rk, rdd, rwi, at0, at1, at2, at3, upd_at, List.getElem?_cons_zero, List.getElem?_cons_succ, Option.some.injEq, exists_eq_left', exists_eq_left, List.set_cons_zero, List.set_cons_succ, true_and, and_true, HO.lst.injEq, HO.tup.injEq, exists_and_left, exists_eq, exists_eq', Br.t, Br.f, Be.t, Be.f, List.cons.injEq, List.append_nil, scal, if_true, if_false, ite_true, ite_false, eq_self_iff_true, decide_true, decide_false, Bool.not_true, Bool.not_false, reduceIte, List.nil_append, List.cons_append, reduceCtorEq, false_and, exists_false, false_or, or_false, Int.reduceLT, ral, rsq, rlu, rdp, Bool.true_or, Bool.false_or, Bool.or_false, Bool.or_true]
    refine ⟨_, _, rfl, ds, a, xs, o, rfl, rfl, a1.k ha, hd.same a1.s, ?_⟩
    cases o with
    | none =>
      exact fun v H' s1 p2 H2 a2 => q _ _ (Same.trans a1.s (Same.trans s1 a2.s)) a2.e
    | some cx =>
      obtain ⟨c, x⟩ := cx
      intro H' d s1 nd
      rcases four2 hd with rfl | rfl | rfl | rfl
      · refine ⟨true, T.exm_NoNumber_NoNumber, fun _ z hz => ?_, nofun⟩
        simp only [and_assoc, rst, rs, re, ra, rq, rx, ro, rl, rl2, rsp, rz, rix, rln, rg, rd, ri, rv, rk, rdd, rwi, at0, at1, at2, at3, upd_at, List.getElem?_cons_zero, List.getElem?_cons_succ, Option.some.injEq, exists_eq_left', exists_eq_left, List.set_cons_zero, List.set_cons_succ, true_and, and_true, HO.lst.injEq, HO.tup.injEq, exists_and_left, exists_eq, exists_eq', Br.t, Br.f, Be.t, Be.f, List.cons.injEq, List.append_nil, scal, if_true, if_false, ite_true, ite_false, eq_self_iff_true, decide_true, decide_false, Bool.not_true, Bool.not_false, reduceIte, List.nil_append, List.cons_append, reduceCtorEq, false_and, exists_false, false_or, or_false, Int.reduceLT, ral, rsq, rlu, rdp, Bool.true_or, Bool.false_or, Bool.or_false, Bool.or_true]
        refine ⟨_, rfl, x, rfl, fun p2 H2 a2 => isDT_ref (Cs := [He.ga K "NoOrder", He.ga K "NoSet", He.ga K "NoShares"]) (a2.k upd_same) a2.e
          (kitAny_cons T.kit_NoNumber_NoOrder (fun _ => kitAny_cons T.kit_NoNumber_NoSet (fun _ => kitAny_cons T.kit_NoNumber_NoShares (fun _ => rfl) nofun) nofun) nofun) ?_⟩
        exact fun p3 H3 a3 => q _ _ (Same.trans a1.s (Same.trans s1 (Same.trans (Same.new nd) (Same.trans a2.s a3.s)))) (by rw [told1]; exact a3.e)
      · refine ⟨false, T.exm_NoOrder_NoNumber, nofun, fun _ => ⟨true, T.exm_NoOrder_NoOrder, fun _ z hz => ?_, nofun⟩⟩
        simp only [and_assoc, rst, rs, re, ra, rq, rx, ro, rl, rl2, rsp, rz, rix, rln, rg, rd, ri, rv, rk, rdd, rwi, at0, at1, at2, at3, upd_at, List.getElem?_cons_zero, List.getElem?_cons_succ, Option.some.injEq, exists_eq_left', exists_eq_left, List.set_cons_zero, List.set_cons_succ, true_and, and_true, HO.lst.injEq, HO.tup.injEq, exists_and_left, exists_eq, exists_eq', Br.t, Br.f, Be.t, Be.f, List.cons.injEq, List.append_nil, scal, if_true, if_false, ite_true, ite_false, eq_self_iff_true, decide_true, decide_false, Bool.not_true, Bool.not_false, reduceIte, List.nil_append, List.cons_append, reduceCtorEq, false_and, exists_false, false_or, or_false, Int.reduceLT, ral, rsq, rlu, rdp, Bool.true_or, Bool.false_or, Bool.or_false, Bool.or_true]
        refine ⟨_, rfl, x, rfl, fun p2 H2 a2 => isDT_ref (Cs := [He.ga K "NoNumber", He.ga K "NoSet", He.ga K "NoShares"]) (a2.k upd_same) a2.e
          (kitAny_cons T.kit_NoOrder_NoNumber (fun _ => kitAny_cons T.kit_NoOrder_NoSet (fun _ => kitAny_cons T.kit_NoOrder_NoShares (fun _ => rfl) nofun) nofun) nofun) ?_⟩
        exact fun p3 H3 a3 => q _ _ (Same.trans a1.s (Same.trans s1 (Same.trans (Same.new nd) (Same.trans a2.s a3.s)))) (by rw [told2]; exact a3.e)
      · refine ⟨false, T.exm_NoSet_NoNumber, nofun, fun _ => ⟨false, T.exm_NoSet_NoOrder, nofun, fun _ => ⟨true, T.exm_NoSet_NoSet, fun _ z hz => ?_, nofun⟩⟩⟩
        simp only [and_assoc, rst, rs, re, ra, rq, rx, ro, rl, rl2, rsp, rz, rix, rln, rg, rd, ri, rv, rk, rdd, rwi, at0, at1, at2, at3, upd_at, List.getElem?_cons_zero, List.getElem?_cons_succ, Option.some.injEq, exists_eq_left', exists_eq_left, List.set_cons_zero, List.set_cons_succ, true_and, and_true, HO.lst.injEq, HO.tup.injEq, exists_and_left, exists_eq, exists_eq', Br.t, Br.f, Be.t, Be.f, List.cons.injEq, List.append_nil, scal, if_true, if_false, ite_true, ite_false, eq_self_iff_true, decide_true, decide_false, Bool.not_true, Bool.not_false, reduceIte, List.nil_append, List.cons_append, reduceCtorEq, false_and, exists_false, false_or, or_false, Int.reduceLT, ral, rsq, rlu, rdp, Bool.true_or, Bool.false_or, Bool.or_false, Bool.or_true]
        refine ⟨_, rfl, x, rfl, fun p2 H2 a2 => isDT_ref (Cs := [He.ga K "NoNumber", He.ga K "NoOrder", He.ga K "NoShares"]) (a2.k upd_same) a2.e
          (kitAny_cons T.kit_NoSet_NoNumber (fun _ => kitAny_cons T.kit_NoSet_NoOrder (fun _ => kitAny_cons T.kit_NoSet_NoShares (fun _ => rfl) nofun) nofun) nofun) ?_⟩
        exact fun p3 H3 a3 => q _ _ (Same.trans a1.s (Same.trans s1 (Same.trans (Same.new nd) (Same.trans a2.s a3.s)))) (by rw [told3]; exact a3.e)
      · refine ⟨false, T.exm_NoShares_NoNumber, nofun, fun _ => ⟨false, T.exm_NoShares_NoOrder, nofun, fun _ => ⟨false, T.exm_NoShares_NoSet, nofun, fun _ => ⟨true, T.exm_NoShares_NoShares, fun _ z hz => ?_, nofun⟩⟩⟩⟩
        simp only [and_assoc, rst, rs, re, ra, rq, rx, ro, rl, rl2, rsp, rz, rix, rln, rg, rd, ri, rv, rk, rdd, rwi, at0, at1, at2, at3, upd_at, List.getElem?_cons_zero, List.getElem?_cons_succ, Option.some.injEq, exists_eq_left', exists_eq_left, List.set_cons_zero, List.set_cons_succ, true_and, and_true, HO.lst.injEq, HO.tup.injEq, exists_and_left, exists_eq, exists_eq', Br.t, Br.f, Be.t, Be.f, List.cons.injEq, List.append_nil, scal, if_true, if_false, ite_true, ite_false, eq_self_iff_true, decide_true, decide_false, Bool.not_true, Bool.not_false, reduceIte, List.nil_append, List.cons_append, reduceCtorEq, false_and, exists_false, false_or, or_false, Int.reduceLT, ral, rsq, rlu, rdp, Bool.true_or, Bool.false_or, Bool.or_false, Bool.or_true]
        refine ⟨_, rfl, x, rfl, fun p2 H2 a2 => isDT_ref (Cs := [He.ga K "NoNumber", He.ga K "NoOrder", He.ga K "NoSet"]) (a2.k upd_same) a2.e
          (kitAny_cons T.kit_NoShares_NoNumber (fun _ => kitAny_cons T.kit_NoShares_NoOrder (fun _ => kitAny_cons T.kit_NoShares_NoSet (fun _ => rfl) nofun) nofun) nofun) ?_⟩
        exact fun p3 H3 a3 => q _ _ (Same.trans a1.s (Same.trans s1 (Same.trans (Same.new nd) (Same.trans a2.s a3.s)))) (by rw [told4]; exact a3.e)
theorem ok__law_very (T : Tx K mg w)   : Cal P w K mg base 1 "_law_very" ["found", "thing"] (sp__law_very K) := by
  refine cal_mk T.F__law_very T.g__law_very sc__law_very (len2 _) (fun _ _ _ _ _ _ us hl => match us, hl with | [_, _], _ => rfl) (fun cdv A outer s H vs Q E hr h => ?_)
  obtain ⟨v0, v1, rfl, h⟩ := h
  have hu := hu_of hr
  refine ⟨_, (pss_cons (ps_if (PW.pt (pw_or (pt_cmpR op_ne (pe_callB is_q (by rfl) T.n_isinstance (by decide +kernel) (pa_cons (pv 0) (pa_cons (pe_bltn (v := .ty "bool") (by rfl) T.n_bool (by decide +kernel) rfl) pa_nil))) (pe_callB is_q (by rfl) T.n_isinstance (by decide +kernel) (pa_cons (pv 1) (pa_cons (pe_bltn (v := .ty "bool") (by rfl) T.n_bool (by decide +kernel) rfl) pa_nil))) (nomark _)) (pw_or1 (pt_cmpR (op_neA hr.units) (pv 0) (pv 1) (nomark _))))) (pss_one (ps_ret pe_bl)) pss_nil)
      (pss_cons (ps_if (pt_val (pe_callB is_q (by rfl) T.n_isinstance (by decide +kernel) (pa_cons (pv 1) (pa_cons (pe_bltn (v := .ty "list") (by rfl) T.n_list (by decide +kernel) rfl) pa_nil)))) (pss_cons (ps_expr (pe_ml PySem.F.slot_list_append PySem.F.type_list_append mt_append (pv 1) (pa_cons pe_str pa_nil)))
      (pss_cons (ps_set (i := 2) sc__law_very.nd rfl (Or.inl rfl) (pe_cmpR (op_eqA hr.units) (pv 0) (pv 1) (nomark _)))
      (pss_cons (ps_expr (pe_ml0 PySem.F.slot_list_pop PySem.F.type_list_pop mt_pop (pv 1)))
      (pss_one (ps_ret (pv 2)))))) pss_nil)
      (pss_cons (ps_if (pt_val (pe_callB is_q (by rfl) T.n_isinstance (by decide +kernel) (pa_cons (pv 1) (pa_cons (pe_bltn (v := .ty "dict") (by rfl) T.n_dict (by decide +kernel) rfl) pa_nil)))) (pss_cons (ps_dput (Nat.lt_of_le_of_lt (Nat.add_le_add_left (by decide : 1 ≤ 64) _) hr.units) (pv 1) pe_str pe_int rfl)
      (pss_cons (ps_set (i := 2) sc__law_very.nd rfl (Or.inl rfl) (pe_cmpR (op_eqA hr.units) (pv 0) (pv 1) (nomark _)))
      (pss_cons (ps_expr (pe_dpop1 (pv 1) pe_str ⟨rfl, rfl, rfl, rfl⟩))
      (pss_one (ps_ret (pv 2)))))) pss_nil)
      (pss_one (ps_ret pe_bl))))), ?_⟩
  obtain ⟨tw, q⟩ := h
  rcases tw with ⟨rfl, hn⟩ | ⟨a, b, rfl, rfl, ha, hb⟩
  rotate_left
  · have ea : tyN H (.ref a) = some "tuple" := by rw [tyN, ha] <;> rfl
    have eb : tyN H (.ref b) = some "tuple" := by rw [tyN, hb] <;> rfl
    have b1 := isB_bool ea
    have b2 := isB_bool eb
    simp only [and_assoc, rst, rs, re, ra, rq, rx, ro, rl, rl2, rsp, rz, rix, rln, rg, rd, ri, rv, rk, rdd, rwi, at0, at1, at2, at3, upd_at, List.getElem?_cons_zero, List.getElem?_cons_succ, Option.some.injEq, exists_eq_left', exists_eq_left, List.set_cons_zero, List.set_cons_succ, true_and, and_true, HO.lst.injEq, HO.tup.injEq, exists_and_left, exists_eq, exists_eq', Br.t, Br.f, Be.t, Be.f, List.cons.injEq, List.append_nil, scal, if_true, if_false, ite_true, ite_false, eq_self_iff_true, decide_true, decide_false, Bool.not_true, Bool.not_false, reduceIte, List.nil_append, List.cons_append, reduceCtorEq, false_and, exists_false, false_or, or_false, Int.reduceLT, ral, rsq, rlu, rdp, Bool.true_or, Bool.false_or, Bool.or_false, Bool.or_true, b1, b2, show bool? (.ref a) = false from rfl, show bool? (.ref b) = false from rfl]
    refine .inl ⟨_, _, .tup (SqT.of ha) .nil, .tup (SqT.of hb) .nil, rfl, rfl, ?_⟩
    rw [show PyData.eqv (.tuple []) (.tuple []) = true from rfl]
    simp only [and_assoc, rst, rs, re, ra, rq, rx, ro, rl, rl2, rsp, rz, rix, rln, rg, rd, ri, rv, rk, rdd, rwi, at0, at1, at2, at3, upd_at, List.getElem?_cons_zero, List.getElem?_cons_succ, Option.some.injEq, exists_eq_left', exists_eq_left, List.set_cons_zero, List.set_cons_succ, true_and, and_true, HO.lst.injEq, HO.tup.injEq, exists_and_left, exists_eq, exists_eq', Br.t, Br.f, Be.t, Be.f, List.cons.injEq, List.append_nil, scal, if_true, if_false, ite_true, ite_false, eq_self_iff_true, decide_true, decide_false, Bool.not_true, Bool.not_false, reduceIte, List.nil_append, List.cons_append, reduceCtorEq, false_and, exists_false, false_or, or_false, Int.reduceLT, ral, rsq, rlu, rdp, Bool.true_or, Bool.false_or, Bool.or_false, Bool.or_true]
    refine ⟨_, isB_of eb (b := false) (by decide +kernel), ?_⟩
    simp only [and_assoc, rst, rs, re, ra, rq, rx, ro, rl, rl2, rsp, rz, rix, rln, rg, rd, ri, rv, rk, rdd, rwi, at0, at1, at2, at3, upd_at, List.getElem?_cons_zero, List.getElem?_cons_succ, Option.some.injEq, exists_eq_left', exists_eq_left, List.set_cons_zero, List.set_cons_succ, true_and, and_true, HO.lst.injEq, HO.tup.injEq, exists_and_left, exists_eq, exists_eq', Br.t, Br.f, Be.t, Be.f, List.cons.injEq, List.append_nil, scal, if_true, if_false, ite_true, ite_false, eq_self_iff_true, decide_true, decide_false, Bool.not_true, Bool.not_false, reduceIte, List.nil_append, List.cons_append, reduceCtorEq, false_and, exists_false, false_or, or_false, Int.reduceLT, ral, rsq, rlu, rdp, Bool.true_or, Bool.false_or, Bool.or_false, Bool.or_true]
    refine ⟨_, isB_of eb (b := false) (by decide +kernel), ?_⟩
    simp only [and_assoc, rst, rs, re, ra, rq, rx, ro, rl, rl2, rsp, rz, rix, rln, rg, rd, ri, rv, rk, rdd, rwi, at0, at1, at2, at3, upd_at, List.getElem?_cons_zero, List.getElem?_cons_succ, Option.some.injEq, exists_eq_left', exists_eq_left, List.set_cons_zero, List.set_cons_succ, true_and, and_true, HO.lst.injEq, HO.tup.injEq, exists_and_left, exists_eq, exists_eq', Br.t, Br.f, Be.t, Be.f, List.cons.injEq, List.append_nil, scal, if_true, if_false, ite_true, ite_false, eq_self_iff_true, decide_true, decide_false, Bool.not_true, Bool.not_false, reduceIte, List.nil_append, List.cons_append, reduceCtorEq, false_and, exists_false, false_or, or_false, Int.reduceLT, ral, rsq, rlu, rdp, Bool.true_or, Bool.false_or, Bool.or_false, Bool.or_true]
    exact q _ (fun _ _ e => e)
  obtain ⟨n, hty⟩ := hn.ty
  have b1 := isB_bool hty
  simp only [and_assoc, rst, rs, re, ra, rq, rx, ro, rl, rl2, rsp, rz, rix, rln, rg, rd, ri, rv, rk, rdd, rwi, at0, at1, at2, at3, upd_at, List.getElem?_cons_zero, List.getElem?_cons_succ, Option.some.injEq, exists_eq_left', exists_eq_left, List.set_cons_zero, List.set_cons_succ, true_and, and_true, HO.lst.injEq, HO.tup.injEq, exists_and_left, exists_eq, exists_eq', Br.t, Br.f, Be.t, Be.f, List.cons.injEq, List.append_nil, scal, if_true, if_false, ite_true, ite_false, eq_self_iff_true, decide_true, decide_false, Bool.not_true, Bool.not_false, reduceIte, List.nil_append, List.cons_append, reduceCtorEq, false_and, exists_false, false_or, or_false, Int.reduceLT, ral, rsq, rlu, rdp, Bool.true_or, Bool.false_or, Bool.or_false, Bool.or_true, b1]
  have dd : (∃ d, Dp K H v0 d ∧ PyData.canLay0 d = true ∧ PyData.depth d ≤ 60) ∨ ∃ p ks, v0 = .ref p ∧ H p = some (.dK ks) ∧ ∀ x ∈ ks, valV ks x.1 = some x.2 ∧ flatB x.2 = true := by
    rcases hn.d (K := K) with ⟨d, h1, h2, h3⟩ | ⟨p, e, h⟩
    · exact .inl ⟨d, h1, h2, by omega⟩
    · exact .inr ⟨p, [], e, h, fun _ z => by cases z⟩
  refine neA_self dd ?_
  simp only [and_assoc, rst, rs, re, ra, rq, rx, ro, rl, rl2, rsp, rz, rix, rln, rg, rd, ri, rv, rk, rdd, rwi, at0, at1, at2, at3, upd_at, List.getElem?_cons_zero, List.getElem?_cons_succ, Option.some.injEq, exists_eq_left', exists_eq_left, List.set_cons_zero, List.set_cons_succ, true_and, and_true, HO.lst.injEq, HO.tup.injEq, exists_and_left, exists_eq, exists_eq', Br.t, Br.f, Be.t, Be.f, List.cons.injEq, List.append_nil, scal, if_true, if_false, ite_true, ite_false, eq_self_iff_true, decide_true, decide_false, Bool.not_true, Bool.not_false, reduceIte, List.nil_append, List.cons_append, reduceCtorEq, false_and, exists_false, false_or, or_false, Int.reduceLT, ral, rsq, rlu, rdp, Bool.true_or, Bool.false_or, Bool.or_false, Bool.or_true]
  rcases nice_kind hn with ⟨p, xs, rfl, hp, hx, hl⟩ | ⟨p, rfl, hp⟩ | ⟨h1, h2⟩
  · refine ⟨_, isB_list hp, ?_⟩
    simp only [and_assoc, rst, rs, re, ra, rq, rx, ro, rl, rl2, rsp, rz, rix, rln, rg, rd, ri, rv, rk, rdd, rwi, at0, at1, at2, at3, upd_at, List.getElem?_cons_zero, List.getElem?_cons_succ, Option.some.injEq, exists_eq_left', exists_eq_left, List.set_cons_zero, List.set_cons_succ, true_and, and_true, HO.lst.injEq, HO.tup.injEq, exists_and_left, exists_eq, exists_eq', Br.t, Br.f, Be.t, Be.f, List.cons.injEq, List.append_nil, scal, if_true, if_false, ite_true, ite_false, eq_self_iff_true, decide_true, decide_false, Bool.not_true, Bool.not_false, reduceIte, List.nil_append, List.cons_append, reduceCtorEq, false_and, exists_false, false_or, or_false, Int.reduceLT, ral, rsq, rlu, rdp, Bool.true_or, Bool.false_or, Bool.or_false, Bool.or_true, hp]
    refine ⟨by rw [sizeLine_eq]; omega, ?_⟩
    refine eqA_self (.inl ?_) ⟨_, upd_same, _, upd_same, .str "late", by simp, ?_⟩
    · obtain ⟨ds, k1, k2, k3⟩ := all_d (K := K) (H := upd H p (.lst (xs ++ [.str "late"]))) (n := 2) (xs := xs ++ [.str "late"]) fun x hx' => by
        rcases List.mem_append.mp hx' with c | c
        · exact (grown hp c (hx x c)).d
        · rw [List.mem_singleton.mp c]
          exact Nice1.d (.inl (flat_str _))
      refine ⟨_, .lst (SqL.of upd_same) k1, k2, ?_⟩
      simp only [PyData.depth]
      omega
    · rw [List.dropLast_concat]
      exact q _ (back_same hp)
  · have e : tyN H (.ref p) = some "dict" := by rw [tyN, hp] <;> rfl
    refine ⟨_, isB_of e (b := false) (by decide +kernel), ?_⟩
    simp only [and_assoc, rst, rs, re, ra, rq, rx, ro, rl, rl2, rsp, rz, rix, rln, rg, rd, ri, rv, rk, rdd, rwi, at0, at1, at2, at3, upd_at, List.getElem?_cons_zero, List.getElem?_cons_succ, Option.some.injEq, exists_eq_left', exists_eq_left, List.set_cons_zero, List.set_cons_succ, true_and, and_true, HO.lst.injEq, HO.tup.injEq, exists_and_left, exists_eq, exists_eq', Br.t, Br.f, Be.t, Be.f, List.cons.injEq, List.append_nil, scal, if_true, if_false, ite_true, ite_false, eq_self_iff_true, decide_true, decide_false, Bool.not_true, Bool.not_false, reduceIte, List.nil_append, List.cons_append, reduceCtorEq, false_and, exists_false, false_or, or_false, Int.reduceLT, ral, rsq, rlu, rdp, Bool.true_or, Bool.false_or, Bool.or_false, Bool.or_true]
    refine ⟨_, isB_of e (b := true) (by decide +kernel), ?_⟩
    simp only [and_assoc, rst, rs, re, ra, rq, rx, ro, rl, rl2, rsp, rz, rix, rln, rg, rd, ri, rv, rk, rdd, rwi, at0, at1, at2, at3, upd_at, List.getElem?_cons_zero, List.getElem?_cons_succ, Option.some.injEq, exists_eq_left', exists_eq_left, List.set_cons_zero, List.set_cons_succ, true_and, and_true, HO.lst.injEq, HO.tup.injEq, exists_and_left, exists_eq, exists_eq', Br.t, Br.f, Be.t, Be.f, List.cons.injEq, List.append_nil, scal, if_true, if_false, ite_true, ite_false, eq_self_iff_true, decide_true, decide_false, Bool.not_true, Bool.not_false, reduceIte, List.nil_append, List.cons_append, reduceCtorEq, false_and, exists_false, false_or, or_false, Int.reduceLT, ral, rsq, rlu, rdp, Bool.true_or, Bool.false_or, Bool.or_false, Bool.or_true]
    refine ⟨_, DPut.k (k := .inr "late") hp (by rw [sizeLine_eq]; decide), eqA_self (.inr ⟨p, _, rfl, upd_same, ?_⟩) ⟨?_, _, upd_same, .inr "late", rfl, .int 1, ?_, ?_⟩⟩
    · intro x hx
      rw [putK_new _ rfl] at hx ⊢
      obtain rfl : x = (.inr "late", .int 1) := List.mem_singleton.mp hx
      exact ⟨by rw [← putK_new _ rfl, valV_put, if_pos rfl], rfl⟩
    · exact .inl ⟨_, .inl upd_same⟩
    · rw [valV_put, if_pos rfl]
    · rw [show dropK (putK ([] : List (Key × V)) (.inr "late") (.int 1)) (.inr "late") = [] by rw [putK_new _ rfl]; simp [dropK]]
      exact q _ (back_same hp)
  · refine ⟨_, h1, ?_⟩
    simp only [and_assoc, rst, rs, re, ra, rq, rx, ro, rl, rl2, rsp, rz, rix, rln, rg, rd, ri, rv, rk, rdd, rwi, at0, at1, at2, at3, upd_at, List.getElem?_cons_zero, List.getElem?_cons_succ, Option.some.injEq, exists_eq_left', exists_eq_left, List.set_cons_zero, List.set_cons_succ, true_and, and_true, HO.lst.injEq, HO.tup.injEq, exists_and_left, exists_eq, exists_eq', Br.t, Br.f, Be.t, Be.f, List.cons.injEq, List.append_nil, scal, if_true, if_false, ite_true, ite_false, eq_self_iff_true, decide_true, decide_false, Bool.not_true, Bool.not_false, reduceIte, List.nil_append, List.cons_append, reduceCtorEq, false_and, exists_false, false_or, or_false, Int.reduceLT, ral, rsq, rlu, rdp, Bool.true_or, Bool.false_or, Bool.or_false, Bool.or_true]
    refine ⟨_, h2, ?_⟩
    simp only [and_assoc, rst, rs, re, ra, rq, rx, ro, rl, rl2, rsp, rz, rix, rln, rg, rd, ri, rv, rk, rdd, rwi, at0, at1, at2, at3, upd_at, List.getElem?_cons_zero, List.getElem?_cons_succ, Option.some.injEq, exists_eq_left', exists_eq_left, List.set_cons_zero, List.set_cons_succ, true_and, and_true, HO.lst.injEq, HO.tup.injEq, exists_and_left, exists_eq, exists_eq', Br.t, Br.f, Be.t, Be.f, List.cons.injEq, List.append_nil, scal, if_true, if_false, ite_true, ite_false, eq_self_iff_true, decide_true, decide_false, Bool.not_true, Bool.not_false, reduceIte, List.nil_append, List.cons_append, reduceCtorEq, false_and, exists_false, false_or, or_false, Int.reduceLT, ral, rsq, rlu, rdp, Bool.true_or, Bool.false_or, Bool.or_false, Bool.or_true]
    exact q _ (fun _ _ e => e)
theorem ok__law_is (T : Tx K mg w) (c__law_told : Cal P w K mg base 9 "_law_told" ["door", "things"] (sp__law_told K)) (c__law_very : Cal P w K mg base 1 "_law_very" ["found", "thing"] (sp__law_very K))  : Cal P w K mg base 10 "_law_is" ["door", "things", "word", "thing"] (sp__law_is K) := by
  refine cal_mk T.F__law_is T.g__law_is sc__law_is (len4 _) (fun _ _ _ _ _ _ us hl => match us, hl with | [_, _, _, _], _ => rfl) (fun cdv A outer s H vs Q E hr h => ?_)
  obtain ⟨v0, v1, v2, v3, rfl, h⟩ := h
  have hu := hu_of hr
  refine ⟨_, (pss_cons (ps_set (i := 4) sc__law_is.nd rfl (Or.inl rfl) (pe_cal c__law_told hr (by decide) passL rfl (pa_cons (pv 0) (pa_cons (pv 1) pa_nil))))
      (pss_cons (ps_if (PW.pt (pw_or (pt_cmpR op_ne (pe_ix ix_q (pv 4) pe_int (fun _ _ => rfl)) (pv 2) (nomark _)) (pw_or1 (pt_truth (pe_ix ix_q (pv 4) pe_int (fun _ _ => rfl)) (by intro _; rfl))))) (pss_one (ps_ret pe_bl)) pss_nil)
      (pss_one (ps_ret (pe_or (pe_cmpR op_eq (pv 2) pe_str (nomark _)) (pe_one (pe_cal c__law_very hr (by decide) passL rfl (pa_cons (pe_ix ix_q (pv 4) pe_int (fun _ _ => rfl)) (pa_cons (pv 3) pa_nil))))))))), ?_⟩
  obtain ⟨ds, ws, o, y, rfl, rfl, hd, ht, hy, q⟩ := h
  simp only [and_assoc, rst, rs, re, ra, rq, rx, ro, rl, rl2, rsp, rz, rix, rln, rg, rd, ri, rv, rk, rdd, rwi, at0, at1, at2, at3, upd_at, List.getElem?_cons_zero, List.getElem?_cons_succ, Option.some.injEq, exists_eq_left', exists_eq_left, List.set_cons_zero, List.set_cons_succ, true_and, and_true, HO.lst.injEq, HO.tup.injEq, exists_and_left, exists_eq, exists_eq', Br.t, Br.f, Be.t, Be.f, List.cons.injEq, List.append_nil, scal, if_true, if_false, ite_true, ite_false, eq_self_iff_true, decide_true, decide_false, Bool.not_true, Bool.not_false, reduceIte, List.nil_append, List.cons_append, reduceCtorEq, false_and, exists_false, false_or, or_false, Int.reduceLT, ral, rsq, rlu, rdp, Bool.true_or, Bool.false_or, Bool.or_false, Bool.or_true]
  refine ⟨_, _, rfl, ds, o, rfl, hd, fun p H1 s1 h1 => ?_⟩
  rw [ht] at h1
  simp only [and_assoc, rst, rs, re, ra, rq, rx, ro, rl, rl2, rsp, rz, rix, rln, rg, rd, ri, rv, rk, rdd, rwi, at0, at1, at2, at3, upd_at, List.getElem?_cons_zero, List.getElem?_cons_succ, Option.some.injEq, exists_eq_left', exists_eq_left, List.set_cons_zero, List.set_cons_succ, true_and, and_true, HO.lst.injEq, HO.tup.injEq, exists_and_left, exists_eq, exists_eq', Br.t, Br.f, Be.t, Be.f, List.cons.injEq, List.append_nil, scal, if_true, if_false, ite_true, ite_false, eq_self_iff_true, decide_true, decide_false, Bool.not_true, Bool.not_false, reduceIte, List.nil_append, List.cons_append, reduceCtorEq, false_and, exists_false, false_or, or_false, Int.reduceLT, ral, rsq, rlu, rdp, Bool.true_or, Bool.false_or, Bool.or_false, Bool.or_true, h1]
  refine ⟨false, rfl, ?_⟩
  simp only [and_assoc, rst, rs, re, ra, rq, rx, ro, rl, rl2, rsp, rz, rix, rln, rg, rd, ri, rv, rk, rdd, rwi, at0, at1, at2, at3, upd_at, List.getElem?_cons_zero, List.getElem?_cons_succ, Option.some.injEq, exists_eq_left', exists_eq_left, List.set_cons_zero, List.set_cons_succ, true_and, and_true, HO.lst.injEq, HO.tup.injEq, exists_and_left, exists_eq, exists_eq', Br.t, Br.f, Be.t, Be.f, List.cons.injEq, List.append_nil, scal, if_true, if_false, ite_true, ite_false, eq_self_iff_true, decide_true, decide_false, Bool.not_true, Bool.not_false, reduceIte, List.nil_append, List.cons_append, reduceCtorEq, false_and, exists_false, false_or, or_false, Int.reduceLT, ral, rsq, rlu, rdp, Bool.true_or, Bool.false_or, Bool.or_false, Bool.or_true]
  refine Be.d (fun _ => q _ s1) fun c => ?_
  simp only [and_assoc, rst, rs, re, ra, rq, rx, ro, rl, rl2, rsp, rz, rix, rln, rg, rd, ri, rv, rk, rdd, rwi, at0, at1, at2, at3, upd_at, List.getElem?_cons_zero, List.getElem?_cons_succ, Option.some.injEq, exists_eq_left', exists_eq_left, List.set_cons_zero, List.set_cons_succ, true_and, and_true, HO.lst.injEq, HO.tup.injEq, exists_and_left, exists_eq, exists_eq', Br.t, Br.f, Be.t, Be.f, List.cons.injEq, List.append_nil, scal, if_true, if_false, ite_true, ite_false, eq_self_iff_true, decide_true, decide_false, Bool.not_true, Bool.not_false, reduceIte, List.nil_append, List.cons_append, reduceCtorEq, false_and, exists_false, false_or, or_false, Int.reduceLT, ral, rsq, rlu, rdp, Bool.true_or, Bool.false_or, Bool.or_false, Bool.or_true, h1]
  exact ⟨_, _, rfl, (hy.resolve_left c).same s1, fun H2 s2 => q _ (Same.trans s1 s2)⟩
end
end Law

-- RDX rnb, ral, rsq, rlu, rdp, Bool.true_or, Bool.false_or, Bool.or_false, Bool.or_true
set_option pp.deepTerms true
set_option pp.maxSteps 100000
namespace Law
open PySem PySem.Spec PyProof.Rows L2 Sw
theorem rnb : (∀ x y H Q, L2.rIsB x y H Q = ∃ a b : Bool, x = .bl a ∧ y = .bl b ∧ Q (.bl (decide (a = b))) H) ∧ (∀ x y H Q, L2.rNotB x y H Q = ∃ a b : Bool, x = .bl a ∧ y = .bl b ∧ Q (.bl (!decide (a = b))) H) := ⟨fun _ _ _ _ => rfl, fun _ _ _ _ => rfl⟩
def DD (H : Hp) (ds : Str) (xs : List V) (o : Option (Str × V)) : Prop := Dor H ds xs o ∨ Dor2 H ds xs o
theorem DD.same {H H' : Hp} (s : Same H H') {ds : Str} {xs : List V} {o : Option (Str × V)} (h : DD H ds xs o) : DD H' ds xs o := h.imp (·.same s) (·.same s)
section
variable {K : Fg} {G H : Hp} {a : Addr} {ds : Str} {xs : List V} {x : V} {Q : VK} {E : XK}
theorem is_num (s : Same G H) (hd : DD G ds xs (some ("NoNumber", x))) (ha : H a = some (.lst xs)) (hn : Nice G x) (q : ∀ H', Same H H' → Q (.bl true) H') : sp__law_is K [.str ds, .ref a, .str "number", x] H Q E :=
  ⟨_, _, _, _, rfl, ds, _, _, x, rfl, rfl, ⟨a, xs, rfl, ha, hd.same s⟩, told1, .inr (.inl ⟨rfl, hn.same s⟩), q⟩
theorem is_ord (s : Same G H) (hd : DD G ds xs (some ("NoOrder", x))) (ha : H a = some (.lst xs)) (hn : Nice G x) (q : ∀ H', Same H H' → Q (.bl true) H') : sp__law_is K [.str ds, .ref a, .str "order", x] H Q E :=
  ⟨_, _, _, _, rfl, ds, _, _, x, rfl, rfl, ⟨a, xs, rfl, ha, hd.same s⟩, told2, .inr (.inl ⟨rfl, hn.same s⟩), q⟩
theorem is_ord2 {y : V} (hd : DD H ds xs (some ("NoOrder", y))) (ha : H a = some (.lst xs)) (hn : Twin H y x) (q : ∀ H', Same H H' → Q (.bl true) H') : sp__law_is K [.str ds, .ref a, .str "order", x] H Q E :=
  ⟨_, _, _, _, rfl, ds, _, _, y, rfl, rfl, ⟨a, xs, rfl, ha, hd⟩, told2, .inr hn, q⟩
theorem is_set (s : Same G H) (hd : DD G ds xs (some ("NoSet", x))) (ha : H a = some (.lst xs)) (hn : Nice G x) (q : ∀ H', Same H H' → Q (.bl true) H') : sp__law_is K [.str ds, .ref a, .str "set", x] H Q E :=
  ⟨_, _, _, _, rfl, ds, _, _, x, rfl, rfl, ⟨a, xs, rfl, ha, hd.same s⟩, told3, .inr (.inl ⟨rfl, hn.same s⟩), q⟩
theorem is_sh (s : Same G H) (hd : DD G ds xs (some ("NoShares", x))) (ha : H a = some (.lst xs)) (hn : Nice G x) (q : ∀ H', Same H H' → Q (.bl true) H') : sp__law_is K [.str ds, .ref a, .str "shares", x] H Q E :=
  ⟨_, _, _, _, rfl, ds, _, _, x, rfl, rfl, ⟨a, xs, rfl, ha, hd.same s⟩, told4, .inr (.inl ⟨rfl, hn.same s⟩), q⟩
theorem is_let (s : Same G H) (hd : DD G ds xs none) (ha : H a = some (.lst xs)) (q : ∀ H', Same H H' → Q (.bl true) H') : sp__law_is K [.str ds, .ref a, .str "let by", x] H Q E :=
  ⟨_, _, _, _, rfl, ds, _, _, .non, rfl, rfl, ⟨a, xs, rfl, ha, hd.same s⟩, rfl, .inl rfl, q⟩
theorem badN_w {l : Int} {v : V} (h : BadN G l v) {hi : Int} (hh : hi ≤ l) : within v 0 hi = false := by
  cases v with
  | int z =>
    have := h.2 z rfl
    exact decide_eq_false (by omega)
  | _ => rfl
theorem draw_ok {p : Addr} {n : Int} (hw : Well H p) (h0 : 0 < n) (h1 : n < 2 ^ 64) (q : ∀ r H', 0 ≤ r → r < n → Wl p H H' → Q (.int r) H') : sp__law_draw K [.ref p, .int n] H Q E :=
  ⟨_, _, rfl, p, n, rfl, hw, rfl, h0, h1, fun r H' r0 r1 hw2 he => q r H' r0 r1 (Wl.draw hw2 he)⟩
theorem badn_ok {p : Addr} {l : Int} (hw : Well H p) (h0 : -1 ≤ l) (h1 : l < 10 ^ 28) (q : ∀ v H', Wl p H H' → BadN (wo p H') l v → Q v H') : sp__law_bad_number K [.ref p, .int l] H Q E :=
  ⟨_, _, rfl, p, l, rfl, hw, rfl, h0, h1, q⟩
end
theorem perm_ord {H : Hp} {l : Addr} {ms : List V} {n : Nat} (pm : ms.Perm ((List.range n).map fun j : Nat => V.int (j : Int))) (hn : n ≤ 60) (h : H l = some (.lst ms)) : OrdIs H (.ref l) true := by
  have inr : ∀ x ∈ ms, ∃ j : Nat, x = .int (j : Int) ∧ j < n := fun x hx => by
    obtain ⟨j, hj, rfl⟩ := List.mem_map.mp (pm.mem_iff.mp hx)
    exact ⟨j, rfl, List.mem_range.mp hj⟩
  have lm : ms.length = n := by rw [pm.length_eq, List.length_map, List.length_range]
  refine .inl ⟨ms, ⟨l, _, rfl, h, rfl⟩, fun x hx => ?_, (decide_eq_true ⟨by omega, fun x hx => ?_, ?_⟩).symm⟩
  · obtain ⟨j, rfl, _⟩ := inr x hx
    exact ⟨_, rfl⟩
  · obtain ⟨j, rfl, _⟩ := inr x hx
    exact decide_eq_true (by omega)
  · refine pm.nodup_iff.mpr ?_
    rw [List.Nodup, List.pairwise_map]
    exact List.Pairwise.imp (fun {a b} h e => h (by cases e; rfl)) (List.nodup_range (n := n))
theorem _root_.Sw.Al.nw {H H2 : Hp} {p q : Addr} {o : HO} (a : Al H p o H2) (h : Well H q) : p ≠ q := by
  obtain ⟨x0, x1, x2, e⟩ := h
  exact a.ne e
theorem wide19 : CPow 10 19 := ⟨by decide, by decide, by decide⟩
section
variable {P : Program} {w : World} {K : Fg} {mg : Str → Option Value} {base : Heap}
theorem ok__law_orders_right (T : Tx K mg w) (c_is_order : Cal P w K mg base 3 "is_order" ["thing"] (sp_is_order K)) (c__law_draw : Cal P w K mg base 1 "_law_draw" ["well", "many"] (sp__law_draw K)) (c__law_order : Cal P w K mg base 2 "_law_order" ["well", "many"] (sp__law_order K)) (c__law_bad_number : Cal P w K mg base 2 "_law_bad_number" ["well", "last"] (sp__law_bad_number K)) (c__law_bad_order : Cal P w K mg base 3 "_law_bad_order" ["well"] (sp__law_bad_order K)) (c__law_is : Cal P w K mg base 10 "_law_is" ["door", "things", "word", "thing"] (sp__law_is K))  : Cal P w K mg base 11 "_law_orders_right" ["well"] (sp__law_orders_right K) := by
  refine cal_mk T.F__law_orders_right T.g__law_orders_right sc__law_orders_right (len1 _) (fun _ _ _ _ _ _ us hl => match us, hl with | [_], _ => rfl) (fun cdv A outer s H vs Q E hr h => ?_)
  obtain ⟨v0, rfl, h⟩ := h
  have hu := hu_of hr
  refine ⟨_, (pss_cons (ps_set (i := 1) sc__law_orders_right.nd rfl (Or.inl rfl) (pe_cal c__law_draw hr (by decide) passL rfl (pa_cons (pv 0) (pa_cons pe_int pa_nil))))
      (pss_cons (ps_set (i := 2) sc__law_orders_right.nd rfl (Or.inl rfl) (pe_cal c__law_bad_number hr (by decide) passL rfl (pa_cons (pv 0) (pa_cons pe_int pa_nil))))
      (pss_cons (ps_set (i := 3) sc__law_orders_right.nd rfl (Or.inl rfl) (pe_cal c__law_bad_number hr (by decide) passL rfl (pa_cons (pv 0) (pa_cons pe_int pa_nil))))
      (pss_cons (ps_if (PW.pt (pw_or (pt_not (pt_val (pe_cal c__law_is hr (by decide) passL rfl (pa_cons pe_str (pa_cons (pe_lstA (pa_cons (pv 2) pa_nil)) (pa_cons pe_str (pa_cons (pv 2) pa_nil))))))) (pw_or1 (pt_not (pt_val (pe_cal c__law_is hr (by decide) passL rfl (pa_cons pe_str (pa_cons (pe_lstA (pa_cons (pv 2) (pa_cons (pv 3) pa_nil))) (pa_cons pe_str (pa_cons (pv 2) pa_nil)))))))))) (pss_one (ps_ret pe_bl)) pss_nil)
      (pss_cons (ps_set (i := 2) sc__law_orders_right.nd rfl (Or.inl rfl) (pe_cal c__law_bad_number hr (by decide) passL rfl (pa_cons (pv 0) (pa_cons (pe_op op_pow pe_int pe_int) pa_nil))))
      (pss_cons (ps_if (PW.pt (pw_or (pt_not (pt_val (pe_cal c__law_is hr (by decide) passL rfl (pa_cons pe_str (pa_cons (pe_lstA (pa_cons (pv 1) (pa_cons (pv 2) pa_nil))) (pa_cons pe_str (pa_cons (pv 2) pa_nil))))))) (pw_or1 (pt_not (pt_val (pe_cal c__law_is hr (by decide) passL rfl (pa_cons pe_str (pa_cons (pe_lstA (pa_cons (pv 1) (pa_cons pe_int pa_nil))) (pa_cons pe_str (pa_cons pe_non pa_nil)))))))))) (pss_one (ps_ret pe_bl)) pss_nil)
      (pss_cons (ps_set (i := 2) sc__law_orders_right.nd rfl (Or.inl rfl) (pe_cal c__law_bad_order hr (by decide) passL rfl (pa_cons (pv 0) pa_nil)))
      (pss_cons (ps_if (PW.pt (pw_or (pt_cmpR op_notBl (pe_cal c_is_order hr (by decide) passL rfl (pa_cons (pv 2) pa_nil)) pe_bl (nomark _)) (pw_or1 (pt_cmpR op_notBl (pe_cal c_is_order hr (by decide) passL rfl (pa_cons (pe_cal c__law_order hr (by decide) passL rfl (pa_cons (pv 0) (pa_cons (pv 1) pa_nil))) pa_nil)) pe_bl (nomark _))))) (pss_one (ps_ret pe_bl)) pss_nil)
      (pss_cons (ps_for (passes_of rfl) rfl (pi_q (pe_lstA (pa_cons pe_str (pa_cons pe_str (pa_cons pe_str (pa_cons pe_str pa_nil)))))) (pg_name (i := 4) sc__law_orders_right.nd rfl (Or.inl rfl)) (pss_one (ps_if (pt_not (pt_val (pe_cal c__law_is hr (by decide) passL rfl (pa_cons (pv 4) (pa_cons (pe_lstA (pa_cons (pv 2) pa_nil)) (pa_cons pe_str (pa_cons (pv 2) pa_nil))))))) (pss_one (ps_ret pe_bl)) pss_nil)))
      (pss_cons (ps_set (i := 5) sc__law_orders_right.nd rfl (Or.inl rfl) (pe_cal c__law_order hr (by decide) passL rfl (pa_cons (pv 0) (pa_cons (pe_op op_add pe_int (pe_cal c__law_draw hr (by decide) passL rfl (pa_cons (pv 0) (pa_cons pe_int pa_nil)))) pa_nil))))
      (pss_cons (ps_if (PW.pt (pw_or (pt_not (pt_val (pe_cal c__law_is hr (by decide) passL rfl (pa_cons pe_str (pa_cons (pe_lstA (pa_cons (pv 5) pa_nil)) (pa_cons pe_str (pa_cons (pv 5) pa_nil))))))) (pw_or1 (pt_not (pt_val (pe_cal c__law_is hr (by decide) passL rfl (pa_cons pe_str (pa_cons (pe_lstA (pa_cons (pv 5) pa_nil)) (pa_cons pe_str (pa_cons pe_non pa_nil)))))))))) (pss_one (ps_ret pe_bl)) pss_nil)
      (pss_cons (ps_set (i := 6) sc__law_orders_right.nd rfl (Or.inl rfl) (pe_op op_repAl (pe_lstA (pa_cons pe_str pa_nil)) (pe_op op_add pe_int (pe_cal c__law_draw hr (by decide) passL rfl (pa_cons (pv 0) (pa_cons pe_int pa_nil))))))
      (pss_cons (ps_set (i := 7) sc__law_orders_right.nd rfl (Or.inl rfl) (pe_cal c__law_order hr (by decide) passL rfl (pa_cons (pv 0) (pa_cons (pe_cal c__law_draw hr (by decide) passL rfl (pa_cons (pv 0) (pa_cons (pe_callB len_q (by rfl) T.n_len (by decide +kernel) (pa_cons (pv 6) pa_nil)) pa_nil))) pa_nil))))
      (pss_cons (ps_set (i := 8) sc__law_orders_right.nd rfl (Or.inl rfl) (pe_lstA (pa_cons pe_int pa_nil)))
      (pss_cons (ps_if (PW.pt (pw_or (pt_not (pt_val (pe_cal c__law_is hr (by decide) passL rfl (pa_cons pe_str (pa_cons (pe_lstA (pa_cons (pv 6) (pa_cons (pv 7) pa_nil))) (pa_cons pe_str (pa_cons (pv 7) pa_nil))))))) (pw_or1 (pt_not (pt_val (pe_cal c__law_is hr (by decide) passL rfl (pa_cons pe_str (pa_cons (pe_lstA (pa_cons (pe_lstA pa_nil) (pa_cons (pv 8) pa_nil))) (pa_cons pe_str (pa_cons (pv 8) pa_nil)))))))))) (pss_one (ps_ret pe_bl)) pss_nil)
      (pss_cons (ps_if (PW.pt (pw_or (pt_not (pt_val (pe_cal c__law_is hr (by decide) passL rfl (pa_cons pe_str (pa_cons (pe_lstA (pa_cons (pv 6) (pa_cons (pv 2) pa_nil))) (pa_cons pe_str (pa_cons (pv 2) pa_nil))))))) (pw_or1 (pt_not (pt_val (pe_cal c__law_is hr (by decide) passL rfl (pa_cons pe_str (pa_cons (pe_lstA (pa_cons (pv 6) (pa_cons (pv 5) pa_nil))) (pa_cons pe_str (pa_cons (pv 5) pa_nil)))))))))) (pss_one (ps_ret pe_bl)) pss_nil)
      (pss_cons (ps_set (i := 9) sc__law_orders_right.nd rfl (Or.inl rfl) (pe_lstA pa_nil))
      (pss_one (ps_ret (pe_and (pe_cal c__law_is hr (by decide) passL rfl (pa_cons pe_str (pa_cons (pe_lstA (pa_cons (pe_tupA pa_nil) pa_nil)) (pa_cons pe_str (pa_cons (pe_tupA pa_nil) pa_nil))))) (pe_and (pe_cal c__law_is hr (by decide) passL rfl (pa_cons pe_str (pa_cons (pe_lstA (pa_cons (pv 9) pa_nil)) (pa_cons pe_str (pa_cons (pv 9) pa_nil))))) (pe_one (pe_cmpR op_isBl (pe_cal c_is_order hr (by decide) passL rfl (pa_cons (pe_lstA pa_nil) pa_nil)) pe_bl (nomark _)))))))))))))))))))))))), ?_⟩
  obtain ⟨p, rfl, hw, q⟩ := h
  refine seqI fun r hr => ?_
  simp only [and_assoc, rst, rs, re, ra, rq, rx, ro, rl, rl2, rsp, rz, rix, rln, rg, rd, ri, rv, rk, rdd, rwi, at0, at1, at2, at3, upd_at, List.getElem?_cons_zero, List.getElem?_cons_succ, Option.some.injEq, exists_eq_left', exists_eq_left, List.set_cons_zero, List.set_cons_succ, true_and, and_true, HO.lst.injEq, HO.tup.injEq, exists_and_left, exists_eq, exists_eq', Br.t, Br.f, Be.t, Be.f, List.cons.injEq, List.append_nil, scal, if_true, if_false, ite_true, ite_false, eq_self_iff_true, decide_true, decide_false, Bool.not_true, Bool.not_false, reduceIte, List.nil_append, List.cons_append, reduceCtorEq, false_and, exists_false, false_or, or_false, Int.reduceLT, rnb, ral, rsq, rlu, rdp, Bool.true_or, Bool.false_or, Bool.or_false, Bool.or_true]
  refine draw_ok hw (by decide) (by decide) fun m G1 m0 m1 W1 => ?_
  subst hr
  refine seqI fun r hr => ?_
  simp only [and_assoc, rst, rs, re, ra, rq, rx, ro, rl, rl2, rsp, rz, rix, rln, rg, rd, ri, rv, rk, rdd, rwi, at0, at1, at2, at3, upd_at, List.getElem?_cons_zero, List.getElem?_cons_succ, Option.some.injEq, exists_eq_left', exists_eq_left, List.set_cons_zero, List.set_cons_succ, true_and, and_true, HO.lst.injEq, HO.tup.injEq, exists_and_left, exists_eq, exists_eq', Br.t, Br.f, Be.t, Be.f, List.cons.injEq, List.append_nil, scal, if_true, if_false, ite_true, ite_false, eq_self_iff_true, decide_true, decide_false, Bool.not_true, Bool.not_false, reduceIte, List.nil_append, List.cons_append, reduceCtorEq, false_and, exists_false, false_or, or_false, Int.reduceLT, rnb, ral, rsq, rlu, rdp, Bool.true_or, Bool.false_or, Bool.or_false, Bool.or_true]
  refine badn_ok W1.1 (by decide) (by decide) fun bad G2 W2 b2 => ?_
  subst hr
  refine seqI fun r hr => ?_
  simp only [and_assoc, rst, rs, re, ra, rq, rx, ro, rl, rl2, rsp, rz, rix, rln, rg, rd, ri, rv, rk, rdd, rwi, at0, at1, at2, at3, upd_at, List.getElem?_cons_zero, List.getElem?_cons_succ, Option.some.injEq, exists_eq_left', exists_eq_left, List.set_cons_zero, List.set_cons_succ, true_and, and_true, HO.lst.injEq, HO.tup.injEq, exists_and_left, exists_eq, exists_eq', Br.t, Br.f, Be.t, Be.f, List.cons.injEq, List.append_nil, scal, if_true, if_false, ite_true, ite_false, eq_self_iff_true, decide_true, decide_false, Bool.not_true, Bool.not_false, reduceIte, List.nil_append, List.cons_append, reduceCtorEq, false_and, exists_false, false_or, or_false, Int.reduceLT, rnb, ral, rsq, rlu, rdp, Bool.true_or, Bool.false_or, Bool.or_false, Bool.or_true]
  refine badn_ok W2.1 (by decide) (by decide) fun beh G3 W3 b3 => ?_
  have b2 : BadN (wo p G3) 20 bad := ⟨b2.1.same W3.2, b2.2⟩
  subst hr
  refine seqI fun r hr => ?_
  simp only [and_assoc, rst, rs, re, ra, rq, rx, ro, rl, rl2, rsp, rz, rix, rln, rg, rd, ri, rv, rk, rdd, rwi, at0, at1, at2, at3, upd_at, List.getElem?_cons_zero, List.getElem?_cons_succ, Option.some.injEq, exists_eq_left', exists_eq_left, List.set_cons_zero, List.set_cons_succ, true_and, and_true, HO.lst.injEq, HO.tup.injEq, exists_and_left, exists_eq, exists_eq', Br.t, Br.f, Be.t, Be.f, List.cons.injEq, List.append_nil, scal, if_true, if_false, ite_true, ite_false, eq_self_iff_true, decide_true, decide_false, Bool.not_true, Bool.not_false, reduceIte, List.nil_append, List.cons_append, reduceCtorEq, false_and, exists_false, false_or, or_false, Int.reduceLT, rnb, ral, rsq, rlu, rdp, Bool.true_or, Bool.false_or, Bool.or_false, Bool.or_true]
  have W := (W1.trans W2).trans W3
  refine fun p1 H1 a1 => is_num (G := wo p G3) (Same.trans wo_same a1.s) (.inl (.orders b2.1.ty (badN_w b2 (by decide)))) a1.e b2.1 fun H2 s2 => ?_
  simp only [and_assoc, rst, rs, re, ra, rq, rx, ro, rl, rl2, rsp, rz, rix, rln, rg, rd, ri, rv, rk, rdd, rwi, at0, at1, at2, at3, upd_at, List.getElem?_cons_zero, List.getElem?_cons_succ, Option.some.injEq, exists_eq_left', exists_eq_left, List.set_cons_zero, List.set_cons_succ, true_and, and_true, HO.lst.injEq, HO.tup.injEq, exists_and_left, exists_eq, exists_eq', Br.t, Br.f, Be.t, Be.f, List.cons.injEq, List.append_nil, scal, if_true, if_false, ite_true, ite_false, eq_self_iff_true, decide_true, decide_false, Bool.not_true, Bool.not_false, reduceIte, List.nil_append, List.cons_append, reduceCtorEq, false_and, exists_false, false_or, or_false, Int.reduceLT, rnb, ral, rsq, rlu, rdp, Bool.true_or, Bool.false_or, Bool.or_false, Bool.or_true]
  refine fun p3 H3 a3 => is_num (G := wo p G3) (Same.trans wo_same (Same.trans a1.s (Same.trans s2 a3.s))) (.inl (.at1 b2.1.ty b3.1.ty (badN_w b2 (by decide)))) a3.e b2.1 fun H4 s4 => ?_
  simp only [and_assoc, rst, rs, re, ra, rq, rx, ro, rl, rl2, rsp, rz, rix, rln, rg, rd, ri, rv, rk, rdd, rwi, at0, at1, at2, at3, upd_at, List.getElem?_cons_zero, List.getElem?_cons_succ, Option.some.injEq, exists_eq_left', exists_eq_left, List.set_cons_zero, List.set_cons_succ, true_and, and_true, HO.lst.injEq, HO.tup.injEq, exists_and_left, exists_eq, exists_eq', Br.t, Br.f, Be.t, Be.f, List.cons.injEq, List.append_nil, scal, if_true, if_false, ite_true, ite_false, eq_self_iff_true, decide_true, decide_false, Bool.not_true, Bool.not_false, reduceIte, List.nil_append, List.cons_append, reduceCtorEq, false_and, exists_false, false_or, or_false, Int.reduceLT, rnb, ral, rsq, rlu, rdp, Bool.true_or, Bool.false_or, Bool.or_false, Bool.or_true]
  have W := W.trans (Wl.of_same W3.1 (Same.trans a1.s (Same.trans s2 (Same.trans a3.s s4))))
  clear b2 b3 W1 W2 W3 a1 s2 a3 s4
  subst hr
  refine seqI fun r hr => ?_
  simp only [and_assoc, rst, rs, re, ra, rq, rx, ro, rl, rl2, rsp, rz, rix, rln, rg, rd, ri, rv, rk, rdd, rwi, at0, at1, at2, at3, upd_at, List.getElem?_cons_zero, List.getElem?_cons_succ, Option.some.injEq, exists_eq_left', exists_eq_left, List.set_cons_zero, List.set_cons_succ, true_and, and_true, HO.lst.injEq, HO.tup.injEq, exists_and_left, exists_eq, exists_eq', Br.t, Br.f, Be.t, Be.f, List.cons.injEq, List.append_nil, scal, if_true, if_false, ite_true, ite_false, eq_self_iff_true, decide_true, decide_false, Bool.not_true, Bool.not_false, reduceIte, List.nil_append, List.cons_append, reduceCtorEq, false_and, exists_false, false_or, or_false, Int.reduceLT, rnb, ral, rsq, rlu, rdp, Bool.true_or, Bool.false_or, Bool.or_false, Bool.or_true]
  refine ⟨wide19, badn_ok W.1 (by decide) (by decide) fun bad G5 W5 b5 => ?_⟩
  subst hr
  refine seqI fun r hr => ?_
  simp only [and_assoc, rst, rs, re, ra, rq, rx, ro, rl, rl2, rsp, rz, rix, rln, rg, rd, ri, rv, rk, rdd, rwi, at0, at1, at2, at3, upd_at, List.getElem?_cons_zero, List.getElem?_cons_succ, Option.some.injEq, exists_eq_left', exists_eq_left, List.set_cons_zero, List.set_cons_succ, true_and, and_true, HO.lst.injEq, HO.tup.injEq, exists_and_left, exists_eq, exists_eq', Br.t, Br.f, Be.t, Be.f, List.cons.injEq, List.append_nil, scal, if_true, if_false, ite_true, ite_false, eq_self_iff_true, decide_true, decide_false, Bool.not_true, Bool.not_false, reduceIte, List.nil_append, List.cons_append, reduceCtorEq, false_and, exists_false, false_or, or_false, Int.reduceLT, rnb, ral, rsq, rlu, rdp, Bool.true_or, Bool.false_or, Bool.or_false, Bool.or_true]
  obtain ⟨k, rfl⟩ : ∃ k : Nat, m = (k : Int) := ⟨m.toNat, by omega⟩
  have k20 : k ≤ 20 := by omega
  have kf := fac_small k k20
  refine fun p1 H1 a1 => is_num (G := wo p G5) (Same.trans wo_same a1.s) (.inl (.at2 k20 b5.1.ty (badN_w b5 (Int.le_trans (by omega : fac k - 1 ≤ 2 ^ 62) (by decide))))) a1.e b5.1 fun H2 s2 => ?_
  simp only [and_assoc, rst, rs, re, ra, rq, rx, ro, rl, rl2, rsp, rz, rix, rln, rg, rd, ri, rv, rk, rdd, rwi, at0, at1, at2, at3, upd_at, List.getElem?_cons_zero, List.getElem?_cons_succ, Option.some.injEq, exists_eq_left', exists_eq_left, List.set_cons_zero, List.set_cons_succ, true_and, and_true, HO.lst.injEq, HO.tup.injEq, exists_and_left, exists_eq, exists_eq', Br.t, Br.f, Be.t, Be.f, List.cons.injEq, List.append_nil, scal, if_true, if_false, ite_true, ite_false, eq_self_iff_true, decide_true, decide_false, Bool.not_true, Bool.not_false, reduceIte, List.nil_append, List.cons_append, reduceCtorEq, false_and, exists_false, false_or, or_false, Int.reduceLT, rnb, ral, rsq, rlu, rdp, Bool.true_or, Bool.false_or, Bool.or_false, Bool.or_true]
  refine fun p3 H3 a3 => is_let (G := H3) (fun _ _ e => e) (.inl (.at3 k20)) a3.e fun H6 s6 => ?_
  simp only [and_assoc, rst, rs, re, ra, rq, rx, ro, rl, rl2, rsp, rz, rix, rln, rg, rd, ri, rv, rk, rdd, rwi, at0, at1, at2, at3, upd_at, List.getElem?_cons_zero, List.getElem?_cons_succ, Option.some.injEq, exists_eq_left', exists_eq_left, List.set_cons_zero, List.set_cons_succ, true_and, and_true, HO.lst.injEq, HO.tup.injEq, exists_and_left, exists_eq, exists_eq', Br.t, Br.f, Be.t, Be.f, List.cons.injEq, List.append_nil, scal, if_true, if_false, ite_true, ite_false, eq_self_iff_true, decide_true, decide_false, Bool.not_true, Bool.not_false, reduceIte, List.nil_append, List.cons_append, reduceCtorEq, false_and, exists_false, false_or, or_false, Int.reduceLT, rnb, ral, rsq, rlu, rdp, Bool.true_or, Bool.false_or, Bool.or_false, Bool.or_true]
  have W := W.trans (W5.trans (Wl.of_same W5.1 (Same.trans a1.s (Same.trans s2 (Same.trans a3.s s6)))))
  clear b5 W5 a1 s2 a3 s6
  subst hr
  refine seqI fun r hr => ?_
  simp only [and_assoc, rst, rs, re, ra, rq, rx, ro, rl, rl2, rsp, rz, rix, rln, rg, rd, ri, rv, rk, rdd, rwi, at0, at1, at2, at3, upd_at, List.getElem?_cons_zero, List.getElem?_cons_succ, Option.some.injEq, exists_eq_left', exists_eq_left, List.set_cons_zero, List.set_cons_succ, true_and, and_true, HO.lst.injEq, HO.tup.injEq, exists_and_left, exists_eq, exists_eq', Br.t, Br.f, Be.t, Be.f, List.cons.injEq, List.append_nil, scal, if_true, if_false, ite_true, ite_false, eq_self_iff_true, decide_true, decide_false, Bool.not_true, Bool.not_false, reduceIte, List.nil_append, List.cons_append, reduceCtorEq, false_and, exists_false, false_or, or_false, Int.reduceLT, rnb, ral, rsq, rlu, rdp, Bool.true_or, Bool.false_or, Bool.or_false, Bool.or_true]
  refine ⟨_, rfl, p, rfl, W.1, fun bad G7 W7 n7 o7 => ?_⟩
  subst hr
  refine seqI fun r hr => ?_
  simp only [and_assoc, rst, rs, re, ra, rq, rx, ro, rl, rl2, rsp, rz, rix, rln, rg, rd, ri, rv, rk, rdd, rwi, at0, at1, at2, at3, upd_at, List.getElem?_cons_zero, List.getElem?_cons_succ, Option.some.injEq, exists_eq_left', exists_eq_left, List.set_cons_zero, List.set_cons_succ, true_and, and_true, HO.lst.injEq, HO.tup.injEq, exists_and_left, exists_eq, exists_eq', Br.t, Br.f, Be.t, Be.f, List.cons.injEq, List.append_nil, scal, if_true, if_false, ite_true, ite_false, eq_self_iff_true, decide_true, decide_false, Bool.not_true, Bool.not_false, reduceIte, List.nil_append, List.cons_append, reduceCtorEq, false_and, exists_false, false_or, or_false, Int.reduceLT, rnb, ral, rsq, rlu, rdp, Bool.true_or, Bool.false_or, Bool.or_false, Bool.or_true]
  refine ⟨_, rfl, false, o7.same wo_same, fun H8 s8 => ?_⟩
  simp only [and_assoc, rst, rs, re, ra, rq, rx, ro, rl, rl2, rsp, rz, rix, rln, rg, rd, ri, rv, rk, rdd, rwi, at0, at1, at2, at3, upd_at, List.getElem?_cons_zero, List.getElem?_cons_succ, Option.some.injEq, exists_eq_left', exists_eq_left, List.set_cons_zero, List.set_cons_succ, true_and, and_true, HO.lst.injEq, HO.tup.injEq, exists_and_left, exists_eq, exists_eq', Br.t, Br.f, Be.t, Be.f, List.cons.injEq, List.append_nil, scal, if_true, if_false, ite_true, ite_false, eq_self_iff_true, decide_true, decide_false, Bool.not_true, Bool.not_false, reduceIte, List.nil_append, List.cons_append, reduceCtorEq, false_and, exists_false, false_or, or_false, Int.reduceLT, rnb, ral, rsq, rlu, rdp, Bool.true_or, Bool.false_or, Bool.or_false, Bool.or_true]
  refine ⟨_, _, rfl, p, k, rfl, Well.same s8 W7.1, rfl, by omega, fun l ms H9 W9 f9 h9 pm => ?_⟩
  refine ⟨_, rfl, true, perm_ord pm (by omega) h9, fun H10 s10 => ?_⟩
  simp only [and_assoc, rst, rs, re, ra, rq, rx, ro, rl, rl2, rsp, rz, rix, rln, rg, rd, ri, rv, rk, rdd, rwi, at0, at1, at2, at3, upd_at, List.getElem?_cons_zero, List.getElem?_cons_succ, Option.some.injEq, exists_eq_left', exists_eq_left, List.set_cons_zero, List.set_cons_succ, true_and, and_true, HO.lst.injEq, HO.tup.injEq, exists_and_left, exists_eq, exists_eq', Br.t, Br.f, Be.t, Be.f, List.cons.injEq, List.append_nil, scal, if_true, if_false, ite_true, ite_false, eq_self_iff_true, decide_true, decide_false, Bool.not_true, Bool.not_false, reduceIte, List.nil_append, List.cons_append, reduceCtorEq, false_and, exists_false, false_or, or_false, Int.reduceLT, rnb, ral, rsq, rlu, rdp, Bool.true_or, Bool.false_or, Bool.or_false, Bool.or_true]
  have T := ((Wl.of_same W7.1 s8).trans W9).trans (Wl.of_same W9.1 s10)
  have n7 := n7.same T.2
  have o7 := o7.same T.2
  have W := W.trans (W7.trans T)
  clear T W7 s8 W9 f9 h9 pm s10
  subst hr
  refine seqI fun r hr => ?_
  simp only [and_assoc, rst, rs, re, ra, rq, rx, ro, rl, rl2, rsp, rz, rix, rln, rg, rd, ri, rv, rk, rdd, rwi, at0, at1, at2, at3, upd_at, List.getElem?_cons_zero, List.getElem?_cons_succ, Option.some.injEq, exists_eq_left', exists_eq_left, List.set_cons_zero, List.set_cons_succ, true_and, and_true, HO.lst.injEq, HO.tup.injEq, exists_and_left, exists_eq, exists_eq', Br.t, Br.f, Be.t, Be.f, List.cons.injEq, List.append_nil, scal, if_true, if_false, ite_true, ite_false, eq_self_iff_true, decide_true, decide_false, Bool.not_true, Bool.not_false, reduceIte, List.nil_append, List.cons_append, reduceCtorEq, false_and, exists_false, false_or, or_false, Int.reduceLT, rnb, ral, rsq, rlu, rdp, Bool.true_or, Bool.false_or, Bool.or_false, Bool.or_true]
  refine fun p1 H1 a1 => ⟨_, a1.e, _, rfl, ?_⟩
  refine FI.seq rfl (fun i σ H' => ∃ v8, Same H1 H' ∧ σ = [some (.ref p), some (.int k), some bad, some beh, v8, none, none, none, none, none]) ⟨none, fun _ _ e => e, rfl⟩ (fun i σ H' _ ⟨_, s, _⟩ => s _ _ a1.e) ?_ ?_
  · rintro i x σ H' hx ⟨v8, s, rfl⟩
    have hm := List.mem_of_getElem? hx
    simp only [List.mem_cons, List.not_mem_nil, or_false] at hm
    have o10 := o7.same (Same.trans (Same.trans wo_same a1.s) s)
    have n10 := n7.same (Same.trans (Same.trans wo_same a1.s) s)
    have all : DD H' "rank" [bad] (some ("NoOrder", bad)) ∧ DD H' "next" [bad] (some ("NoOrder", bad)) ∧ DD H' "turned" [bad] (some ("NoOrder", bad)) ∧ DD H' "back" [bad] (some ("NoOrder", bad)) :=
      ⟨.inl (.rank o10 nofun), .inl (.next1 o10), .inl (.turned o10), .inl (.back o10 nofun)⟩
    simp only [and_assoc, rst, rs, re, ra, rq, rx, ro, rl, rl2, rsp, rz, rix, rln, rg, rd, ri, rv, rk, rdd, rwi, at0, at1, at2, at3, upd_at, List.getElem?_cons_zero, List.getElem?_cons_succ, Option.some.injEq, exists_eq_left', exists_eq_left, List.set_cons_zero, List.set_cons_succ, true_and, and_true, HO.lst.injEq, HO.tup.injEq, exists_and_left, exists_eq, exists_eq', Br.t, Br.f, Be.t, Be.f, List.cons.injEq, List.append_nil, scal, if_true, if_false, ite_true, ite_false, eq_self_iff_true, decide_true, decide_false, Bool.not_true, Bool.not_false, reduceIte, List.nil_append, List.cons_append, reduceCtorEq, false_and, exists_false, false_or, or_false, Int.reduceLT, rnb, ral, rsq, rlu, rdp, Bool.true_or, Bool.false_or, Bool.or_false, Bool.or_true]
    rcases hm with rfl | rfl | rfl | rfl
    · refine fun p2 H2 a2 => is_ord a2.s all.1 a2.e n10 fun H3 s3 => ?_
      simp only [and_assoc, rst, rs, re, ra, rq, rx, ro, rl, rl2, rsp, rz, rix, rln, rg, rd, ri, rv, rk, rdd, rwi, at0, at1, at2, at3, upd_at, List.getElem?_cons_zero, List.getElem?_cons_succ, Option.some.injEq, exists_eq_left', exists_eq_left, List.set_cons_zero, List.set_cons_succ, true_and, and_true, HO.lst.injEq, HO.tup.injEq, exists_and_left, exists_eq, exists_eq', Br.t, Br.f, Be.t, Be.f, List.cons.injEq, List.append_nil, scal, if_true, if_false, ite_true, ite_false, eq_self_iff_true, decide_true, decide_false, Bool.not_true, Bool.not_false, reduceIte, List.nil_append, List.cons_append, reduceCtorEq, false_and, exists_false, false_or, or_false, Int.reduceLT, rnb, ral, rsq, rlu, rdp, Bool.true_or, Bool.false_or, Bool.or_false, Bool.or_true]
      exact Same.trans s (Same.trans a2.s s3)
    · refine fun p2 H2 a2 => is_ord a2.s all.2.1 a2.e n10 fun H3 s3 => ?_
      simp only [and_assoc, rst, rs, re, ra, rq, rx, ro, rl, rl2, rsp, rz, rix, rln, rg, rd, ri, rv, rk, rdd, rwi, at0, at1, at2, at3, upd_at, List.getElem?_cons_zero, List.getElem?_cons_succ, Option.some.injEq, exists_eq_left', exists_eq_left, List.set_cons_zero, List.set_cons_succ, true_and, and_true, HO.lst.injEq, HO.tup.injEq, exists_and_left, exists_eq, exists_eq', Br.t, Br.f, Be.t, Be.f, List.cons.injEq, List.append_nil, scal, if_true, if_false, ite_true, ite_false, eq_self_iff_true, decide_true, decide_false, Bool.not_true, Bool.not_false, reduceIte, List.nil_append, List.cons_append, reduceCtorEq, false_and, exists_false, false_or, or_false, Int.reduceLT, rnb, ral, rsq, rlu, rdp, Bool.true_or, Bool.false_or, Bool.or_false, Bool.or_true]
      exact Same.trans s (Same.trans a2.s s3)
    · refine fun p2 H2 a2 => is_ord a2.s all.2.2.1 a2.e n10 fun H3 s3 => ?_
      simp only [and_assoc, rst, rs, re, ra, rq, rx, ro, rl, rl2, rsp, rz, rix, rln, rg, rd, ri, rv, rk, rdd, rwi, at0, at1, at2, at3, upd_at, List.getElem?_cons_zero, List.getElem?_cons_succ, Option.some.injEq, exists_eq_left', exists_eq_left, List.set_cons_zero, List.set_cons_succ, true_and, and_true, HO.lst.injEq, HO.tup.injEq, exists_and_left, exists_eq, exists_eq', Br.t, Br.f, Be.t, Be.f, List.cons.injEq, List.append_nil, scal, if_true, if_false, ite_true, ite_false, eq_self_iff_true, decide_true, decide_false, Bool.not_true, Bool.not_false, reduceIte, List.nil_append, List.cons_append, reduceCtorEq, false_and, exists_false, false_or, or_false, Int.reduceLT, rnb, ral, rsq, rlu, rdp, Bool.true_or, Bool.false_or, Bool.or_false, Bool.or_true]
      exact Same.trans s (Same.trans a2.s s3)
    · refine fun p2 H2 a2 => is_ord a2.s all.2.2.2 a2.e n10 fun H3 s3 => ?_
      simp only [and_assoc, rst, rs, re, ra, rq, rx, ro, rl, rl2, rsp, rz, rix, rln, rg, rd, ri, rv, rk, rdd, rwi, at0, at1, at2, at3, upd_at, List.getElem?_cons_zero, List.getElem?_cons_succ, Option.some.injEq, exists_eq_left', exists_eq_left, List.set_cons_zero, List.set_cons_succ, true_and, and_true, HO.lst.injEq, HO.tup.injEq, exists_and_left, exists_eq, exists_eq', Br.t, Br.f, Be.t, Be.f, List.cons.injEq, List.append_nil, scal, if_true, if_false, ite_true, ite_false, eq_self_iff_true, decide_true, decide_false, Bool.not_true, Bool.not_false, reduceIte, List.nil_append, List.cons_append, reduceCtorEq, false_and, exists_false, false_or, or_false, Int.reduceLT, rnb, ral, rsq, rlu, rdp, Bool.true_or, Bool.false_or, Bool.or_false, Bool.or_true]
      exact Same.trans s (Same.trans a2.s s3)
  rintro σ H' ⟨v8, s, rfl⟩
  have T := (Wl.of_same W.1 (Same.trans a1.s s))
  have n7 := n7.same T.2
  have o7 := o7.same T.2
  have W := W.trans T
  clear T a1 s
  subst hr
  dsimp only
  refine seqI fun r hr => ?_
  simp only [and_assoc, rst, rs, re, ra, rq, rx, ro, rl, rl2, rsp, rz, rix, rln, rg, rd, ri, rv, rk, rdd, rwi, at0, at1, at2, at3, upd_at, List.getElem?_cons_zero, List.getElem?_cons_succ, Option.some.injEq, exists_eq_left', exists_eq_left, List.set_cons_zero, List.set_cons_succ, true_and, and_true, HO.lst.injEq, HO.tup.injEq, exists_and_left, exists_eq, exists_eq', Br.t, Br.f, Be.t, Be.f, List.cons.injEq, List.append_nil, scal, if_true, if_false, ite_true, ite_false, eq_self_iff_true, decide_true, decide_false, Bool.not_true, Bool.not_false, reduceIte, List.nil_append, List.cons_append, reduceCtorEq, false_and, exists_false, false_or, or_false, Int.reduceLT, rnb, ral, rsq, rlu, rdp, Bool.true_or, Bool.false_or, Bool.or_false, Bool.or_true]
  refine draw_ok W.1 (by decide) (by decide) fun d G1 d0 d1 W1 => ?_
  simp only [and_assoc, rst, rs, re, ra, rq, rx, ro, rl, rl2, rsp, rz, rix, rln, rg, rd, ri, rv, rk, rdd, rwi, at0, at1, at2, at3, upd_at, List.getElem?_cons_zero, List.getElem?_cons_succ, Option.some.injEq, exists_eq_left', exists_eq_left, List.set_cons_zero, List.set_cons_succ, true_and, and_true, HO.lst.injEq, HO.tup.injEq, exists_and_left, exists_eq, exists_eq', Br.t, Br.f, Be.t, Be.f, List.cons.injEq, List.append_nil, scal, if_true, if_false, ite_true, ite_false, eq_self_iff_true, decide_true, decide_false, Bool.not_true, Bool.not_false, reduceIte, List.nil_append, List.cons_append, reduceCtorEq, false_and, exists_false, false_or, or_false, Int.reduceLT, rnb, ral, rsq, rlu, rdp, Bool.true_or, Bool.false_or, Bool.or_false, Bool.or_true]
  refine ⟨_, _, rfl, p, 21 + d.toNat, rfl, W1.1, by rw [show ((21 + d.toNat : Nat) : Int) = 21 + d by omega], by omega, fun l ms G2 W2 f2 h2 pm => ?_⟩
  have nl : l ≠ p := fun e => by
    subst e
    obtain ⟨y0, y1, y2, e1⟩ := W1.1
    rw [f2] at e1
    cases e1
  have lm : ms.length = 21 + d.toNat := by rw [pm.length_eq, List.length_map, List.length_range]
  have hl : wo p G2 l = some (.lst ms) := (wo_at nl).trans h2
  have ol := perm_ord (H := wo p G2) pm (by omega) hl
  have ml : Nice (wo p G2) (.ref l) := .inl (.inr ⟨l, ms, rfl, .inl hl, fun x hx => by
    obtain ⟨j, hj, rfl⟩ := List.mem_map.mp (pm.mem_iff.mp hx)
    rfl, by omega⟩)
  have T := W1.trans W2
  have n7 := n7.same T.2
  have o7 := o7.same T.2
  have W := W.trans T
  clear T W1 f2 h2 pm
  subst hr
  refine seqI fun r hr => ?_
  simp only [and_assoc, rst, rs, re, ra, rq, rx, ro, rl, rl2, rsp, rz, rix, rln, rg, rd, ri, rv, rk, rdd, rwi, at0, at1, at2, at3, upd_at, List.getElem?_cons_zero, List.getElem?_cons_succ, Option.some.injEq, exists_eq_left', exists_eq_left, List.set_cons_zero, List.set_cons_succ, true_and, and_true, HO.lst.injEq, HO.tup.injEq, exists_and_left, exists_eq, exists_eq', Br.t, Br.f, Be.t, Be.f, List.cons.injEq, List.append_nil, scal, if_true, if_false, ite_true, ite_false, eq_self_iff_true, decide_true, decide_false, Bool.not_true, Bool.not_false, reduceIte, List.nil_append, List.cons_append, reduceCtorEq, false_and, exists_false, false_or, or_false, Int.reduceLT, rnb, ral, rsq, rlu, rdp, Bool.true_or, Bool.false_or, Bool.or_false, Bool.or_true]
  refine fun p1 H1 a1 => is_ord (G := wo p G2) (Same.trans wo_same a1.s) (.inl (.rank ol fun _ => ⟨ms, ⟨l, _, rfl, hl, rfl⟩, by omega⟩)) a1.e ml fun H2 s2 => ?_
  simp only [and_assoc, rst, rs, re, ra, rq, rx, ro, rl, rl2, rsp, rz, rix, rln, rg, rd, ri, rv, rk, rdd, rwi, at0, at1, at2, at3, upd_at, List.getElem?_cons_zero, List.getElem?_cons_succ, Option.some.injEq, exists_eq_left', exists_eq_left, List.set_cons_zero, List.set_cons_succ, true_and, and_true, HO.lst.injEq, HO.tup.injEq, exists_and_left, exists_eq, exists_eq', Br.t, Br.f, Be.t, Be.f, List.cons.injEq, List.append_nil, scal, if_true, if_false, ite_true, ite_false, eq_self_iff_true, decide_true, decide_false, Bool.not_true, Bool.not_false, reduceIte, List.nil_append, List.cons_append, reduceCtorEq, false_and, exists_false, false_or, or_false, Int.reduceLT, rnb, ral, rsq, rlu, rdp, Bool.true_or, Bool.false_or, Bool.or_false, Bool.or_true]
  refine fun p3 H3 a3 => is_let (G := wo p G2) (Same.trans wo_same (Same.trans a1.s (Same.trans s2 a3.s))) (.inl (.next2 ol)) a3.e fun H4 s4 => ?_
  simp only [and_assoc, rst, rs, re, ra, rq, rx, ro, rl, rl2, rsp, rz, rix, rln, rg, rd, ri, rv, rk, rdd, rwi, at0, at1, at2, at3, upd_at, List.getElem?_cons_zero, List.getElem?_cons_succ, Option.some.injEq, exists_eq_left', exists_eq_left, List.set_cons_zero, List.set_cons_succ, true_and, and_true, HO.lst.injEq, HO.tup.injEq, exists_and_left, exists_eq, exists_eq', Br.t, Br.f, Be.t, Be.f, List.cons.injEq, List.append_nil, scal, if_true, if_false, ite_true, ite_false, eq_self_iff_true, decide_true, decide_false, Bool.not_true, Bool.not_false, reduceIte, List.nil_append, List.cons_append, reduceCtorEq, false_and, exists_false, false_or, or_false, Int.reduceLT, rnb, ral, rsq, rlu, rdp, Bool.true_or, Bool.false_or, Bool.or_false, Bool.or_true]
  have T := Wl.of_same W.1 (Same.trans a1.s (Same.trans s2 (Same.trans a3.s s4)))
  have n7 := n7.same T.2
  have o7 := o7.same T.2
  have ol := ol.same T.2
  have ml := ml.same T.2
  have hl := T.2 _ _ hl
  have W := W.trans T
  clear T a1 s2 a3 s4
  subst hr
  refine seqI fun r hr => ?_
  simp only [and_assoc, rst, rs, re, ra, rq, rx, ro, rl, rl2, rsp, rz, rix, rln, rg, rd, ri, rv, rk, rdd, rwi, at0, at1, at2, at3, upd_at, List.getElem?_cons_zero, List.getElem?_cons_succ, Option.some.injEq, exists_eq_left', exists_eq_left, List.set_cons_zero, List.set_cons_succ, true_and, and_true, HO.lst.injEq, HO.tup.injEq, exists_and_left, exists_eq, exists_eq', Br.t, Br.f, Be.t, Be.f, List.cons.injEq, List.append_nil, scal, if_true, if_false, ite_true, ite_false, eq_self_iff_true, decide_true, decide_false, Bool.not_true, Bool.not_false, reduceIte, List.nil_append, List.cons_append, reduceCtorEq, false_and, exists_false, false_or, or_false, Int.reduceLT, rnb, ral, rsq, rlu, rdp, Bool.true_or, Bool.false_or, Bool.or_false, Bool.or_true]
  refine fun p1 H1 a1 => draw_ok (Well.same a1.s W.1) (by decide) (by decide) fun d G5 d0 d1 W5 => ?_
  refine ⟨d, rfl, _, W5.at (a1.nw W.1) a1.e, by omega, by omega, by rw [sizeLine_eq]; simp <;> omega, fun p2 H6 a6 => ?_⟩
  generalize hrs : (List.replicate (1 + d).toNat [V.str "a"]).flatten = rws at a6
  have lr : rws.length = (1 + d).toNat := by rw [← hrs]; simp
  have rl : wo p H6 p2 = some (.lst rws) := (wo_at (a6.nw W5.1)).trans a6.e
  have T := (Wl.of_same W.1 a1.s).trans (W5.trans (Wl.of_same W5.1 a6.s))
  have n7 := n7.same T.2
  have o7 := o7.same T.2
  have ol := ol.same T.2
  have ml := ml.same T.2
  have hl := T.2 _ _ hl
  have W := W.trans T
  clear T a1 W5 a6
  subst hr
  refine seqI fun r hr => ?_
  simp only [and_assoc, rst, rs, re, ra, rq, rx, ro, rl, rl2, rsp, rz, rix, rln, rg, rd, ri, rv, rk, rdd, rwi, at0, at1, at2, at3, upd_at, List.getElem?_cons_zero, List.getElem?_cons_succ, Option.some.injEq, exists_eq_left', exists_eq_left, List.set_cons_zero, List.set_cons_succ, true_and, and_true, HO.lst.injEq, HO.tup.injEq, exists_and_left, exists_eq, exists_eq', Br.t, Br.f, Be.t, Be.f, List.cons.injEq, List.append_nil, scal, if_true, if_false, ite_true, ite_false, eq_self_iff_true, decide_true, decide_false, Bool.not_true, Bool.not_false, reduceIte, List.nil_append, List.cons_append, reduceCtorEq, false_and, exists_false, false_or, or_false, Int.reduceLT, rnb, ral, rsq, rlu, rdp, Bool.true_or, Bool.false_or, Bool.or_false, Bool.or_true]
  refine ⟨_, wo_same _ _ rl, _, rfl, draw_ok W.1 (by omega) (by omega) fun c G7 c0 c1 W7 => ?_⟩
  refine ⟨_, _, rfl, p, c.toNat, rfl, W7.1, by rw [Int.toNat_of_nonneg c0], by omega, fun l2 ns G8 W8 f8 h8 pn => ?_⟩
  have nl2 : l2 ≠ p := fun e => by
    subst e
    obtain ⟨y0, y1, y2, e1⟩ := W7.1
    rw [f8] at e1
    cases e1
  have ln : ns.length = c.toNat := by rw [pn.length_eq, List.length_map, List.length_range]
  have hs : wo p G8 l2 = some (.lst ns) := (wo_at nl2).trans h8
  have os := perm_ord (H := wo p G8) pn (by omega) hs
  have ns2 : Nice (wo p G8) (.ref l2) := .inl (.inr ⟨l2, ns, rfl, .inl hs, fun x hx => by
    obtain ⟨j, hj, rfl⟩ := List.mem_map.mp (pn.mem_iff.mp hx)
    rfl, by omega⟩)
  have T := W7.trans W8
  have n7 := n7.same T.2
  have o7 := o7.same T.2
  have ol := ol.same T.2
  have ml := ml.same T.2
  have hl := T.2 _ _ hl
  have rl := T.2 _ _ rl
  have W := W.trans T
  clear T W7 W8 f8 h8 pn
  subst hr
  refine seqI fun r hr => ?_
  simp only [and_assoc, rst, rs, re, ra, rq, rx, ro, rl, rl2, rsp, rz, rix, rln, rg, rd, ri, rv, rk, rdd, rwi, at0, at1, at2, at3, upd_at, List.getElem?_cons_zero, List.getElem?_cons_succ, Option.some.injEq, exists_eq_left', exists_eq_left, List.set_cons_zero, List.set_cons_succ, true_and, and_true, HO.lst.injEq, HO.tup.injEq, exists_and_left, exists_eq, exists_eq', Br.t, Br.f, Be.t, Be.f, List.cons.injEq, List.append_nil, scal, if_true, if_false, ite_true, ite_false, eq_self_iff_true, decide_true, decide_false, Bool.not_true, Bool.not_false, reduceIte, List.nil_append, List.cons_append, reduceCtorEq, false_and, exists_false, false_or, or_false, Int.reduceLT, rnb, ral, rsq, rlu, rdp, Bool.true_or, Bool.false_or, Bool.or_false, Bool.or_true]
  refine fun p3 H9 a9 => ?_
  have fl : wo p H9 p3 = some (.lst [.int 0]) := (wo_at (a9.nw W.1)).trans a9.e
  have of := perm_ord (H := wo p H9) (n := 1) (List.Perm.refl _) (by decide) fl
  have nf : Nice (wo p H9) (.ref p3) := .inl (.inr ⟨p3, _, rfl, .inl fl, all_flat rfl, by simp⟩)
  have T := Wl.of_same W.1 a9.s
  have n7 := n7.same T.2
  have o7 := o7.same T.2
  have ol := ol.same T.2
  have ml := ml.same T.2
  have os := os.same T.2
  have ns2 := ns2.same T.2
  have hl := T.2 _ _ hl
  have rl := T.2 _ _ rl
  have hs := T.2 _ _ hs
  have W := W.trans T
  clear T a9
  have rq : Sq (wo p H9) (.ref p2) rws := ⟨p2, _, rfl, rl, rfl⟩
  subst hr
  refine seqI fun r hr => ?_
  simp only [and_assoc, rst, rs, re, ra, rq, rx, ro, rl, rl2, rsp, rz, rix, rln, rg, rd, ri, rv, rk, rdd, rwi, at0, at1, at2, at3, upd_at, List.getElem?_cons_zero, List.getElem?_cons_succ, Option.some.injEq, exists_eq_left', exists_eq_left, List.set_cons_zero, List.set_cons_succ, true_and, and_true, HO.lst.injEq, HO.tup.injEq, exists_and_left, exists_eq, exists_eq', Br.t, Br.f, Be.t, Be.f, List.cons.injEq, List.append_nil, scal, if_true, if_false, ite_true, ite_false, eq_self_iff_true, decide_true, decide_false, Bool.not_true, Bool.not_false, reduceIte, List.nil_append, List.cons_append, reduceCtorEq, false_and, exists_false, false_or, or_false, Int.reduceLT, rnb, ral, rsq, rlu, rdp, Bool.true_or, Bool.false_or, Bool.or_false, Bool.or_true]
  refine fun p1 H1 a1 => is_ord (G := wo p H9) (Same.trans wo_same a1.s) (.inl (.laid rq os fun _ => ⟨ns, ⟨l2, _, rfl, hs, rfl⟩, by omega⟩)) a1.e ns2 fun H2 s2 => ?_
  simp only [and_assoc, rst, rs, re, ra, rq, rx, ro, rl, rl2, rsp, rz, rix, rln, rg, rd, ri, rv, rk, rdd, rwi, at0, at1, at2, at3, upd_at, List.getElem?_cons_zero, List.getElem?_cons_succ, Option.some.injEq, exists_eq_left', exists_eq_left, List.set_cons_zero, List.set_cons_succ, true_and, and_true, HO.lst.injEq, HO.tup.injEq, exists_and_left, exists_eq, exists_eq', Br.t, Br.f, Be.t, Be.f, List.cons.injEq, List.append_nil, scal, if_true, if_false, ite_true, ite_false, eq_self_iff_true, decide_true, decide_false, Bool.not_true, Bool.not_false, reduceIte, List.nil_append, List.cons_append, reduceCtorEq, false_and, exists_false, false_or, or_false, Int.reduceLT, rnb, ral, rsq, rlu, rdp, Bool.true_or, Bool.false_or, Bool.or_false, Bool.or_true]
  refine fun p4 H3 a3 p5 H4 a4 => is_ord (G := H3) a4.s (.inl (.laid ⟨p4, _, rfl, a3.e, rfl⟩ (of.same (Same.trans wo_same (Same.trans a1.s (Same.trans s2 a3.s)))) fun _ => ⟨_, ⟨p3, _, rfl, (Same.trans wo_same (Same.trans a1.s (Same.trans s2 a3.s))) _ _ fl, rfl⟩, by simp⟩)) a4.e (nf.same (Same.trans wo_same (Same.trans a1.s (Same.trans s2 a3.s)))) fun H5 s5 => ?_
  simp only [and_assoc, rst, rs, re, ra, rq, rx, ro, rl, rl2, rsp, rz, rix, rln, rg, rd, ri, rv, rk, rdd, rwi, at0, at1, at2, at3, upd_at, List.getElem?_cons_zero, List.getElem?_cons_succ, Option.some.injEq, exists_eq_left', exists_eq_left, List.set_cons_zero, List.set_cons_succ, true_and, and_true, HO.lst.injEq, HO.tup.injEq, exists_and_left, exists_eq, exists_eq', Br.t, Br.f, Be.t, Be.f, List.cons.injEq, List.append_nil, scal, if_true, if_false, ite_true, ite_false, eq_self_iff_true, decide_true, decide_false, Bool.not_true, Bool.not_false, reduceIte, List.nil_append, List.cons_append, reduceCtorEq, false_and, exists_false, false_or, or_false, Int.reduceLT, rnb, ral, rsq, rlu, rdp, Bool.true_or, Bool.false_or, Bool.or_false, Bool.or_true]
  have T := Wl.of_same W.1 (Same.trans a1.s (Same.trans s2 (Same.trans a3.s (Same.trans a4.s s5))))
  have n7 := n7.same T.2
  have o7 := o7.same T.2
  have ol := ol.same T.2
  have ml := ml.same T.2
  have hl := T.2 _ _ hl
  have rq := rq.same T.2
  have W := W.trans T
  clear T a1 s2 a3 a4 s5
  subst hr
  refine seqI fun r hr => ?_
  simp only [and_assoc, rst, rs, re, ra, rq, rx, ro, rl, rl2, rsp, rz, rix, rln, rg, rd, ri, rv, rk, rdd, rwi, at0, at1, at2, at3, upd_at, List.getElem?_cons_zero, List.getElem?_cons_succ, Option.some.injEq, exists_eq_left', exists_eq_left, List.set_cons_zero, List.set_cons_succ, true_and, and_true, HO.lst.injEq, HO.tup.injEq, exists_and_left, exists_eq, exists_eq', Br.t, Br.f, Be.t, Be.f, List.cons.injEq, List.append_nil, scal, if_true, if_false, ite_true, ite_false, eq_self_iff_true, decide_true, decide_false, Bool.not_true, Bool.not_false, reduceIte, List.nil_append, List.cons_append, reduceCtorEq, false_and, exists_false, false_or, or_false, Int.reduceLT, rnb, ral, rsq, rlu, rdp, Bool.true_or, Bool.false_or, Bool.or_false, Bool.or_true]
  refine fun p1 H1 a1 => is_ord (G := wo p H5) (Same.trans wo_same a1.s) (.inl (.laid rq o7 nofun)) a1.e n7 fun H2 s2 => ?_
  simp only [and_assoc, rst, rs, re, ra, rq, rx, ro, rl, rl2, rsp, rz, rix, rln, rg, rd, ri, rv, rk, rdd, rwi, at0, at1, at2, at3, upd_at, List.getElem?_cons_zero, List.getElem?_cons_succ, Option.some.injEq, exists_eq_left', exists_eq_left, List.set_cons_zero, List.set_cons_succ, true_and, and_true, HO.lst.injEq, HO.tup.injEq, exists_and_left, exists_eq, exists_eq', Br.t, Br.f, Be.t, Be.f, List.cons.injEq, List.append_nil, scal, if_true, if_false, ite_true, ite_false, eq_self_iff_true, decide_true, decide_false, Bool.not_true, Bool.not_false, reduceIte, List.nil_append, List.cons_append, reduceCtorEq, false_and, exists_false, false_or, or_false, Int.reduceLT, rnb, ral, rsq, rlu, rdp, Bool.true_or, Bool.false_or, Bool.or_false, Bool.or_true]
  refine fun p4 H3 a3 => is_ord (G := wo p H5) (Same.trans wo_same (Same.trans a1.s (Same.trans s2 a3.s))) (.inl (.laid rq ol fun _ => ⟨ms, ⟨l, _, rfl, hl, rfl⟩, by omega⟩)) a3.e ml fun H4 s4 => ?_
  simp only [and_assoc, rst, rs, re, ra, rq, rx, ro, rl, rl2, rsp, rz, rix, rln, rg, rd, ri, rv, rk, rdd, rwi, at0, at1, at2, at3, upd_at, List.getElem?_cons_zero, List.getElem?_cons_succ, Option.some.injEq, exists_eq_left', exists_eq_left, List.set_cons_zero, List.set_cons_succ, true_and, and_true, HO.lst.injEq, HO.tup.injEq, exists_and_left, exists_eq, exists_eq', Br.t, Br.f, Be.t, Be.f, List.cons.injEq, List.append_nil, scal, if_true, if_false, ite_true, ite_false, eq_self_iff_true, decide_true, decide_false, Bool.not_true, Bool.not_false, reduceIte, List.nil_append, List.cons_append, reduceCtorEq, false_and, exists_false, false_or, or_false, Int.reduceLT, rnb, ral, rsq, rlu, rdp, Bool.true_or, Bool.false_or, Bool.or_false, Bool.or_true]
  have T := Wl.of_same W.1 (Same.trans a1.s (Same.trans s2 (Same.trans a3.s s4)))
  have W := W.trans T
  subst hr
  simp only [and_assoc, rst, rs, re, ra, rq, rx, ro, rl, rl2, rsp, rz, rix, rln, rg, rd, ri, rv, rk, rdd, rwi, at0, at1, at2, at3, upd_at, List.getElem?_cons_zero, List.getElem?_cons_succ, Option.some.injEq, exists_eq_left', exists_eq_left, List.set_cons_zero, List.set_cons_succ, true_and, and_true, HO.lst.injEq, HO.tup.injEq, exists_and_left, exists_eq, exists_eq', Br.t, Br.f, Be.t, Be.f, List.cons.injEq, List.append_nil, scal, if_true, if_false, ite_true, ite_false, eq_self_iff_true, decide_true, decide_false, Bool.not_true, Bool.not_false, reduceIte, List.nil_append, List.cons_append, reduceCtorEq, false_and, exists_false, false_or, or_false, Int.reduceLT, rnb, ral, rsq, rlu, rdp, Bool.true_or, Bool.false_or, Bool.or_false, Bool.or_true]
  refine fun q1 G1 b1 q2 G2 b2 q3 G3 b3 q4 G4 b4 => is_ord2 (y := .ref q2) (.inl (.back (b := true) (.inl ⟨[], ⟨q2, _, rfl, b4.k (b3.k b2.e), rfl⟩, (fun _ z => by cases z), rfl⟩) fun _ => ⟨q2, _, rfl, b4.k (b3.k b2.e), rfl⟩)) (b4.k b3.e) (.inr ⟨q2, q4, rfl, rfl, b4.k (b3.k b2.e), b4.e⟩) fun G5 s5 => ?_
  simp only [and_assoc, rst, rs, re, ra, rq, rx, ro, rl, rl2, rsp, rz, rix, rln, rg, rd, ri, rv, rk, rdd, rwi, at0, at1, at2, at3, upd_at, List.getElem?_cons_zero, List.getElem?_cons_succ, Option.some.injEq, exists_eq_left', exists_eq_left, List.set_cons_zero, List.set_cons_succ, true_and, and_true, HO.lst.injEq, HO.tup.injEq, exists_and_left, exists_eq, exists_eq', Br.t, Br.f, Be.t, Be.f, List.cons.injEq, List.append_nil, scal, if_true, if_false, ite_true, ite_false, eq_self_iff_true, decide_true, decide_false, Bool.not_true, Bool.not_false, reduceIte, List.nil_append, List.cons_append, reduceCtorEq, false_and, exists_false, false_or, or_false, Int.reduceLT, rnb, ral, rsq, rlu, rdp, Bool.true_or, Bool.false_or, Bool.or_false, Bool.or_true]
  refine fun q6 G6 b6 => ?_
  have e1 : G6 q1 = some (.lst []) := b6.k (s5 _ _ (b4.k (b3.k (b2.k b1.e))))
  refine is_ord (G := G6) (fun _ _ e => e) (.inl (.back (b := true) (.inl ⟨[], ⟨q1, _, rfl, e1, rfl⟩, (fun _ z => by cases z), rfl⟩) fun _ => ⟨q1, _, rfl, e1, rfl⟩)) b6.e (.inl (.inr ⟨q1, [], rfl, .inl e1, (fun _ z => by cases z), by simp⟩)) fun G7 s7 => ?_
  simp only [and_assoc, rst, rs, re, ra, rq, rx, ro, rl, rl2, rsp, rz, rix, rln, rg, rd, ri, rv, rk, rdd, rwi, at0, at1, at2, at3, upd_at, List.getElem?_cons_zero, List.getElem?_cons_succ, Option.some.injEq, exists_eq_left', exists_eq_left, List.set_cons_zero, List.set_cons_succ, true_and, and_true, HO.lst.injEq, HO.tup.injEq, exists_and_left, exists_eq, exists_eq', Br.t, Br.f, Be.t, Be.f, List.cons.injEq, List.append_nil, scal, if_true, if_false, ite_true, ite_false, eq_self_iff_true, decide_true, decide_false, Bool.not_true, Bool.not_false, reduceIte, List.nil_append, List.cons_append, reduceCtorEq, false_and, exists_false, false_or, or_false, Int.reduceLT, rnb, ral, rsq, rlu, rdp, Bool.true_or, Bool.false_or, Bool.or_false, Bool.or_true]
  refine fun q8 G8 b8 => ⟨_, rfl, true, .inl ⟨[], ⟨q8, _, rfl, b8.e, rfl⟩, (fun _ z => by cases z), rfl⟩, fun G9 s9 => ?_⟩
  simp only [and_assoc, rst, rs, re, ra, rq, rx, ro, rl, rl2, rsp, rz, rix, rln, rg, rd, ri, rv, rk, rdd, rwi, at0, at1, at2, at3, upd_at, List.getElem?_cons_zero, List.getElem?_cons_succ, Option.some.injEq, exists_eq_left', exists_eq_left, List.set_cons_zero, List.set_cons_succ, true_and, and_true, HO.lst.injEq, HO.tup.injEq, exists_and_left, exists_eq, exists_eq', Br.t, Br.f, Be.t, Be.f, List.cons.injEq, List.append_nil, scal, if_true, if_false, ite_true, ite_false, eq_self_iff_true, decide_true, decide_false, Bool.not_true, Bool.not_false, reduceIte, List.nil_append, List.cons_append, reduceCtorEq, false_and, exists_false, false_or, or_false, Int.reduceLT, rnb, ral, rsq, rlu, rdp, Bool.true_or, Bool.false_or, Bool.or_false, Bool.or_true]
  refine q _ (W.trans (Wl.of_same W.1 ?_))
  exact Same.trans b1.s (Same.trans b2.s (Same.trans b3.s (Same.trans b4.s (Same.trans s5 (Same.trans b6.s (Same.trans s7 (Same.trans b8.s s9)))))))
end
end Law

-- RDX rnb, ral, rsq, rlu, rdp, Bool.true_or, Bool.false_or, Bool.or_false, Bool.or_true
set_option pp.deepTerms true
set_option pp.maxSteps 100000
namespace Law
open PySem PySem.Spec PyProof.Rows L2 Sw
section
variable {P : Program} {w : World} {K : Fg} {mg : Str → Option Value} {base : Heap}
theorem ok__law_numbers_right (T : Tx K mg w) (c__law_draw : Cal P w K mg base 1 "_law_draw" ["well", "many"] (sp__law_draw K)) (c__law_bad_number : Cal P w K mg base 2 "_law_bad_number" ["well", "last"] (sp__law_bad_number K)) (c__law_is : Cal P w K mg base 10 "_law_is" ["door", "things", "word", "thing"] (sp__law_is K))  : Cal P w K mg base 11 "_law_numbers_right" ["well"] (sp__law_numbers_right K) := by
  refine cal_mk T.F__law_numbers_right T.g__law_numbers_right sc__law_numbers_right (len1 _) (fun _ _ _ _ _ _ us hl => match us, hl with | [_], _ => rfl) (fun cdv A outer s H vs Q E hr h => ?_)
  obtain ⟨v0, rfl, h⟩ := h
  have hu := hu_of hr
  refine ⟨_, (pss_cons (ps_set (i := 1) sc__law_numbers_right.nd rfl (Or.inr rfl) (pe_op op_add pe_int (pe_cal c__law_draw hr (by decide) passL rfl (pa_cons (pv 0) (pa_cons pe_int pa_nil)))))
      (pss_cons (ps_set (i := 2) sc__law_numbers_right.nd rfl (Or.inl rfl) (pe_cal c__law_draw hr (by decide) passL rfl (pa_cons (pv 0) (pa_cons (pv 1) pa_nil))))
      (pss_cons (ps_setLc (i := 3) (own := [("k", 7)]) (g := (gName 7)) rfl sc__law_numbers_right.nd rfl rfl (sw_true rfl rfl rfl (by decide +kernel)) (pi_range1 (by rfl) T.n_range (pa_cons (pv 1) pa_nil)) (blkOk_by (N := nm__law_numbers_right) (sc := defScope s__law_numbers_right) (by decide +kernel)) (fun _ _ _ _ _ => (pg_name (i := 7) sc__law_numbers_right.nd rfl (Or.inl rfl))) (fun _ _ _ _ _ => pts_nil) (fun _ _ _ _ _ => (pe_cal c__law_draw hr (by decide) passL rfl (pa_cons (pv 0) (pa_cons (pe_op op_add (pe_op op_sub (pv 1) (pv 7)) pe_int) pa_nil)))))
      (pss_cons (ps_set (i := 4) sc__law_numbers_right.nd rfl (Or.inl rfl) (pe_cal c__law_bad_number hr (by decide) passL rfl (pa_cons (pv 0) (pa_cons (pe_op op_sub (pv 1) (pv 2)) pa_nil))))
      (pss_cons (ps_set (i := 5) sc__law_numbers_right.nd rfl (Or.inl rfl) (pe_op op_catAl (pe_op op_catAl (pe_slice sl_listAl (pv 3) po_none (po_some (pv 2))) (pe_lstA (pa_cons (pv 4) pa_nil))) (pe_op op_repAl (pe_lstA (pa_cons pe_non pa_nil)) (pe_op op_sub (pe_op op_sub (pv 1) (pv 2)) pe_int))))
      (pss_cons (ps_if (PW.pt (pw_or (pt_not (pt_val (pe_cal c__law_is hr (by decide) passL rfl (pa_cons pe_str (pa_cons (pe_lstA (pa_cons (pv 5) pa_nil)) (pa_cons pe_str (pa_cons (pv 4) pa_nil))))))) (pw_or1 (pt_not (pt_val (pe_cal c__law_is hr (by decide) passL rfl (pa_cons pe_str (pa_cons (pe_lstA (pa_cons (pv 3) pa_nil)) (pa_cons pe_str (pa_cons pe_non pa_nil)))))))))) (pss_one (ps_ret pe_bl)) pss_nil)
      (pss_cons (ps_set (i := 6) sc__law_numbers_right.nd rfl (Or.inl rfl) (pe_lstA (pa_cons (pe_op op_repAl (pe_lstA (pa_cons pe_int pa_nil)) pe_int) (pa_cons (pe_op op_repTAl (pe_tupA (pa_cons pe_int pa_nil)) pe_int) (pa_cons pe_non (pa_cons pe_str (pa_cons pe_int (pa_cons pe_bl (pa_cons pe_dnewA pa_nil)))))))))
      (pss_cons (ps_set (i := 4) sc__law_numbers_right.nd rfl (Or.inl rfl) (pe_ix ix_q (pv 6) (pe_cal c__law_draw hr (by decide) passL rfl (pa_cons (pv 0) (pa_cons (pe_callB len_q (by rfl) T.n_len (by decide +kernel) (pa_cons (pv 6) pa_nil)) pa_nil))) (fun _ _ => rfl)))
      (pss_one (ps_ret (pe_cal c__law_is hr (by decide) passL rfl (pa_cons pe_str (pa_cons (pe_lstA (pa_cons (pv 4) pa_nil)) (pa_cons pe_str (pa_cons (pv 4) pa_nil))))))))))))))), ?_⟩
  obtain ⟨p, rfl, hw, q⟩ := h
  refine seqI fun r hr => ?_
  simp only [and_assoc, rst, rs, re, ra, rq, rx, ro, rl, rl2, rsp, rz, rix, rln, rg, rd, ri, rv, rk, rdd, rwi, at0, at1, at2, at3, upd_at, List.getElem?_cons_zero, List.getElem?_cons_succ, Option.some.injEq, exists_eq_left', exists_eq_left, List.set_cons_zero, List.set_cons_succ, true_and, and_true, HO.lst.injEq, HO.tup.injEq, exists_and_left, exists_eq, exists_eq', Br.t, Br.f, Be.t, Be.f, List.cons.injEq, List.append_nil, scal, if_true, if_false, ite_true, ite_false, eq_self_iff_true, decide_true, decide_false, Bool.not_true, Bool.not_false, reduceIte, List.nil_append, List.cons_append, reduceCtorEq, false_and, exists_false, false_or, or_false, Int.reduceLT, rnb, ral, rsq, rlu, rdp, Bool.true_or, Bool.false_or, Bool.or_false, Bool.or_true]
  refine draw_ok hw (by decide) (by decide) fun m G1 m0 m1 W1 => ?_
  simp only [and_assoc, rst, rs, re, ra, rq, rx, ro, rl, rl2, rsp, rz, rix, rln, rg, rd, ri, rv, rk, rdd, rwi, at0, at1, at2, at3, upd_at, List.getElem?_cons_zero, List.getElem?_cons_succ, Option.some.injEq, exists_eq_left', exists_eq_left, List.set_cons_zero, List.set_cons_succ, true_and, and_true, HO.lst.injEq, HO.tup.injEq, exists_and_left, exists_eq, exists_eq', Br.t, Br.f, Be.t, Be.f, List.cons.injEq, List.append_nil, scal, if_true, if_false, ite_true, ite_false, eq_self_iff_true, decide_true, decide_false, Bool.not_true, Bool.not_false, reduceIte, List.nil_append, List.cons_append, reduceCtorEq, false_and, exists_false, false_or, or_false, Int.reduceLT, rnb, ral, rsq, rlu, rdp, Bool.true_or, Bool.false_or, Bool.or_false, Bool.or_true]
  subst hr
  refine seqI fun r hr => ?_
  simp only [and_assoc, rst, rs, re, ra, rq, rx, ro, rl, rl2, rsp, rz, rix, rln, rg, rd, ri, rv, rk, rdd, rwi, at0, at1, at2, at3, upd_at, List.getElem?_cons_zero, List.getElem?_cons_succ, Option.some.injEq, exists_eq_left', exists_eq_left, List.set_cons_zero, List.set_cons_succ, true_and, and_true, HO.lst.injEq, HO.tup.injEq, exists_and_left, exists_eq, exists_eq', Br.t, Br.f, Be.t, Be.f, List.cons.injEq, List.append_nil, scal, if_true, if_false, ite_true, ite_false, eq_self_iff_true, decide_true, decide_false, Bool.not_true, Bool.not_false, reduceIte, List.nil_append, List.cons_append, reduceCtorEq, false_and, exists_false, false_or, or_false, Int.reduceLT, rnb, ral, rsq, rlu, rdp, Bool.true_or, Bool.false_or, Bool.or_false, Bool.or_true]
  refine draw_ok W1.1 (by omega) (by omega) fun t G2 t0 t1 W2 => ?_
  subst hr
  refine seqI fun r hr => ?_
  simp only [and_assoc, rst, rs, re, ra, rq, rx, ro, rl, rl2, rsp, rz, rix, rln, rg, rd, ri, rv, rk, rdd, rwi, at0, at1, at2, at3, upd_at, List.getElem?_cons_zero, List.getElem?_cons_succ, Option.some.injEq, exists_eq_left', exists_eq_left, List.set_cons_zero, List.set_cons_succ, true_and, and_true, HO.lst.injEq, HO.tup.injEq, exists_and_left, exists_eq, exists_eq', Br.t, Br.f, Be.t, Be.f, List.cons.injEq, List.append_nil, scal, if_true, if_false, ite_true, ite_false, eq_self_iff_true, decide_true, decide_false, Bool.not_true, Bool.not_false, reduceIte, List.nil_append, List.cons_append, reduceCtorEq, false_and, exists_false, false_or, or_false, Int.reduceLT, rnb, ral, rsq, rlu, rdp, Bool.true_or, Bool.false_or, Bool.or_false, Bool.or_true]
  obtain ⟨k, rfl⟩ : ∃ k : Nat, t = (k : Int) := ⟨t.toNat, by omega⟩
  refine ⟨by omega, by omega, LC.rng (fun D i H' => ∃ ns : List Int, Wl p G2 H' ∧ H' D = some (.lst (ns.map V.int)) ∧ ns.length = i ∧ ∀ (c : Nat) z, ns[c]? = some z → 0 ≤ z ∧ z ≤ (1 + m) - c) (fun D hD => ⟨[], Wl.of_same W2.1 (Same.new hD), upd_same, rfl, fun c z e => by simp at e⟩) ?_ ?_⟩
  · rintro D i H' hD hi ⟨ns, s, h1, hl, hz⟩
    have nD : D ≠ p := fun e => by
      subst e
      obtain ⟨y0, y1, y2, e1⟩ := W2.1
      rw [hD] at e1
      cases e1
    simp only [and_assoc, rst, rs, re, ra, rq, rx, ro, rl, rl2, rsp, rz, rix, rln, rg, rd, ri, rv, rk, rdd, rwi, at0, at1, at2, at3, upd_at, List.getElem?_cons_zero, List.getElem?_cons_succ, Option.some.injEq, exists_eq_left', exists_eq_left, List.set_cons_zero, List.set_cons_succ, true_and, and_true, HO.lst.injEq, HO.tup.injEq, exists_and_left, exists_eq, exists_eq', Br.t, Br.f, Be.t, Be.f, List.cons.injEq, List.append_nil, scal, if_true, if_false, ite_true, ite_false, eq_self_iff_true, decide_true, decide_false, Bool.not_true, Bool.not_false, reduceIte, List.nil_append, List.cons_append, reduceCtorEq, false_and, exists_false, false_or, or_false, Int.reduceLT, rnb, ral, rsq, rlu, rdp, Bool.true_or, Bool.false_or, Bool.or_false, Bool.or_true]
    refine draw_ok s.1 (by omega) (by omega) fun x H2 x0 x1 wx => ?_
    refine ⟨_, wx.at nD h1, by rw [sizeLine_eq, List.length_map]; omega, (s.trans wx).mut nD hD, ns ++ [x], by rw [List.map_append]; rfl, by rw [List.length_append, hl]; rfl, fun c z e => ?_⟩
    rcases Nat.lt_or_ge c ns.length with c1 | c1
    · rw [List.getElem?_append_left c1] at e
      exact hz c z e
    · rw [List.getElem?_append_right c1] at e
      have c2 : c - ns.length = 0 := by
        rcases Nat.eq_zero_or_pos (c - ns.length) with c3 | c3
        · exact c3
        · rw [List.getElem?_eq_none (by simp; omega)] at e
          cases e
      rw [c2] at e
      cases e
      omega
  rintro D H3 hD ⟨ns, s3, h1, hl, hz⟩
  have nD : D ≠ p := fun e => by
    subst e
    obtain ⟨y0, y1, y2, e1⟩ := W2.1
    rw [hD] at e1
    cases e1
  have hd : wo p H3 D = some (.lst (ns.map V.int)) := (wo_at nD).trans h1
  have W := (W1.trans W2).trans s3
  clear s3 W1 W2 hD
  subst hr
  refine seqI fun r hr => ?_
  simp only [and_assoc, rst, rs, re, ra, rq, rx, ro, rl, rl2, rsp, rz, rix, rln, rg, rd, ri, rv, rk, rdd, rwi, at0, at1, at2, at3, upd_at, List.getElem?_cons_zero, List.getElem?_cons_succ, Option.some.injEq, exists_eq_left', exists_eq_left, List.set_cons_zero, List.set_cons_succ, true_and, and_true, HO.lst.injEq, HO.tup.injEq, exists_and_left, exists_eq, exists_eq', Br.t, Br.f, Be.t, Be.f, List.cons.injEq, List.append_nil, scal, if_true, if_false, ite_true, ite_false, eq_self_iff_true, decide_true, decide_false, Bool.not_true, Bool.not_false, reduceIte, List.nil_append, List.cons_append, reduceCtorEq, false_and, exists_false, false_or, or_false, Int.reduceLT, rnb, ral, rsq, rlu, rdp, Bool.true_or, Bool.false_or, Bool.or_false, Bool.or_true]
  refine badn_ok W.1 (by omega) (by omega) fun bad G4 W4 b4 => ?_
  have hd := W4.2 _ _ hd
  have W := W.trans W4
  subst hr
  refine seqI fun r hr => ?_
  simp only [and_assoc, rst, rs, re, ra, rq, rx, ro, rl, rl2, rsp, rz, rix, rln, rg, rd, ri, rv, rk, rdd, rwi, at0, at1, at2, at3, upd_at, List.getElem?_cons_zero, List.getElem?_cons_succ, Option.some.injEq, exists_eq_left', exists_eq_left, List.set_cons_zero, List.set_cons_succ, true_and, and_true, HO.lst.injEq, HO.tup.injEq, exists_and_left, exists_eq, exists_eq', Br.t, Br.f, Be.t, Be.f, List.cons.injEq, List.append_nil, scal, if_true, if_false, ite_true, ite_false, eq_self_iff_true, decide_true, decide_false, Bool.not_true, Bool.not_false, reduceIte, List.nil_append, List.cons_append, reduceCtorEq, false_and, exists_false, false_or, or_false, Int.reduceLT, rnb, ral, rsq, rlu, rdp, Bool.true_or, Bool.false_or, Bool.or_false, Bool.or_true]
  refine ⟨_, SqL.of (wo_same _ _ hd), ?_⟩
  have kl : k < ns.length := by omega
  rw [cut_take (by rw [List.length_map]; exact kl)]
  generalize hrp : (List.replicate (1 + m - (k : Int) - 1).toNat [V.non]).flatten = rp
  have lrp : rp.length = ns.length - k - 1 := by
    rw [← hrp]
    simp
    omega
  have rpn : ∀ x ∈ rp, x = .non := fun x hx => by
    rw [← hrp] at hx
    simp at hx
    exact hx.2
  refine fun p1 H1 a1 p2 H2 a2 => ⟨_, (Al.k a2 (Al.e a1)), _, a2.e, by rw [sizeLine_eq]; simp <;> omega, fun p3 H3 a3 p4 H4 a4 => ⟨_, a4.e, by omega, by omega, by rw [sizeLine_eq]; simp <;> omega, fun p5 H5 a5 => ?_⟩⟩
  rw [hrp] at a5
  refine ⟨_, (Al.k a5 (Al.k a4 (Al.e a3))), _, a5.e, by rw [sizeLine_eq]; simp <;> omega, fun p6 H6 a6 => ?_⟩
  have S := (Same.trans a1.s (Same.trans a2.s (Same.trans a3.s (Same.trans a4.s (Same.trans a5.s (a6.s))))))
  have T := Wl.of_same W.1 S
  have n6 := a6.nw (Well.same (Same.trans a1.s (Same.trans a2.s (Same.trans a3.s (Same.trans a4.s (a5.s))))) W.1)
  have hx : wo p H6 p6 = some (.lst ((ns.map V.int).take k ++ [bad] ++ rp)) := (wo_at n6).trans a6.e
  have hd := T.2 _ _ hd
  have b4 : BadN (wo p H6) (1 + m - k) bad := ⟨b4.1.same T.2, b4.2⟩
  have W := W.trans T
  clear T S a1 a2 a3 a4 a5 a6 W4
  generalize hys : (ns.map V.int).take k ++ [bad] ++ rp = ys at hx
  have ly : ys.length = ns.length := by rw [← hys]; simp; omega
  have ty : ∀ z ∈ ys, TyA (wo p H6) z := fun z hz => by
    rw [← hys] at hz
    simp only [List.mem_append, List.mem_singleton] at hz
    rcases hz with (hz | rfl) | hz
    · obtain ⟨j, _, rfl⟩ := List.mem_map.mp (List.mem_of_mem_take hz)
      exact ⟨_, rfl⟩
    · exact b4.1.ty
    · rw [rpn z hz]
      exact ⟨_, rfl⟩
  have atk : ys[k]? = some bad := by
    rw [← hys, List.append_assoc, List.getElem?_append_right (by simp; omega)]
    simp [Nat.min_eq_left (Nat.le_of_lt kl)]
  have before : ∀ (j : Nat) (z : V), j < k → ys[j]? = some z → within z 0 ((ys.length : Int) - j) = true := fun j z hj e => by
    rw [← hys, List.append_assoc, List.getElem?_append_left (by simp; omega), List.getElem?_take_of_lt hj, List.getElem?_map] at e
    obtain ⟨c, hc, rfl⟩ := Option.map_eq_some_iff.mp e
    have := hz j c hc
    exact decide_eq_true (by omega)
  subst hr
  refine seqI fun r hr => ?_
  simp only [and_assoc, rst, rs, re, ra, rq, rx, ro, rl, rl2, rsp, rz, rix, rln, rg, rd, ri, rv, rk, rdd, rwi, at0, at1, at2, at3, upd_at, List.getElem?_cons_zero, List.getElem?_cons_succ, Option.some.injEq, exists_eq_left', exists_eq_left, List.set_cons_zero, List.set_cons_succ, true_and, and_true, HO.lst.injEq, HO.tup.injEq, exists_and_left, exists_eq, exists_eq', Br.t, Br.f, Be.t, Be.f, List.cons.injEq, List.append_nil, scal, if_true, if_false, ite_true, ite_false, eq_self_iff_true, decide_true, decide_false, Bool.not_true, Bool.not_false, reduceIte, List.nil_append, List.cons_append, reduceCtorEq, false_and, exists_false, false_or, or_false, Int.reduceLT, rnb, ral, rsq, rlu, rdp, Bool.true_or, Bool.false_or, Bool.or_false, Bool.or_true]
  refine fun p1 H1 a1 => is_num (G := wo p H6) (Same.trans wo_same a1.s) (.inl (.by3 hx (by omega) ty atk before (badN_w b4 (by omega)))) a1.e b4.1 fun H2 s2 => ?_
  simp only [and_assoc, rst, rs, re, ra, rq, rx, ro, rl, rl2, rsp, rz, rix, rln, rg, rd, ri, rv, rk, rdd, rwi, at0, at1, at2, at3, upd_at, List.getElem?_cons_zero, List.getElem?_cons_succ, Option.some.injEq, exists_eq_left', exists_eq_left, List.set_cons_zero, List.set_cons_succ, true_and, and_true, HO.lst.injEq, HO.tup.injEq, exists_and_left, exists_eq, exists_eq', Br.t, Br.f, Be.t, Be.f, List.cons.injEq, List.append_nil, scal, if_true, if_false, ite_true, ite_false, eq_self_iff_true, decide_true, decide_false, Bool.not_true, Bool.not_false, reduceIte, List.nil_append, List.cons_append, reduceCtorEq, false_and, exists_false, false_or, or_false, Int.reduceLT, rnb, ral, rsq, rlu, rdp, Bool.true_or, Bool.false_or, Bool.or_false, Bool.or_true]
  refine fun p3 H3 a3 => is_let (G := wo p H6) (Same.trans wo_same (Same.trans a1.s (Same.trans s2 a3.s))) (.inl (.by4 hd (by rw [List.length_map]; omega) fun j z e => ?_)) a3.e fun H4 s4 => ?_
  · rw [List.getElem?_map] at e
    obtain ⟨c, hc, rfl⟩ := Option.map_eq_some_iff.mp e
    have := hz j c hc
    rw [List.length_map]
    exact decide_eq_true (by omega)
  simp only [and_assoc, rst, rs, re, ra, rq, rx, ro, rl, rl2, rsp, rz, rix, rln, rg, rd, ri, rv, rk, rdd, rwi, at0, at1, at2, at3, upd_at, List.getElem?_cons_zero, List.getElem?_cons_succ, Option.some.injEq, exists_eq_left', exists_eq_left, List.set_cons_zero, List.set_cons_succ, true_and, and_true, HO.lst.injEq, HO.tup.injEq, exists_and_left, exists_eq, exists_eq', Br.t, Br.f, Be.t, Be.f, List.cons.injEq, List.append_nil, scal, if_true, if_false, ite_true, ite_false, eq_self_iff_true, decide_true, decide_false, Bool.not_true, Bool.not_false, reduceIte, List.nil_append, List.cons_append, reduceCtorEq, false_and, exists_false, false_or, or_false, Int.reduceLT, rnb, ral, rsq, rlu, rdp, Bool.true_or, Bool.false_or, Bool.or_false, Bool.or_true]
  have W := W.trans (Wl.of_same W.1 (Same.trans a1.s (Same.trans s2 (Same.trans a3.s s4))))
  clear a1 s2 a3 s4
  subst hr
  refine seqI fun r hr => ?_
  simp only [and_assoc, rst, rs, re, ra, rq, rx, ro, rl, rl2, rsp, rz, rix, rln, rg, rd, ri, rv, rk, rdd, rwi, at0, at1, at2, at3, upd_at, List.getElem?_cons_zero, List.getElem?_cons_succ, Option.some.injEq, exists_eq_left', exists_eq_left, List.set_cons_zero, List.set_cons_succ, true_and, and_true, HO.lst.injEq, HO.tup.injEq, exists_and_left, exists_eq, exists_eq', Br.t, Br.f, Be.t, Be.f, List.cons.injEq, List.append_nil, scal, if_true, if_false, ite_true, ite_false, eq_self_iff_true, decide_true, decide_false, Bool.not_true, Bool.not_false, reduceIte, List.nil_append, List.cons_append, reduceCtorEq, false_and, exists_false, false_or, or_false, Int.reduceLT, rnb, ral, rsq, rlu, rdp, Bool.true_or, Bool.false_or, Bool.or_false, Bool.or_true]
  refine fun p1 H1 a1 => ⟨_, a1.e, by decide, by decide, by rw [sizeLine_eq]; simp, fun p2 H2 a2 p3 H3 a3 => ⟨_, SqT.of a3.e, by simp, by decide, by decide, by simp, fun p4 H4 a4 p5 H5 a5 p6 H6 a6 => ?_⟩⟩
  obtain ⟨z0, z1, z2, hp⟩ := id W.1
  have w1 := (wo_at (H := H6) (a1.ne hp)).trans (Al.k a6 (Al.k a5 (Al.k a4 (Al.k a3 (Al.k a2 (Al.e a1))))))
  have w2 := (wo_at (H := H6) (a2.ne (Al.k a1 hp))).trans (Al.k a6 (Al.k a5 (Al.k a4 (Al.k a3 (Al.e a2)))))
  have w3 := (wo_at (H := H6) (a3.ne (Al.k a2 (Al.k a1 hp)))).trans (Al.k a6 (Al.k a5 (Al.k a4 (Al.e a3))))
  have w4 := (wo_at (H := H6) (a4.ne (Al.k a3 (Al.k a2 (Al.k a1 hp))))).trans (Al.k a6 (Al.k a5 (Al.e a4)))
  have w5 := (wo_at (H := H6) (a5.ne (Al.k a4 (Al.k a3 (Al.k a2 (Al.k a1 hp)))))).trans (Al.k a6 (Al.e a5))
  have w6 := (wo_at (H := H6) (a6.ne (Al.k a5 (Al.k a4 (Al.k a3 (Al.k a2 (Al.k a1 hp))))))).trans (Al.e a6)
  have wb : ∀ v ∈ [V.ref p2, V.ref p4, V.non, V.str "0", V.int 0, V.bl true, V.ref p5], Nice (wo p H6) v ∧ DD (wo p H6) "by" [v] (some ("NoNumber", v)) := by
    intro v hm
    simp only [List.mem_cons, List.not_mem_nil, or_false] at hm
    rcases hm with rfl | rfl | rfl | rfl | rfl | rfl | rfl
    · exact ⟨.inl (.inr ⟨p2, _, rfl, .inl w2, all_flat rfl, by simp⟩), .inl (.by2 ⟨p2, _, rfl, w2, rfl⟩ (by simp))⟩
    · exact ⟨.inl (.inr ⟨p4, _, rfl, .inr w4, all_flat rfl, by simp⟩), .inl (.by2 ⟨p4, _, rfl, w4, rfl⟩ (by simp))⟩
    · exact ⟨.inl (.inl rfl), .inl (.by1 (flat_no rfl))⟩
    · exact ⟨.inl (.inl (flat_str _)), .inl (.by1 (flat_no (flat_str _)))⟩
    · exact ⟨.inl (.inl rfl), .inl (.by1 (flat_no rfl))⟩
    · exact ⟨.inl (.inl rfl), .inl (.by1 (flat_no rfl))⟩
    · exact ⟨.inr (.inr ⟨p5, rfl, w5⟩), .inl (.by1 (dict_no w5))⟩
  have W := W.trans (Wl.of_same W.1 (Same.trans a1.s (Same.trans a2.s (Same.trans a3.s (Same.trans a4.s (Same.trans a5.s (a6.s)))))))
  subst hr
  refine seqI fun r hr => ?_
  simp only [and_assoc, rst, rs, re, ra, rq, rx, ro, rl, rl2, rsp, rz, rix, rln, rg, rd, ri, rv, rk, rdd, rwi, at0, at1, at2, at3, upd_at, List.getElem?_cons_zero, List.getElem?_cons_succ, Option.some.injEq, exists_eq_left', exists_eq_left, List.set_cons_zero, List.set_cons_succ, true_and, and_true, HO.lst.injEq, HO.tup.injEq, exists_and_left, exists_eq, exists_eq', Br.t, Br.f, Be.t, Be.f, List.cons.injEq, List.append_nil, scal, if_true, if_false, ite_true, ite_false, eq_self_iff_true, decide_true, decide_false, Bool.not_true, Bool.not_false, reduceIte, List.nil_append, List.cons_append, reduceCtorEq, false_and, exists_false, false_or, or_false, Int.reduceLT, rnb, ral, rsq, rlu, rdp, Bool.true_or, Bool.false_or, Bool.or_false, Bool.or_true]
  refine ⟨_, a6.e, _, rfl, draw_ok W.1 (by simp) (by simp) fun x H7 x0 x1 W7 => ?_⟩
  obtain ⟨v, hv, hm⟩ := at_mem x0 x1
  simp only [and_assoc, rst, rs, re, ra, rq, rx, ro, rl, rl2, rsp, rz, rix, rln, rg, rd, ri, rv, rk, rdd, rwi, at0, at1, at2, at3, upd_at, List.getElem?_cons_zero, List.getElem?_cons_succ, Option.some.injEq, exists_eq_left', exists_eq_left, List.set_cons_zero, List.set_cons_succ, true_and, and_true, HO.lst.injEq, HO.tup.injEq, exists_and_left, exists_eq, exists_eq', Br.t, Br.f, Be.t, Be.f, List.cons.injEq, List.append_nil, scal, if_true, if_false, ite_true, ite_false, eq_self_iff_true, decide_true, decide_false, Bool.not_true, Bool.not_false, reduceIte, List.nil_append, List.cons_append, reduceCtorEq, false_and, exists_false, false_or, or_false, Int.reduceLT, rnb, ral, rsq, rlu, rdp, Bool.true_or, Bool.false_or, Bool.or_false, Bool.or_true]
  refine ⟨_, W7.at (a6.nw (Well.same (Same.trans a1.s (Same.trans a2.s (Same.trans a3.s (Same.trans a4.s (a5.s))))) ⟨z0, z1, z2, hp⟩)) a6.e, _, rfl, v, hv, ?_⟩
  obtain ⟨nv, dv⟩ := wb v hm
  have nv := nv.same W7.2
  have dv := dv.same W7.2
  have W := W.trans W7
  subst hr
  simp only [and_assoc, rst, rs, re, ra, rq, rx, ro, rl, rl2, rsp, rz, rix, rln, rg, rd, ri, rv, rk, rdd, rwi, at0, at1, at2, at3, upd_at, List.getElem?_cons_zero, List.getElem?_cons_succ, Option.some.injEq, exists_eq_left', exists_eq_left, List.set_cons_zero, List.set_cons_succ, true_and, and_true, HO.lst.injEq, HO.tup.injEq, exists_and_left, exists_eq, exists_eq', Br.t, Br.f, Be.t, Be.f, List.cons.injEq, List.append_nil, scal, if_true, if_false, ite_true, ite_false, eq_self_iff_true, decide_true, decide_false, Bool.not_true, Bool.not_false, reduceIte, List.nil_append, List.cons_append, reduceCtorEq, false_and, exists_false, false_or, or_false, Int.reduceLT, rnb, ral, rsq, rlu, rdp, Bool.true_or, Bool.false_or, Bool.or_false, Bool.or_true]
  refine fun p8 H8 a8 => is_num (G := wo p H7) (Same.trans wo_same a8.s) dv a8.e nv fun H9 s9 => ?_
  exact q _ (W.trans (Wl.of_same W.1 (Same.trans a8.s s9)))
end
end Law

-- RDX rnb, ral, rsq, rlu, rdp, Bool.true_or, Bool.false_or, Bool.or_false, Bool.or_true
set_option pp.deepTerms true
set_option pp.maxSteps 100000
namespace Law
open PySem PySem.Spec PyProof.Rows L2 Sw
section
variable {P : Program} {w : World} {K : Fg} {mg : Str → Option Value} {base : Heap}
theorem ok__law_sets_right (T : Tx K mg w) (c__law_draw : Cal P w K mg base 1 "_law_draw" ["well", "many"] (sp__law_draw K)) (c__law_bad_number : Cal P w K mg base 2 "_law_bad_number" ["well", "last"] (sp__law_bad_number K)) (c__law_bad_set : Cal P w K mg base 2 "_law_bad_set" ["well", "many"] (sp__law_bad_set K)) (c__law_is : Cal P w K mg base 10 "_law_is" ["door", "things", "word", "thing"] (sp__law_is K))  : Cal P w K mg base 11 "_law_sets_right" ["well"] (sp__law_sets_right K) := by
  refine cal_mk T.F__law_sets_right T.g__law_sets_right sc__law_sets_right (len1 _) (fun _ _ _ _ _ _ us hl => match us, hl with | [_], _ => rfl) (fun cdv A outer s H vs Q E hr h => ?_)
  obtain ⟨v0, rfl, h⟩ := h
  have hu := hu_of hr
  refine ⟨_, (pss_cons (ps_set (i := 1) sc__law_sets_right.nd rfl (Or.inl rfl) (pe_cal c__law_draw hr (by decide) passL rfl (pa_cons (pv 0) (pa_cons pe_int pa_nil))))
      (pss_cons (ps_set (i := 2) sc__law_sets_right.nd rfl (Or.inl rfl) (pe_cal c__law_draw hr (by decide) passL rfl (pa_cons (pv 0) (pa_cons (pe_op op_add (pv 1) pe_int) pa_nil))))
      (pss_cons (ps_set (i := 3) sc__law_sets_right.nd rfl (Or.inl rfl) (pe_cal c__law_bad_number hr (by decide) passL rfl (pa_cons (pv 0) (pa_cons pe_int pa_nil))))
      (pss_cons (ps_set (i := 4) sc__law_sets_right.nd rfl (Or.inl rfl) (pe_cal c__law_bad_number hr (by decide) passL rfl (pa_cons (pv 0) (pa_cons pe_int pa_nil))))
      (pss_cons (ps_for (passes_of rfl) rfl (pi_q (pe_lstA (pa_cons (pe_lstA (pa_cons (pv 3) (pa_cons (pv 4) (pa_cons (pv 4) pa_nil)))) (pa_cons (pe_lstA (pa_cons (pv 3) (pa_cons pe_int (pa_cons pe_int pa_nil)))) pa_nil)))) (pg_name (i := 5) sc__law_sets_right.nd rfl (Or.inl rfl)) (pss_cons (ps_if (PW.pt (pw_or (pt_not (pt_val (pe_cal c__law_is hr (by decide) passL rfl (pa_cons pe_str (pa_cons (pv 5) (pa_cons pe_str (pa_cons (pv 3) pa_nil))))))) (pw_or1 (pt_not (pt_val (pe_cal c__law_is hr (by decide) passL rfl (pa_cons pe_str (pa_cons (pv 5) (pa_cons pe_str (pa_cons (pv 3) pa_nil)))))))))) (pss_one (ps_ret pe_bl)) pss_nil)
      (pss_one (ps_if (PW.pt (pw_or (pt_not (pt_val (pe_cal c__law_is hr (by decide) passL rfl (pa_cons pe_str (pa_cons (pv 5) (pa_cons pe_str (pa_cons (pv 3) pa_nil))))))) (pw_or1 (pt_not (pt_val (pe_cal c__law_is hr (by decide) passL rfl (pa_cons pe_str (pa_cons (pv 5) (pa_cons pe_str (pa_cons (pv 3) pa_nil)))))))))) (pss_one (ps_ret pe_bl)) pss_nil))))
      (pss_cons (ps_if (PW.pt (pw_or (pt_not (pt_val (pe_cal c__law_is hr (by decide) passL rfl (pa_cons pe_str (pa_cons (pe_lstA (pa_cons (pv 1) (pa_cons (pv 3) pa_nil))) (pa_cons pe_str (pa_cons (pv 3) pa_nil))))))) (pw_or1 (pt_not (pt_val (pe_cal c__law_is hr (by decide) passL rfl (pa_cons pe_str (pa_cons (pe_lstA (pa_cons (pv 1) (pa_cons (pv 3) (pa_cons (pv 4) pa_nil)))) (pa_cons pe_str (pa_cons (pv 3) pa_nil)))))))))) (pss_one (ps_ret pe_bl)) pss_nil)
      (pss_cons (ps_set (i := 6) sc__law_sets_right.nd rfl (Or.inl rfl) (pe_cal c__law_bad_number hr (by decide) passL rfl (pa_cons (pv 0) (pa_cons (pe_op op_pow pe_int pe_int) pa_nil))))
      (pss_cons (ps_if (PW.pt (pw_or (pt_not (pt_val (pe_cal c__law_is hr (by decide) passL rfl (pa_cons pe_str (pa_cons (pe_lstA (pa_cons (pv 1) (pa_cons (pv 2) (pa_cons (pv 6) pa_nil)))) (pa_cons pe_str (pa_cons (pv 6) pa_nil))))))) (pw_or1 (pt_not (pt_val (pe_cal c__law_is hr (by decide) passL rfl (pa_cons pe_str (pa_cons (pe_lstA (pa_cons (pv 1) (pa_cons (pv 2) (pa_cons pe_int pa_nil)))) (pa_cons pe_str (pa_cons pe_non pa_nil)))))))))) (pss_one (ps_ret pe_bl)) pss_nil)
      (pss_cons (ps_if (PW.pt (pw_and (pt_cmpR op_lt (pv 1) pe_int (nomark _)) (pw_and1 (pt_not (pt_val (pe_cal c__law_is hr (by decide) passL rfl (pa_cons pe_str (pa_cons (pe_lstA (pa_cons (pv 1) (pa_cons (pe_op op_add (pv 1) pe_int) (pa_cons pe_int pa_nil)))) (pa_cons pe_str (pa_cons pe_int pa_nil)))))))))) (pss_one (ps_ret pe_bl)) pss_nil)
      (pss_cons (ps_set (i := 3) sc__law_sets_right.nd rfl (Or.inl rfl) (pe_cal c__law_bad_set hr (by decide) passL rfl (pa_cons (pv 0) (pa_cons (pv 1) pa_nil))))
      (pss_one (ps_ret (pe_and (pe_cal c__law_is hr (by decide) passL rfl (pa_cons pe_str (pa_cons (pe_lstA (pa_cons (pv 1) (pa_cons (pv 3) pa_nil))) (pa_cons pe_str (pa_cons (pv 3) pa_nil))))) (pe_one (pe_cal c__law_is hr (by decide) passL rfl (pa_cons pe_str (pa_cons (pe_lstA (pa_cons (pv 1) (pa_cons (pv 3) pa_nil))) (pa_cons pe_str (pa_cons (pv 3) pa_nil))))))))))))))))))), ?_⟩
  obtain ⟨p, rfl, hw, q⟩ := h
  refine seqI fun r hr => ?_
  simp only [and_assoc, rst, rs, re, ra, rq, rx, ro, rl, rl2, rsp, rz, rix, rln, rg, rd, ri, rv, rk, rdd, rwi, at0, at1, at2, at3, upd_at, List.getElem?_cons_zero, List.getElem?_cons_succ, Option.some.injEq, exists_eq_left', exists_eq_left, List.set_cons_zero, List.set_cons_succ, true_and, and_true, HO.lst.injEq, HO.tup.injEq, exists_and_left, exists_eq, exists_eq', Br.t, Br.f, Be.t, Be.f, List.cons.injEq, List.append_nil, scal, if_true, if_false, ite_true, ite_false, eq_self_iff_true, decide_true, decide_false, Bool.not_true, Bool.not_false, reduceIte, List.nil_append, List.cons_append, reduceCtorEq, false_and, exists_false, false_or, or_false, Int.reduceLT, rnb, ral, rsq, rlu, rdp, Bool.true_or, Bool.false_or, Bool.or_false, Bool.or_true]
  refine draw_ok hw (by decide) (by decide) fun m G1 m0 m1 W1 => ?_
  subst hr
  refine seqI fun r hr => ?_
  simp only [and_assoc, rst, rs, re, ra, rq, rx, ro, rl, rl2, rsp, rz, rix, rln, rg, rd, ri, rv, rk, rdd, rwi, at0, at1, at2, at3, upd_at, List.getElem?_cons_zero, List.getElem?_cons_succ, Option.some.injEq, exists_eq_left', exists_eq_left, List.set_cons_zero, List.set_cons_succ, true_and, and_true, HO.lst.injEq, HO.tup.injEq, exists_and_left, exists_eq, exists_eq', Br.t, Br.f, Be.t, Be.f, List.cons.injEq, List.append_nil, scal, if_true, if_false, ite_true, ite_false, eq_self_iff_true, decide_true, decide_false, Bool.not_true, Bool.not_false, reduceIte, List.nil_append, List.cons_append, reduceCtorEq, false_and, exists_false, false_or, or_false, Int.reduceLT, rnb, ral, rsq, rlu, rdp, Bool.true_or, Bool.false_or, Bool.or_false, Bool.or_true]
  refine draw_ok W1.1 (by omega) (by omega) fun t G2 t0 t1 W2 => ?_
  subst hr
  refine seqI fun r hr => ?_
  simp only [and_assoc, rst, rs, re, ra, rq, rx, ro, rl, rl2, rsp, rz, rix, rln, rg, rd, ri, rv, rk, rdd, rwi, at0, at1, at2, at3, upd_at, List.getElem?_cons_zero, List.getElem?_cons_succ, Option.some.injEq, exists_eq_left', exists_eq_left, List.set_cons_zero, List.set_cons_succ, true_and, and_true, HO.lst.injEq, HO.tup.injEq, exists_and_left, exists_eq, exists_eq', Br.t, Br.f, Be.t, Be.f, List.cons.injEq, List.append_nil, scal, if_true, if_false, ite_true, ite_false, eq_self_iff_true, decide_true, decide_false, Bool.not_true, Bool.not_false, reduceIte, List.nil_append, List.cons_append, reduceCtorEq, false_and, exists_false, false_or, or_false, Int.reduceLT, rnb, ral, rsq, rlu, rdp, Bool.true_or, Bool.false_or, Bool.or_false, Bool.or_true]
  refine badn_ok W2.1 (by decide) (by decide) fun bad G3 W3 b3 => ?_
  subst hr
  refine seqI fun r hr => ?_
  simp only [and_assoc, rst, rs, re, ra, rq, rx, ro, rl, rl2, rsp, rz, rix, rln, rg, rd, ri, rv, rk, rdd, rwi, at0, at1, at2, at3, upd_at, List.getElem?_cons_zero, List.getElem?_cons_succ, Option.some.injEq, exists_eq_left', exists_eq_left, List.set_cons_zero, List.set_cons_succ, true_and, and_true, HO.lst.injEq, HO.tup.injEq, exists_and_left, exists_eq, exists_eq', Br.t, Br.f, Be.t, Be.f, List.cons.injEq, List.append_nil, scal, if_true, if_false, ite_true, ite_false, eq_self_iff_true, decide_true, decide_false, Bool.not_true, Bool.not_false, reduceIte, List.nil_append, List.cons_append, reduceCtorEq, false_and, exists_false, false_or, or_false, Int.reduceLT, rnb, ral, rsq, rlu, rdp, Bool.true_or, Bool.false_or, Bool.or_false, Bool.or_true]
  refine badn_ok W3.1 (by decide) (by decide) fun oth G4 W4 c3 => ?_
  have b3 : BadN (wo p G4) 60 bad := ⟨b3.1.same W4.2, b3.2⟩
  have W := (W1.trans W2).trans (W3.trans W4)
  obtain ⟨n, rfl⟩ : ∃ n : Nat, m = (n : Int) := ⟨m.toNat, by omega⟩
  obtain ⟨k, rfl⟩ : ∃ k : Nat, t = (k : Int) := ⟨t.toNat, by omega⟩
  clear W1 W2 W3 W4
  subst hr
  refine seqI fun r hr => ?_
  simp only [and_assoc, rst, rs, re, ra, rq, rx, ro, rl, rl2, rsp, rz, rix, rln, rg, rd, ri, rv, rk, rdd, rwi, at0, at1, at2, at3, upd_at, List.getElem?_cons_zero, List.getElem?_cons_succ, Option.some.injEq, exists_eq_left', exists_eq_left, List.set_cons_zero, List.set_cons_succ, true_and, and_true, HO.lst.injEq, HO.tup.injEq, exists_and_left, exists_eq, exists_eq', Br.t, Br.f, Be.t, Be.f, List.cons.injEq, List.append_nil, scal, if_true, if_false, ite_true, ite_false, eq_self_iff_true, decide_true, decide_false, Bool.not_true, Bool.not_false, reduceIte, List.nil_append, List.cons_append, reduceCtorEq, false_and, exists_false, false_or, or_false, Int.reduceLT, rnb, ral, rsq, rlu, rdp, Bool.true_or, Bool.false_or, Bool.or_false, Bool.or_true]
  refine fun p1 H1 a1 p2 H2 a2 p3 H3 a3 => ⟨_, a3.e, _, rfl, ?_⟩
  have S : Same (wo p G4) H3 := Same.trans wo_same (Same.trans a1.s (Same.trans a2.s (a3.s)))
  have tb : TyA (wo p G4) bad := b3.1.ty
  have tc : TyA (wo p G4) oth := c3.1.ty
  have wb : within bad 0 60 = false := badN_w b3 (by decide)
  have nb := b3.1
  refine FI.seq rfl (fun i σ H' => ∃ v8, Same H3 H' ∧ σ = [some (.ref p), some (.int n), some (.int k), some bad, some oth, v8, none]) ⟨none, fun _ _ e => e, rfl⟩ (fun i σ H' _ ⟨_, s, _⟩ => s _ _ a3.e) ?_ ?_
  · rintro i x σ H' hx ⟨v8, s, rfl⟩
    have hm := List.mem_of_getElem? hx
    simp only [List.mem_cons, List.not_mem_nil, or_false] at hm
    obtain ⟨px, y, z, rfl, hx, ty, tz⟩ : ∃ (px : Addr) (y z : V), x = .ref px ∧ H' px = some (.lst [bad, y, z]) ∧ TyA H' y ∧ TyA H' z := by
      rcases hm with rfl | rfl
      · exact ⟨p1, _, _, rfl, s _ _ (Al.k a3 (Al.k a2 (Al.e a1))), tc.same (Same.trans S s), tc.same (Same.trans S s)⟩
      · exact ⟨p2, _, _, rfl, s _ _ (Al.k a3 (Al.e a2)), ⟨_, rfl⟩, ⟨_, rfl⟩⟩
    have tb := tb.same (Same.trans S s)
    have nb := nb.same (Same.trans S s)
    simp only [and_assoc, rst, rs, re, ra, rq, rx, ro, rl, rl2, rsp, rz, rix, rln, rg, rd, ri, rv, rk, rdd, rwi, at0, at1, at2, at3, upd_at, List.getElem?_cons_zero, List.getElem?_cons_succ, Option.some.injEq, exists_eq_left', exists_eq_left, List.set_cons_zero, List.set_cons_succ, true_and, and_true, HO.lst.injEq, HO.tup.injEq, exists_and_left, exists_eq, exists_eq', Br.t, Br.f, Be.t, Be.f, List.cons.injEq, List.append_nil, scal, if_true, if_false, ite_true, ite_false, eq_self_iff_true, decide_true, decide_false, Bool.not_true, Bool.not_false, reduceIte, List.nil_append, List.cons_append, reduceCtorEq, false_and, exists_false, false_or, or_false, Int.reduceLT, rnb, ral, rsq, rlu, rdp, Bool.true_or, Bool.false_or, Bool.or_false, Bool.or_true]
    refine is_num (G := H') (fun _ _ e => e) (.inr (.sets1 tb ty wb)) hx nb fun J1 s1 => ?_
    simp only [and_assoc, rst, rs, re, ra, rq, rx, ro, rl, rl2, rsp, rz, rix, rln, rg, rd, ri, rv, rk, rdd, rwi, at0, at1, at2, at3, upd_at, List.getElem?_cons_zero, List.getElem?_cons_succ, Option.some.injEq, exists_eq_left', exists_eq_left, List.set_cons_zero, List.set_cons_succ, true_and, and_true, HO.lst.injEq, HO.tup.injEq, exists_and_left, exists_eq, exists_eq', Br.t, Br.f, Be.t, Be.f, List.cons.injEq, List.append_nil, scal, if_true, if_false, ite_true, ite_false, eq_self_iff_true, decide_true, decide_false, Bool.not_true, Bool.not_false, reduceIte, List.nil_append, List.cons_append, reduceCtorEq, false_and, exists_false, false_or, or_false, Int.reduceLT, rnb, ral, rsq, rlu, rdp, Bool.true_or, Bool.false_or, Bool.or_false, Bool.or_true]
    refine is_num (G := H') s1 (.inr (.set1 tb ty tz wb)) (s1 _ _ hx) nb fun J2 s2 => ?_
    simp only [and_assoc, rst, rs, re, ra, rq, rx, ro, rl, rl2, rsp, rz, rix, rln, rg, rd, ri, rv, rk, rdd, rwi, at0, at1, at2, at3, upd_at, List.getElem?_cons_zero, List.getElem?_cons_succ, Option.some.injEq, exists_eq_left', exists_eq_left, List.set_cons_zero, List.set_cons_succ, true_and, and_true, HO.lst.injEq, HO.tup.injEq, exists_and_left, exists_eq, exists_eq', Br.t, Br.f, Be.t, Be.f, List.cons.injEq, List.append_nil, scal, if_true, if_false, ite_true, ite_false, eq_self_iff_true, decide_true, decide_false, Bool.not_true, Bool.not_false, reduceIte, List.nil_append, List.cons_append, reduceCtorEq, false_and, exists_false, false_or, or_false, Int.reduceLT, rnb, ral, rsq, rlu, rdp, Bool.true_or, Bool.false_or, Bool.or_false, Bool.or_true]
    have S2 := Same.trans s1 s2
    refine is_num (G := H') S2 (.inr (.srank1 tb wb)) (S2 _ _ hx) nb fun J3 s3 => ?_
    simp only [and_assoc, rst, rs, re, ra, rq, rx, ro, rl, rl2, rsp, rz, rix, rln, rg, rd, ri, rv, rk, rdd, rwi, at0, at1, at2, at3, upd_at, List.getElem?_cons_zero, List.getElem?_cons_succ, Option.some.injEq, exists_eq_left', exists_eq_left, List.set_cons_zero, List.set_cons_succ, true_and, and_true, HO.lst.injEq, HO.tup.injEq, exists_and_left, exists_eq, exists_eq', Br.t, Br.f, Be.t, Be.f, List.cons.injEq, List.append_nil, scal, if_true, if_false, ite_true, ite_false, eq_self_iff_true, decide_true, decide_false, Bool.not_true, Bool.not_false, reduceIte, List.nil_append, List.cons_append, reduceCtorEq, false_and, exists_false, false_or, or_false, Int.reduceLT, rnb, ral, rsq, rlu, rdp, Bool.true_or, Bool.false_or, Bool.or_false, Bool.or_true]
    have S3 := Same.trans S2 s3
    refine is_num (G := H') S3 (.inr (.snext1 tb wb)) (S3 _ _ hx) nb fun J4 s4 => ?_
    simp only [and_assoc, rst, rs, re, ra, rq, rx, ro, rl, rl2, rsp, rz, rix, rln, rg, rd, ri, rv, rk, rdd, rwi, at0, at1, at2, at3, upd_at, List.getElem?_cons_zero, List.getElem?_cons_succ, Option.some.injEq, exists_eq_left', exists_eq_left, List.set_cons_zero, List.set_cons_succ, true_and, and_true, HO.lst.injEq, HO.tup.injEq, exists_and_left, exists_eq, exists_eq', Br.t, Br.f, Be.t, Be.f, List.cons.injEq, List.append_nil, scal, if_true, if_false, ite_true, ite_false, eq_self_iff_true, decide_true, decide_false, Bool.not_true, Bool.not_false, reduceIte, List.nil_append, List.cons_append, reduceCtorEq, false_and, exists_false, false_or, or_false, Int.reduceLT, rnb, ral, rsq, rlu, rdp, Bool.true_or, Bool.false_or, Bool.or_false, Bool.or_true]
    exact Same.trans s (Same.trans S3 s4)
  rintro σ H' ⟨v8, s, rfl⟩
  have T := (Wl.of_same W.1 (Same.trans (Same.trans a1.s (Same.trans a2.s (a3.s))) s))
  have nb := nb.same T.2
  have tb := tb.same T.2
  have tc := tc.same T.2
  have W := W.trans T
  clear T a1 a2 a3 s b3 c3 S
  subst hr
  dsimp only
  refine seqI fun r hr => ?_
  simp only [and_assoc, rst, rs, re, ra, rq, rx, ro, rl, rl2, rsp, rz, rix, rln, rg, rd, ri, rv, rk, rdd, rwi, at0, at1, at2, at3, upd_at, List.getElem?_cons_zero, List.getElem?_cons_succ, Option.some.injEq, exists_eq_left', exists_eq_left, List.set_cons_zero, List.set_cons_succ, true_and, and_true, HO.lst.injEq, HO.tup.injEq, exists_and_left, exists_eq, exists_eq', Br.t, Br.f, Be.t, Be.f, List.cons.injEq, List.append_nil, scal, if_true, if_false, ite_true, ite_false, eq_self_iff_true, decide_true, decide_false, Bool.not_true, Bool.not_false, reduceIte, List.nil_append, List.cons_append, reduceCtorEq, false_and, exists_false, false_or, or_false, Int.reduceLT, rnb, ral, rsq, rlu, rdp, Bool.true_or, Bool.false_or, Bool.or_false, Bool.or_true]
  refine fun p1 H1 a1 => is_num (G := wo p H') (Same.trans wo_same a1.s) (.inr (.sets2 (by omega) tb wb)) a1.e nb fun H2 s2 => ?_
  simp only [and_assoc, rst, rs, re, ra, rq, rx, ro, rl, rl2, rsp, rz, rix, rln, rg, rd, ri, rv, rk, rdd, rwi, at0, at1, at2, at3, upd_at, List.getElem?_cons_zero, List.getElem?_cons_succ, Option.some.injEq, exists_eq_left', exists_eq_left, List.set_cons_zero, List.set_cons_succ, true_and, and_true, HO.lst.injEq, HO.tup.injEq, exists_and_left, exists_eq, exists_eq', Br.t, Br.f, Be.t, Be.f, List.cons.injEq, List.append_nil, scal, if_true, if_false, ite_true, ite_false, eq_self_iff_true, decide_true, decide_false, Bool.not_true, Bool.not_false, reduceIte, List.nil_append, List.cons_append, reduceCtorEq, false_and, exists_false, false_or, or_false, Int.reduceLT, rnb, ral, rsq, rlu, rdp, Bool.true_or, Bool.false_or, Bool.or_false, Bool.or_true]
  refine fun p3 H3 a3 => is_num (G := wo p H') (Same.trans wo_same (Same.trans a1.s (Same.trans s2 a3.s))) (.inr (.set2 (by omega) tb tc wb)) a3.e nb fun H4 s4 => ?_
  simp only [and_assoc, rst, rs, re, ra, rq, rx, ro, rl, rl2, rsp, rz, rix, rln, rg, rd, ri, rv, rk, rdd, rwi, at0, at1, at2, at3, upd_at, List.getElem?_cons_zero, List.getElem?_cons_succ, Option.some.injEq, exists_eq_left', exists_eq_left, List.set_cons_zero, List.set_cons_succ, true_and, and_true, HO.lst.injEq, HO.tup.injEq, exists_and_left, exists_eq, exists_eq', Br.t, Br.f, Be.t, Be.f, List.cons.injEq, List.append_nil, scal, if_true, if_false, ite_true, ite_false, eq_self_iff_true, decide_true, decide_false, Bool.not_true, Bool.not_false, reduceIte, List.nil_append, List.cons_append, reduceCtorEq, false_and, exists_false, false_or, or_false, Int.reduceLT, rnb, ral, rsq, rlu, rdp, Bool.true_or, Bool.false_or, Bool.or_false, Bool.or_true]
  have W := W.trans (Wl.of_same W.1 (Same.trans a1.s (Same.trans s2 (Same.trans a3.s s4))))
  clear a1 s2 a3 s4 nb tb tc
  subst hr
  refine seqI fun r hr => ?_
  simp only [and_assoc, rst, rs, re, ra, rq, rx, ro, rl, rl2, rsp, rz, rix, rln, rg, rd, ri, rv, rk, rdd, rwi, at0, at1, at2, at3, upd_at, List.getElem?_cons_zero, List.getElem?_cons_succ, Option.some.injEq, exists_eq_left', exists_eq_left, List.set_cons_zero, List.set_cons_succ, true_and, and_true, HO.lst.injEq, HO.tup.injEq, exists_and_left, exists_eq, exists_eq', Br.t, Br.f, Be.t, Be.f, List.cons.injEq, List.append_nil, scal, if_true, if_false, ite_true, ite_false, eq_self_iff_true, decide_true, decide_false, Bool.not_true, Bool.not_false, reduceIte, List.nil_append, List.cons_append, reduceCtorEq, false_and, exists_false, false_or, or_false, Int.reduceLT, rnb, ral, rsq, rlu, rdp, Bool.true_or, Bool.false_or, Bool.or_false, Bool.or_true]
  refine ⟨⟨by decide, by decide, by decide⟩, badn_ok W.1 (by decide) (by decide) fun rank G5 W5 b5 => ?_⟩
  have W := W.trans W5
  subst hr
  refine seqI fun r hr => ?_
  simp only [and_assoc, rst, rs, re, ra, rq, rx, ro, rl, rl2, rsp, rz, rix, rln, rg, rd, ri, rv, rk, rdd, rwi, at0, at1, at2, at3, upd_at, List.getElem?_cons_zero, List.getElem?_cons_succ, Option.some.injEq, exists_eq_left', exists_eq_left, List.set_cons_zero, List.set_cons_succ, true_and, and_true, HO.lst.injEq, HO.tup.injEq, exists_and_left, exists_eq, exists_eq', Br.t, Br.f, Be.t, Be.f, List.cons.injEq, List.append_nil, scal, if_true, if_false, ite_true, ite_false, eq_self_iff_true, decide_true, decide_false, Bool.not_true, Bool.not_false, reduceIte, List.nil_append, List.cons_append, reduceCtorEq, false_and, exists_false, false_or, or_false, Int.reduceLT, rnb, ral, rsq, rlu, rdp, Bool.true_or, Bool.false_or, Bool.or_false, Bool.or_true]
  have wk : wys n k ≤ 10 ^ 18 := by
    rw [wys, if_neg (by omega)]
    exact (wl_ok n (by omega) k (by omega)).2
  refine fun p1 H1 a1 => is_num (G := wo p G5) (Same.trans wo_same a1.s) (.inr (.set3 (by omega) (by omega) b5.1.ty (badN_w b5 (Int.le_trans (by omega : wys n k - 1 ≤ 10 ^ 18) (by decide))))) a1.e b5.1 fun H2 s2 => ?_
  simp only [and_assoc, rst, rs, re, ra, rq, rx, ro, rl, rl2, rsp, rz, rix, rln, rg, rd, ri, rv, rk, rdd, rwi, at0, at1, at2, at3, upd_at, List.getElem?_cons_zero, List.getElem?_cons_succ, Option.some.injEq, exists_eq_left', exists_eq_left, List.set_cons_zero, List.set_cons_succ, true_and, and_true, HO.lst.injEq, HO.tup.injEq, exists_and_left, exists_eq, exists_eq', Br.t, Br.f, Be.t, Be.f, List.cons.injEq, List.append_nil, scal, if_true, if_false, ite_true, ite_false, eq_self_iff_true, decide_true, decide_false, Bool.not_true, Bool.not_false, reduceIte, List.nil_append, List.cons_append, reduceCtorEq, false_and, exists_false, false_or, or_false, Int.reduceLT, rnb, ral, rsq, rlu, rdp, Bool.true_or, Bool.false_or, Bool.or_false, Bool.or_true]
  refine fun p3 H3 a3 => is_let (G := H3) (fun _ _ e => e) (.inr (.set4 (by omega) (by omega))) a3.e fun H4 s4 => ?_
  simp only [and_assoc, rst, rs, re, ra, rq, rx, ro, rl, rl2, rsp, rz, rix, rln, rg, rd, ri, rv, rk, rdd, rwi, at0, at1, at2, at3, upd_at, List.getElem?_cons_zero, List.getElem?_cons_succ, Option.some.injEq, exists_eq_left', exists_eq_left, List.set_cons_zero, List.set_cons_succ, true_and, and_true, HO.lst.injEq, HO.tup.injEq, exists_and_left, exists_eq, exists_eq', Br.t, Br.f, Be.t, Be.f, List.cons.injEq, List.append_nil, scal, if_true, if_false, ite_true, ite_false, eq_self_iff_true, decide_true, decide_false, Bool.not_true, Bool.not_false, reduceIte, List.nil_append, List.cons_append, reduceCtorEq, false_and, exists_false, false_or, or_false, Int.reduceLT, rnb, ral, rsq, rlu, rdp, Bool.true_or, Bool.false_or, Bool.or_false, Bool.or_true]
  have W := W.trans (Wl.of_same W.1 (Same.trans a1.s (Same.trans s2 (Same.trans a3.s s4))))
  clear a1 s2 a3 s4 W5 b5
  subst hr
  refine seqI fun r hr => ?_
  simp only [and_assoc, rst, rs, re, ra, rq, rx, ro, rl, rl2, rsp, rz, rix, rln, rg, rd, ri, rv, rk, rdd, rwi, at0, at1, at2, at3, upd_at, List.getElem?_cons_zero, List.getElem?_cons_succ, Option.some.injEq, exists_eq_left', exists_eq_left, List.set_cons_zero, List.set_cons_succ, true_and, and_true, HO.lst.injEq, HO.tup.injEq, exists_and_left, exists_eq, exists_eq', Br.t, Br.f, Be.t, Be.f, List.cons.injEq, List.append_nil, scal, if_true, if_false, ite_true, ite_false, eq_self_iff_true, decide_true, decide_false, Bool.not_true, Bool.not_false, reduceIte, List.nil_append, List.cons_append, reduceCtorEq, false_and, exists_false, false_or, or_false, Int.reduceLT, rnb, ral, rsq, rlu, rdp, Bool.true_or, Bool.false_or, Bool.or_false, Bool.or_true]
  have fin : ∀ X, Wl p H X → r { nx := fun _ H' => Q .non H', rt := Q } [some (V.ref p), some (V.int ↑n), some (V.int ↑k), some bad, some oth, v8, some rank] X := by
    intro X W
    subst hr
    refine seqI fun r hr => ?_
    simp only [and_assoc, rst, rs, re, ra, rq, rx, ro, rl, rl2, rsp, rz, rix, rln, rg, rd, ri, rv, rk, rdd, rwi, at0, at1, at2, at3, upd_at, List.getElem?_cons_zero, List.getElem?_cons_succ, Option.some.injEq, exists_eq_left', exists_eq_left, List.set_cons_zero, List.set_cons_succ, true_and, and_true, HO.lst.injEq, HO.tup.injEq, exists_and_left, exists_eq, exists_eq', Br.t, Br.f, Be.t, Be.f, List.cons.injEq, List.append_nil, scal, if_true, if_false, ite_true, ite_false, eq_self_iff_true, decide_true, decide_false, Bool.not_true, Bool.not_false, reduceIte, List.nil_append, List.cons_append, reduceCtorEq, false_and, exists_false, false_or, or_false, Int.reduceLT, rnb, ral, rsq, rlu, rdp, Bool.true_or, Bool.false_or, Bool.or_false, Bool.or_true]
    refine ⟨_, _, rfl, p, n, rfl, W.1, rfl, fun b G7 W7 n7 o7 => ?_⟩
    have W := W.trans W7
    subst hr
    simp only [and_assoc, rst, rs, re, ra, rq, rx, ro, rl, rl2, rsp, rz, rix, rln, rg, rd, ri, rv, rk, rdd, rwi, at0, at1, at2, at3, upd_at, List.getElem?_cons_zero, List.getElem?_cons_succ, Option.some.injEq, exists_eq_left', exists_eq_left, List.set_cons_zero, List.set_cons_succ, true_and, and_true, HO.lst.injEq, HO.tup.injEq, exists_and_left, exists_eq, exists_eq', Br.t, Br.f, Be.t, Be.f, List.cons.injEq, List.append_nil, scal, if_true, if_false, ite_true, ite_false, eq_self_iff_true, decide_true, decide_false, Bool.not_true, Bool.not_false, reduceIte, List.nil_append, List.cons_append, reduceCtorEq, false_and, exists_false, false_or, or_false, Int.reduceLT, rnb, ral, rsq, rlu, rdp, Bool.true_or, Bool.false_or, Bool.or_false, Bool.or_true]
    refine fun p1 H1 a1 => is_set (G := wo p G7) (Same.trans wo_same a1.s) (.inr (.srank2 (by omega) o7)) a1.e n7 fun H2 s2 => ?_
    simp only [and_assoc, rst, rs, re, ra, rq, rx, ro, rl, rl2, rsp, rz, rix, rln, rg, rd, ri, rv, rk, rdd, rwi, at0, at1, at2, at3, upd_at, List.getElem?_cons_zero, List.getElem?_cons_succ, Option.some.injEq, exists_eq_left', exists_eq_left, List.set_cons_zero, List.set_cons_succ, true_and, and_true, HO.lst.injEq, HO.tup.injEq, exists_and_left, exists_eq, exists_eq', Br.t, Br.f, Be.t, Be.f, List.cons.injEq, List.append_nil, scal, if_true, if_false, ite_true, ite_false, eq_self_iff_true, decide_true, decide_false, Bool.not_true, Bool.not_false, reduceIte, List.nil_append, List.cons_append, reduceCtorEq, false_and, exists_false, false_or, or_false, Int.reduceLT, rnb, ral, rsq, rlu, rdp, Bool.true_or, Bool.false_or, Bool.or_false, Bool.or_true]
    refine fun p3 H3 a3 => is_set (G := wo p G7) (Same.trans wo_same (Same.trans a1.s (Same.trans s2 a3.s))) (.inr (.snext2 (by omega) o7)) a3.e n7 fun H4 s4 => ?_
    exact q _ (W.trans (Wl.of_same W.1 (Same.trans a1.s (Same.trans s2 (Same.trans a3.s s4)))))
  refine Be.d (fun c => ?_) fun _ => fin _ W
  refine fun p1 H1 a1 => is_num (G := H1) (fun _ _ e => e) (.inr ?_) a1.e (.inl (.inl rfl)) fun H2 s2 => ?_
  · rw [show (n : Int) + 1 = ((n + 1 : Nat) : Int) by omega]
    exact .set3 (by omega) (by omega) ⟨_, rfl⟩ (by rw [wys, if_pos (by omega)]; rfl)
  simp only [and_assoc, rst, rs, re, ra, rq, rx, ro, rl, rl2, rsp, rz, rix, rln, rg, rd, ri, rv, rk, rdd, rwi, at0, at1, at2, at3, upd_at, List.getElem?_cons_zero, List.getElem?_cons_succ, Option.some.injEq, exists_eq_left', exists_eq_left, List.set_cons_zero, List.set_cons_succ, true_and, and_true, HO.lst.injEq, HO.tup.injEq, exists_and_left, exists_eq, exists_eq', Br.t, Br.f, Be.t, Be.f, List.cons.injEq, List.append_nil, scal, if_true, if_false, ite_true, ite_false, eq_self_iff_true, decide_true, decide_false, Bool.not_true, Bool.not_false, reduceIte, List.nil_append, List.cons_append, reduceCtorEq, false_and, exists_false, false_or, or_false, Int.reduceLT, rnb, ral, rsq, rlu, rdp, Bool.true_or, Bool.false_or, Bool.or_false, Bool.or_true]
  exact fin _ (W.trans (Wl.of_same W.1 (Same.trans a1.s s2)))
end
end Law

-- RDX rnb, ral, rsq, rlu, rdp, Bool.true_or, Bool.false_or, Bool.or_false, Bool.or_true
set_option pp.deepTerms true
set_option pp.maxSteps 100000
namespace Law
open PySem PySem.Spec PyProof.Rows L2 Sw
section
variable {P : Program} {w : World} {K : Fg} {mg : Str → Option Value} {base : Heap}
theorem ok__law_shares_right (T : Tx K mg w) (c__law_draw : Cal P w K mg base 1 "_law_draw" ["well", "many"] (sp__law_draw K)) (c__law_bad_number : Cal P w K mg base 2 "_law_bad_number" ["well", "last"] (sp__law_bad_number K)) (c__law_bad_shares : Cal P w K mg base 2 "_law_bad_shares" ["well"] (sp__law_bad_shares K)) (c__law_is : Cal P w K mg base 10 "_law_is" ["door", "things", "word", "thing"] (sp__law_is K))  : Cal P w K mg base 11 "_law_shares_right" ["well"] (sp__law_shares_right K) := by
  refine cal_mk T.F__law_shares_right T.g__law_shares_right sc__law_shares_right (len1 _) (fun _ _ _ _ _ _ us hl => match us, hl with | [_], _ => rfl) (fun cdv A outer s H vs Q E hr h => ?_)
  obtain ⟨v0, rfl, h⟩ := h
  have hu := hu_of hr
  refine ⟨_, (pss_cons (ps_set (i := 1) sc__law_shares_right.nd rfl (Or.inl rfl) (pe_op op_catAl (pe_lc (own := [("k", 8)]) (g := (gName 8)) rfl sc__law_shares_right.nd (pi_range1 (by rfl) T.n_range (pa_cons (pe_op op_add pe_int (pe_cal c__law_draw hr (by decide) passL rfl (pa_cons (pv 0) (pa_cons pe_int pa_nil)))) pa_nil)) (blkOk_by (N := nm__law_shares_right) (sc := defScope s__law_shares_right) (by decide +kernel)) (fun _ _ _ _ _ => (pg_name (i := 8) sc__law_shares_right.nd rfl (Or.inl rfl))) (fun _ _ _ _ _ => pts_nil) (fun _ _ _ _ _ => (pe_cal c__law_draw hr (by decide) passL rfl (pa_cons (pv 0) (pa_cons pe_int pa_nil))))) (pe_lstA (pa_cons pe_int pa_nil))))
      (pss_cons (ps_set (i := 2) sc__law_shares_right.nd rfl (Or.inl rfl) (pe_cal c__law_bad_shares hr (by decide) passL rfl (pa_cons (pv 0) pa_nil)))
      (pss_cons (ps_for (passes_of rfl) rfl (pi_q (pe_lstA (pa_cons pe_str (pa_cons pe_str (pa_cons pe_str (pa_cons pe_str (pa_cons pe_str pa_nil))))))) (pg_name (i := 3) sc__law_shares_right.nd rfl (Or.inl rfl)) (pss_one (ps_if (pt_not (pt_val (pe_cal c__law_is hr (by decide) passL rfl (pa_cons (pv 3) (pa_cons (pe_lstA (pa_cons (pv 2) (pa_cons pe_non (pa_cons pe_non pa_nil)))) (pa_cons pe_str (pa_cons (pv 2) pa_nil))))))) (pss_one (ps_ret pe_bl)) pss_nil)))
      (pss_cons (ps_set (i := 4) sc__law_shares_right.nd rfl (Or.inl rfl) (pe_cal c__law_bad_number hr (by decide) passL rfl (pa_cons (pv 0) (pa_cons (pe_op op_sub (pe_callB (cr_sum rfl) (by rfl) T.n_sum (by decide +kernel) (pa_cons (pv 1) pa_nil)) pe_int) pa_nil))))
      (pss_cons (ps_for (passes_of rfl) rfl (pi_q (pe_lstA (pa_cons pe_str (pa_cons pe_str pa_nil)))) (pg_name (i := 3) sc__law_shares_right.nd rfl (Or.inl rfl)) (pss_one (ps_if (pt_not (pt_val (pe_cal c__law_is hr (by decide) passL rfl (pa_cons (pv 3) (pa_cons (pe_lstA (pa_cons (pv 1) (pa_cons (pv 4) pa_nil))) (pa_cons pe_str (pa_cons (pv 4) pa_nil))))))) (pss_one (ps_ret pe_bl)) pss_nil)))
      (pss_cons (ps_set (i := 5) sc__law_shares_right.nd rfl (Or.inl rfl) (pe_cal c__law_bad_number hr (by decide) passL rfl (pa_cons (pv 0) (pa_cons (pe_op op_sub (pe_callB len_q (by rfl) T.n_len (by decide +kernel) (pa_cons (pv 1) pa_nil)) pe_int) pa_nil))))
      (pss_cons (ps_if (pt_not (pt_val (pe_cal c__law_is hr (by decide) passL rfl (pa_cons pe_str (pa_cons (pe_lstA (pa_cons (pv 1) (pa_cons (pv 5) pa_nil))) (pa_cons pe_str (pa_cons (pv 5) pa_nil))))))) (pss_one (ps_ret pe_bl)) pss_nil)
      (pss_cons (ps_if (pt_not (pt_val (pe_cal c__law_is hr (by decide) passL rfl (pa_cons pe_str (pa_cons (pe_lstA (pa_cons (pv 1) (pa_cons (pv 5) (pa_cons pe_non pa_nil)))) (pa_cons pe_str (pa_cons (pv 5) pa_nil))))))) (pss_one (ps_ret pe_bl)) pss_nil)
      (pss_cons (ps_set (i := 6) sc__law_shares_right.nd rfl (Or.inl rfl) (pe_cal c__law_draw hr (by decide) passL rfl (pa_cons (pv 0) (pa_cons (pe_callB len_q (by rfl) T.n_len (by decide +kernel) (pa_cons (pv 1) pa_nil)) pa_nil))))
      (pss_cons (ps_set (i := 7) sc__law_shares_right.nd rfl (Or.inl rfl) (pe_cal c__law_bad_number hr (by decide) passL rfl (pa_cons (pv 0) (pa_cons (pe_op op_sub (pe_ix ix_q (pv 1) (pv 6) (fun _ _ => rfl)) pe_int) pa_nil))))
      (pss_cons (ps_if (pt_not (pt_val (pe_cal c__law_is hr (by decide) passL rfl (pa_cons pe_str (pa_cons (pe_lstA (pa_cons (pv 1) (pa_cons (pv 6) (pa_cons (pv 7) pa_nil)))) (pa_cons pe_str (pa_cons (pv 7) pa_nil))))))) (pss_one (ps_ret pe_bl)) pss_nil)
      (pss_cons (ps_if (pt_not (pt_val (pe_cal c__law_is hr (by decide) passL rfl (pa_cons pe_str (pa_cons (pe_lstA (pa_cons (pv 1) (pa_cons (pe_op op_sub (pe_callB (cr_sum rfl) (by rfl) T.n_sum (by decide +kernel) (pa_cons (pv 1) pa_nil)) pe_int) pa_nil))) (pa_cons pe_str (pa_cons pe_non pa_nil))))))) (pss_one (ps_ret pe_bl)) pss_nil)
      (pss_one (ps_ret (pe_cal c__law_is hr (by decide) passL rfl (pa_cons pe_str (pa_cons (pe_lstA (pa_cons (pv 1) (pa_cons (pv 6) pa_nil))) (pa_cons pe_str (pa_cons pe_non pa_nil))))))))))))))))))), ?_⟩
  obtain ⟨p, rfl, hw, q⟩ := h
  refine seqI fun r hr => ?_
  simp only [and_assoc, rst, rs, re, ra, rq, rx, ro, rl, rl2, rsp, rz, rix, rln, rg, rd, ri, rv, rk, rdd, rwi, at0, at1, at2, at3, upd_at, List.getElem?_cons_zero, List.getElem?_cons_succ, Option.some.injEq, exists_eq_left', exists_eq_left, List.set_cons_zero, List.set_cons_succ, true_and, and_true, HO.lst.injEq, HO.tup.injEq, exists_and_left, exists_eq, exists_eq', Br.t, Br.f, Be.t, Be.f, List.cons.injEq, List.append_nil, scal, if_true, if_false, ite_true, ite_false, eq_self_iff_true, decide_true, decide_false, Bool.not_true, Bool.not_false, reduceIte, List.nil_append, List.cons_append, reduceCtorEq, false_and, exists_false, false_or, or_false, Int.reduceLT, rnb, ral, rsq, rlu, rdp, Bool.true_or, Bool.false_or, Bool.or_false, Bool.or_true]
  refine draw_ok hw (by decide) (by decide) fun m G1 m0 m1 W1 => ?_
  refine ⟨m, rfl, by omega, by omega, LC.rng (fun D i H' => ∃ ns : List Int, Wl p G1 H' ∧ H' D = some (.lst (ns.map V.int)) ∧ ns.length = i ∧ ∀ z ∈ ns, 0 ≤ z ∧ z < 5) (fun D hD => ⟨[], Wl.of_same W1.1 (Same.new hD), upd_same, rfl, fun z e => by simp at e⟩) ?_ ?_⟩
  · rintro D i H' hD hi ⟨ns, s, h1, hl, hz⟩
    have nD : D ≠ p := fun e => by
      subst e
      obtain ⟨y0, y1, y2, e1⟩ := W1.1
      rw [hD] at e1
      cases e1
    simp only [and_assoc, rst, rs, re, ra, rq, rx, ro, rl, rl2, rsp, rz, rix, rln, rg, rd, ri, rv, rk, rdd, rwi, at0, at1, at2, at3, upd_at, List.getElem?_cons_zero, List.getElem?_cons_succ, Option.some.injEq, exists_eq_left', exists_eq_left, List.set_cons_zero, List.set_cons_succ, true_and, and_true, HO.lst.injEq, HO.tup.injEq, exists_and_left, exists_eq, exists_eq', Br.t, Br.f, Be.t, Be.f, List.cons.injEq, List.append_nil, scal, if_true, if_false, ite_true, ite_false, eq_self_iff_true, decide_true, decide_false, Bool.not_true, Bool.not_false, reduceIte, List.nil_append, List.cons_append, reduceCtorEq, false_and, exists_false, false_or, or_false, Int.reduceLT, rnb, ral, rsq, rlu, rdp, Bool.true_or, Bool.false_or, Bool.or_false, Bool.or_true]
    refine draw_ok s.1 (by decide) (by decide) fun x H2 x0 x1 wx => ?_
    refine ⟨_, wx.at nD h1, by rw [sizeLine_eq, List.length_map]; omega, (s.trans wx).mut nD hD, ns ++ [x], by rw [List.map_append]; rfl, by rw [List.length_append, hl]; rfl, fun z e => ?_⟩
    rcases List.mem_append.mp e with e | e
    · exact hz z e
    · rw [List.mem_singleton.mp e]
      exact ⟨x0, x1⟩
  rintro D H3 hD ⟨ns, s3, h1, hl, hz⟩
  have W := W1.trans s3
  refine fun p4 H4 a4 => ⟨D, rfl, _, a4.k h1, _, a4.e, by rw [sizeLine_eq]; simp <;> omega, fun p5 H5 a5 => ?_⟩
  have n5 := a5.nw (Well.same a4.s W.1)
  have T := Wl.of_same W.1 (Same.trans a4.s a5.s)
  have hx : wo p H5 p5 = some (.lst ((ns ++ [1]).map V.int)) := (wo_at n5).trans (a5.e.trans (by rw [List.map_append]; rfl))
  have W := W.trans T
  have lz : (ns ++ [1]).length ≤ 9 := by simp <;> omega
  have bz : ∀ z ∈ ns ++ [1], 0 ≤ z ∧ z < 5 := fun z e => by
    rcases List.mem_append.mp e with e | e
    · exact hz z e
    · rw [List.mem_singleton.mp e]
      decide
  have sz : 1 ≤ (ns ++ [1]).sum := by
    have : ∀ l : List Int, (∀ z ∈ l, 0 ≤ z ∧ z < 5) → 0 ≤ l.sum := by
      intro l
      induction l with
      | nil => intro _; simp
      | cons a l ih =>
        intro h
        have h1 := h a (by simp)
        have h2 := ih fun z hz => h z (List.mem_cons_of_mem _ hz)
        rw [List.sum_cons]
        omega
    have h0 := this ns hz
    rw [List.sum_append]
    simp
    omega
  have uz : (ns ++ [1]).sum < 10 ^ 9 := by
    have : ∀ l : List Int, (∀ z ∈ l, 0 ≤ z ∧ z < 5) → l.sum ≤ 4 * (l.length : Int) := by
      intro l
      induction l with
      | nil => intro _; simp
      | cons a l ih =>
        intro h
        have h1 := h a (by simp)
        have h2 := ih fun z hz => h z (List.mem_cons_of_mem _ hz)
        rw [List.sum_cons, List.length_cons]
        omega
    have := this _ bz
    omega
  have lz1 : 1 ≤ (ns ++ [1]).length := by simp
  generalize ns ++ [1] = ms at hx lz bz sz uz lz1
  have oms : ShIs (wo p H5) (.ref p5) true := by
    refine .inl ⟨ms.map V.int, ⟨p5, _, rfl, hx, rfl⟩, fun x hx => ?_, ?_⟩
    · obtain ⟨j, _, rfl⟩ := List.mem_map.mp hx
      exact ⟨_, rfl⟩
    · have e1 : (ms.map V.int).map numV = ms := by
        rw [List.map_map]
        exact (List.map_congr_left fun x _ => rfl).trans (List.map_id _)
      rw [shL, e1, decide_eq_true (by rw [List.length_map]; omega : 1 ≤ (ms.map V.int).length ∧ (ms.map V.int).length ≤ 60), decide_eq_true (by omega : ms.sum ≠ 0), decide_eq_true]
      · rfl
      · intro x hx
        obtain ⟨j, hj, rfl⟩ := List.mem_map.mp hx
        have := bz j hj
        exact decide_eq_true (by omega)
  clear s3 W1 hD h1 hl hz a4 a5 T
  subst hr
  refine seqI fun r hr => ?_
  simp only [and_assoc, rst, rs, re, ra, rq, rx, ro, rl, rl2, rsp, rz, rix, rln, rg, rd, ri, rv, rk, rdd, rwi, at0, at1, at2, at3, upd_at, List.getElem?_cons_zero, List.getElem?_cons_succ, Option.some.injEq, exists_eq_left', exists_eq_left, List.set_cons_zero, List.set_cons_succ, true_and, and_true, HO.lst.injEq, HO.tup.injEq, exists_and_left, exists_eq, exists_eq', Br.t, Br.f, Be.t, Be.f, List.cons.injEq, List.append_nil, scal, if_true, if_false, ite_true, ite_false, eq_self_iff_true, decide_true, decide_false, Bool.not_true, Bool.not_false, reduceIte, List.nil_append, List.cons_append, reduceCtorEq, false_and, exists_false, false_or, or_false, Int.reduceLT, rnb, ral, rsq, rlu, rdp, Bool.true_or, Bool.false_or, Bool.or_false, Bool.or_true]
  refine ⟨_, rfl, p, rfl, W.1, fun bad G6 W6 n6 o6 => ?_⟩
  have hx := W6.2 _ _ hx
  have oms := oms.same W6.2
  have W := W.trans W6
  subst hr
  refine seqI fun r hr => ?_
  simp only [and_assoc, rst, rs, re, ra, rq, rx, ro, rl, rl2, rsp, rz, rix, rln, rg, rd, ri, rv, rk, rdd, rwi, at0, at1, at2, at3, upd_at, List.getElem?_cons_zero, List.getElem?_cons_succ, Option.some.injEq, exists_eq_left', exists_eq_left, List.set_cons_zero, List.set_cons_succ, true_and, and_true, HO.lst.injEq, HO.tup.injEq, exists_and_left, exists_eq, exists_eq', Br.t, Br.f, Be.t, Be.f, List.cons.injEq, List.append_nil, scal, if_true, if_false, ite_true, ite_false, eq_self_iff_true, decide_true, decide_false, Bool.not_true, Bool.not_false, reduceIte, List.nil_append, List.cons_append, reduceCtorEq, false_and, exists_false, false_or, or_false, Int.reduceLT, rnb, ral, rsq, rlu, rdp, Bool.true_or, Bool.false_or, Bool.or_false, Bool.or_true]
  refine fun p1 H1 a1 => ⟨_, a1.e, _, rfl, ?_⟩
  refine FI.seq rfl (fun i σ H' => ∃ v8, Same H1 H' ∧ σ = [some (.ref p), some (.ref p5), some bad, v8, none, none, none, none, none]) ⟨none, fun _ _ e => e, rfl⟩ (fun i σ H' _ ⟨_, s, _⟩ => s _ _ a1.e) ?_ ?_
  · rintro i x σ H' hx ⟨v8, s, rfl⟩
    have hm := List.mem_of_getElem? hx
    simp only [List.mem_cons, List.not_mem_nil, or_false] at hm
    have o10 := o6.same (Same.trans (Same.trans wo_same a1.s) s)
    have n10 := n6.same (Same.trans (Same.trans wo_same a1.s) s)
    have all : ∀ ds ∈ ([("shares" : Str), "share", "rest", "first", "number"] : List Str), DD H' ds [bad, .non, .non] (some ("NoShares", bad)) := by
      intro ds hd
      simp only [List.mem_cons, List.not_mem_nil, or_false] at hd
      rcases hd with rfl | rfl | rfl | rfl | rfl
      · exact .inr (.shares o10)
      · exact .inr (.share1 o10)
      · exact .inr (.rest1 o10)
      · exact .inr (.first1 o10)
      · exact .inr (.number1 o10)
    obtain ⟨ds, rfl, hd⟩ : ∃ ds : Str, x = .str ds ∧ ds ∈ ([("shares" : Str), "share", "rest", "first", "number"] : List Str) := by
      rcases hm with rfl | rfl | rfl | rfl | rfl
      · exact ⟨_, rfl, by simp⟩
      · exact ⟨_, rfl, by simp⟩
      · exact ⟨_, rfl, by simp⟩
      · exact ⟨_, rfl, by simp⟩
      · exact ⟨_, rfl, by simp⟩
    simp only [and_assoc, rst, rs, re, ra, rq, rx, ro, rl, rl2, rsp, rz, rix, rln, rg, rd, ri, rv, rk, rdd, rwi, at0, at1, at2, at3, upd_at, List.getElem?_cons_zero, List.getElem?_cons_succ, Option.some.injEq, exists_eq_left', exists_eq_left, List.set_cons_zero, List.set_cons_succ, true_and, and_true, HO.lst.injEq, HO.tup.injEq, exists_and_left, exists_eq, exists_eq', Br.t, Br.f, Be.t, Be.f, List.cons.injEq, List.append_nil, scal, if_true, if_false, ite_true, ite_false, eq_self_iff_true, decide_true, decide_false, Bool.not_true, Bool.not_false, reduceIte, List.nil_append, List.cons_append, reduceCtorEq, false_and, exists_false, false_or, or_false, Int.reduceLT, rnb, ral, rsq, rlu, rdp, Bool.true_or, Bool.false_or, Bool.or_false, Bool.or_true]
    refine fun p2 H2 a2 => is_sh a2.s (all ds hd) a2.e n10 fun H3 s3 => ?_
    simp only [and_assoc, rst, rs, re, ra, rq, rx, ro, rl, rl2, rsp, rz, rix, rln, rg, rd, ri, rv, rk, rdd, rwi, at0, at1, at2, at3, upd_at, List.getElem?_cons_zero, List.getElem?_cons_succ, Option.some.injEq, exists_eq_left', exists_eq_left, List.set_cons_zero, List.set_cons_succ, true_and, and_true, HO.lst.injEq, HO.tup.injEq, exists_and_left, exists_eq, exists_eq', Br.t, Br.f, Be.t, Be.f, List.cons.injEq, List.append_nil, scal, if_true, if_false, ite_true, ite_false, eq_self_iff_true, decide_true, decide_false, Bool.not_true, Bool.not_false, reduceIte, List.nil_append, List.cons_append, reduceCtorEq, false_and, exists_false, false_or, or_false, Int.reduceLT, rnb, ral, rsq, rlu, rdp, Bool.true_or, Bool.false_or, Bool.or_false, Bool.or_true]
    exact Same.trans s (Same.trans a2.s s3)
  rintro σ H' ⟨v8, s, rfl⟩
  have T := (Wl.of_same W.1 (Same.trans a1.s s))
  have hx := T.2 _ _ hx
  have oms := oms.same T.2
  have W := W.trans T
  clear T a1 s
  subst hr
  dsimp only
  refine seqI fun r hr => ?_
  simp only [and_assoc, rst, rs, re, ra, rq, rx, ro, rl, rl2, rsp, rz, rix, rln, rg, rd, ri, rv, rk, rdd, rwi, at0, at1, at2, at3, upd_at, List.getElem?_cons_zero, List.getElem?_cons_succ, Option.some.injEq, exists_eq_left', exists_eq_left, List.set_cons_zero, List.set_cons_succ, true_and, and_true, HO.lst.injEq, HO.tup.injEq, exists_and_left, exists_eq, exists_eq', Br.t, Br.f, Be.t, Be.f, List.cons.injEq, List.append_nil, scal, if_true, if_false, ite_true, ite_false, eq_self_iff_true, decide_true, decide_false, Bool.not_true, Bool.not_false, reduceIte, List.nil_append, List.cons_append, reduceCtorEq, false_and, exists_false, false_or, or_false, Int.reduceLT, rnb, ral, rsq, rlu, rdp, Bool.true_or, Bool.false_or, Bool.or_false, Bool.or_true]
  refine ⟨_, SqL.of (wo_same _ _ hx), badn_ok W.1 (by omega) (by omega) fun num G7 W7 b7 => ?_⟩
  have hx := W7.2 _ _ hx
  have oms := oms.same W7.2
  have W := W.trans W7
  subst hr
  refine seqI fun r hr => ?_
  simp only [and_assoc, rst, rs, re, ra, rq, rx, ro, rl, rl2, rsp, rz, rix, rln, rg, rd, ri, rv, rk, rdd, rwi, at0, at1, at2, at3, upd_at, List.getElem?_cons_zero, List.getElem?_cons_succ, Option.some.injEq, exists_eq_left', exists_eq_left, List.set_cons_zero, List.set_cons_succ, true_and, and_true, HO.lst.injEq, HO.tup.injEq, exists_and_left, exists_eq, exists_eq', Br.t, Br.f, Be.t, Be.f, List.cons.injEq, List.append_nil, scal, if_true, if_false, ite_true, ite_false, eq_self_iff_true, decide_true, decide_false, Bool.not_true, Bool.not_false, reduceIte, List.nil_append, List.cons_append, reduceCtorEq, false_and, exists_false, false_or, or_false, Int.reduceLT, rnb, ral, rsq, rlu, rdp, Bool.true_or, Bool.false_or, Bool.or_false, Bool.or_true]
  refine fun p1 H1 a1 => ⟨_, a1.e, _, rfl, ?_⟩
  refine FI.seq rfl (fun i σ H' => ∃ v8, Same H1 H' ∧ σ = [some (.ref p), some (.ref p5), some bad, v8, some num, none, none, none, none]) ⟨v8, fun _ _ e => e, rfl⟩ (fun i σ H' _ ⟨_, s, _⟩ => s _ _ a1.e) ?_ ?_
  · rintro i x σ H' hx' ⟨v8, s, rfl⟩
    have hm := List.mem_of_getElem? hx'
    simp only [List.mem_cons, List.not_mem_nil, or_false] at hm
    have S : Same (wo p G7) H' := Same.trans (Same.trans wo_same a1.s) s
    have o10 := oms.same S
    have n10 := b7.1.same S
    have q10 : Sq H' (.ref p5) (ms.map V.int) := ⟨p5, _, rfl, S _ _ hx, rfl⟩
    have w10 : within num 0 (ms.sum - 1) = false := badN_w b7 (by omega)
    simp only [and_assoc, rst, rs, re, ra, rq, rx, ro, rl, rl2, rsp, rz, rix, rln, rg, rd, ri, rv, rk, rdd, rwi, at0, at1, at2, at3, upd_at, List.getElem?_cons_zero, List.getElem?_cons_succ, Option.some.injEq, exists_eq_left', exists_eq_left, List.set_cons_zero, List.set_cons_succ, true_and, and_true, HO.lst.injEq, HO.tup.injEq, exists_and_left, exists_eq, exists_eq', Br.t, Br.f, Be.t, Be.f, List.cons.injEq, List.append_nil, scal, if_true, if_false, ite_true, ite_false, eq_self_iff_true, decide_true, decide_false, Bool.not_true, Bool.not_false, reduceIte, List.nil_append, List.cons_append, reduceCtorEq, false_and, exists_false, false_or, or_false, Int.reduceLT, rnb, ral, rsq, rlu, rdp, Bool.true_or, Bool.false_or, Bool.or_false, Bool.or_true]
    rcases hm with rfl | rfl
    · refine fun p2 H2 a2 => is_num a2.s (.inr (.share2 o10 q10 n10.ty w10)) a2.e n10 fun H3 s3 => ?_
      simp only [and_assoc, rst, rs, re, ra, rq, rx, ro, rl, rl2, rsp, rz, rix, rln, rg, rd, ri, rv, rk, rdd, rwi, at0, at1, at2, at3, upd_at, List.getElem?_cons_zero, List.getElem?_cons_succ, Option.some.injEq, exists_eq_left', exists_eq_left, List.set_cons_zero, List.set_cons_succ, true_and, and_true, HO.lst.injEq, HO.tup.injEq, exists_and_left, exists_eq, exists_eq', Br.t, Br.f, Be.t, Be.f, List.cons.injEq, List.append_nil, scal, if_true, if_false, ite_true, ite_false, eq_self_iff_true, decide_true, decide_false, Bool.not_true, Bool.not_false, reduceIte, List.nil_append, List.cons_append, reduceCtorEq, false_and, exists_false, false_or, or_false, Int.reduceLT, rnb, ral, rsq, rlu, rdp, Bool.true_or, Bool.false_or, Bool.or_false, Bool.or_true]
      exact Same.trans s (Same.trans a2.s s3)
    · refine fun p2 H2 a2 => is_num a2.s (.inr (.rest2 o10 q10 n10.ty w10)) a2.e n10 fun H3 s3 => ?_
      simp only [and_assoc, rst, rs, re, ra, rq, rx, ro, rl, rl2, rsp, rz, rix, rln, rg, rd, ri, rv, rk, rdd, rwi, at0, at1, at2, at3, upd_at, List.getElem?_cons_zero, List.getElem?_cons_succ, Option.some.injEq, exists_eq_left', exists_eq_left, List.set_cons_zero, List.set_cons_succ, true_and, and_true, HO.lst.injEq, HO.tup.injEq, exists_and_left, exists_eq, exists_eq', Br.t, Br.f, Be.t, Be.f, List.cons.injEq, List.append_nil, scal, if_true, if_false, ite_true, ite_false, eq_self_iff_true, decide_true, decide_false, Bool.not_true, Bool.not_false, reduceIte, List.nil_append, List.cons_append, reduceCtorEq, false_and, exists_false, false_or, or_false, Int.reduceLT, rnb, ral, rsq, rlu, rdp, Bool.true_or, Bool.false_or, Bool.or_false, Bool.or_true]
      exact Same.trans s (Same.trans a2.s s3)
  rintro σ H' ⟨v9, s, rfl⟩
  have T := (Wl.of_same W.1 (Same.trans a1.s s))
  have hx := T.2 _ _ hx
  have oms := oms.same T.2
  have W := W.trans T
  clear T a1 s b7 W7
  subst hr
  dsimp only
  refine seqI fun r hr => ?_
  simp only [and_assoc, rst, rs, re, ra, rq, rx, ro, rl, rl2, rsp, rz, rix, rln, rg, rd, ri, rv, rk, rdd, rwi, at0, at1, at2, at3, upd_at, List.getElem?_cons_zero, List.getElem?_cons_succ, Option.some.injEq, exists_eq_left', exists_eq_left, List.set_cons_zero, List.set_cons_succ, true_and, and_true, HO.lst.injEq, HO.tup.injEq, exists_and_left, exists_eq, exists_eq', Br.t, Br.f, Be.t, Be.f, List.cons.injEq, List.append_nil, scal, if_true, if_false, ite_true, ite_false, eq_self_iff_true, decide_true, decide_false, Bool.not_true, Bool.not_false, reduceIte, List.nil_append, List.cons_append, reduceCtorEq, false_and, exists_false, false_or, or_false, Int.reduceLT, rnb, ral, rsq, rlu, rdp, Bool.true_or, Bool.false_or, Bool.or_false, Bool.or_true]
  refine ⟨_, wo_same _ _ hx, _, rfl, ?_⟩
  rw [List.length_map]
  refine badn_ok W.1 (by omega) (by omega) fun pl G8 W8 b8 => ?_
  have hx := W8.2 _ _ hx
  have oms := oms.same W8.2
  have W := W.trans W8
  have sq : Sq (wo p G8) (.ref p5) (ms.map V.int) := ⟨p5, _, rfl, hx, rfl⟩
  have wp : within pl 0 ((ms.length : Int) - 1) = false := badN_w b8 (by omega)
  subst hr
  refine seqI fun r hr => ?_
  simp only [and_assoc, rst, rs, re, ra, rq, rx, ro, rl, rl2, rsp, rz, rix, rln, rg, rd, ri, rv, rk, rdd, rwi, at0, at1, at2, at3, upd_at, List.getElem?_cons_zero, List.getElem?_cons_succ, Option.some.injEq, exists_eq_left', exists_eq_left, List.set_cons_zero, List.set_cons_succ, true_and, and_true, HO.lst.injEq, HO.tup.injEq, exists_and_left, exists_eq, exists_eq', Br.t, Br.f, Be.t, Be.f, List.cons.injEq, List.append_nil, scal, if_true, if_false, ite_true, ite_false, eq_self_iff_true, decide_true, decide_false, Bool.not_true, Bool.not_false, reduceIte, List.nil_append, List.cons_append, reduceCtorEq, false_and, exists_false, false_or, or_false, Int.reduceLT, rnb, ral, rsq, rlu, rdp, Bool.true_or, Bool.false_or, Bool.or_false, Bool.or_true]
  refine fun p1 H1 a1 => is_num (G := wo p G8) (Same.trans wo_same a1.s) (.inr (.first2 oms sq b8.1.ty wp)) a1.e b8.1 fun H2 s2 => ?_
  simp only [and_assoc, rst, rs, re, ra, rq, rx, ro, rl, rl2, rsp, rz, rix, rln, rg, rd, ri, rv, rk, rdd, rwi, at0, at1, at2, at3, upd_at, List.getElem?_cons_zero, List.getElem?_cons_succ, Option.some.injEq, exists_eq_left', exists_eq_left, List.set_cons_zero, List.set_cons_succ, true_and, and_true, HO.lst.injEq, HO.tup.injEq, exists_and_left, exists_eq, exists_eq', Br.t, Br.f, Be.t, Be.f, List.cons.injEq, List.append_nil, scal, if_true, if_false, ite_true, ite_false, eq_self_iff_true, decide_true, decide_false, Bool.not_true, Bool.not_false, reduceIte, List.nil_append, List.cons_append, reduceCtorEq, false_and, exists_false, false_or, or_false, Int.reduceLT, rnb, ral, rsq, rlu, rdp, Bool.true_or, Bool.false_or, Bool.or_false, Bool.or_true]
  subst hr
  refine seqI fun r hr => ?_
  simp only [and_assoc, rst, rs, re, ra, rq, rx, ro, rl, rl2, rsp, rz, rix, rln, rg, rd, ri, rv, rk, rdd, rwi, at0, at1, at2, at3, upd_at, List.getElem?_cons_zero, List.getElem?_cons_succ, Option.some.injEq, exists_eq_left', exists_eq_left, List.set_cons_zero, List.set_cons_succ, true_and, and_true, HO.lst.injEq, HO.tup.injEq, exists_and_left, exists_eq, exists_eq', Br.t, Br.f, Be.t, Be.f, List.cons.injEq, List.append_nil, scal, if_true, if_false, ite_true, ite_false, eq_self_iff_true, decide_true, decide_false, Bool.not_true, Bool.not_false, reduceIte, List.nil_append, List.cons_append, reduceCtorEq, false_and, exists_false, false_or, or_false, Int.reduceLT, rnb, ral, rsq, rlu, rdp, Bool.true_or, Bool.false_or, Bool.or_false, Bool.or_true]
  refine fun p3 H3 a3 => is_num (G := wo p G8) (Same.trans wo_same (Same.trans a1.s (Same.trans s2 a3.s))) (.inr (.number2 oms sq b8.1.ty wp)) a3.e b8.1 fun H4 s4 => ?_
  simp only [and_assoc, rst, rs, re, ra, rq, rx, ro, rl, rl2, rsp, rz, rix, rln, rg, rd, ri, rv, rk, rdd, rwi, at0, at1, at2, at3, upd_at, List.getElem?_cons_zero, List.getElem?_cons_succ, Option.some.injEq, exists_eq_left', exists_eq_left, List.set_cons_zero, List.set_cons_succ, true_and, and_true, HO.lst.injEq, HO.tup.injEq, exists_and_left, exists_eq, exists_eq', Br.t, Br.f, Be.t, Be.f, List.cons.injEq, List.append_nil, scal, if_true, if_false, ite_true, ite_false, eq_self_iff_true, decide_true, decide_false, Bool.not_true, Bool.not_false, reduceIte, List.nil_append, List.cons_append, reduceCtorEq, false_and, exists_false, false_or, or_false, Int.reduceLT, rnb, ral, rsq, rlu, rdp, Bool.true_or, Bool.false_or, Bool.or_false, Bool.or_true]
  have T := Wl.of_same W.1 (Same.trans a1.s (Same.trans s2 (Same.trans a3.s s4)))
  have hx := T.2 _ _ hx
  have oms := oms.same T.2
  have W := W.trans T
  clear T a1 s2 a3 s4 sq b8 W8 wp
  subst hr
  refine seqI fun r hr => ?_
  simp only [and_assoc, rst, rs, re, ra, rq, rx, ro, rl, rl2, rsp, rz, rix, rln, rg, rd, ri, rv, rk, rdd, rwi, at0, at1, at2, at3, upd_at, List.getElem?_cons_zero, List.getElem?_cons_succ, Option.some.injEq, exists_eq_left', exists_eq_left, List.set_cons_zero, List.set_cons_succ, true_and, and_true, HO.lst.injEq, HO.tup.injEq, exists_and_left, exists_eq, exists_eq', Br.t, Br.f, Be.t, Be.f, List.cons.injEq, List.append_nil, scal, if_true, if_false, ite_true, ite_false, eq_self_iff_true, decide_true, decide_false, Bool.not_true, Bool.not_false, reduceIte, List.nil_append, List.cons_append, reduceCtorEq, false_and, exists_false, false_or, or_false, Int.reduceLT, rnb, ral, rsq, rlu, rdp, Bool.true_or, Bool.false_or, Bool.or_false, Bool.or_true]
  refine ⟨_, wo_same _ _ hx, _, rfl, ?_⟩
  rw [List.length_map]
  refine draw_ok W.1 (by omega) (by omega) fun t G9 t0 t1 W9 => ?_
  have hx := W9.2 _ _ hx
  have oms := oms.same W9.2
  have W := W.trans W9
  obtain ⟨k, rfl⟩ : ∃ k : Nat, t = (k : Int) := ⟨t.toNat, by omega⟩
  have kl : k < ms.length := by omega
  have bk := bz ms[k] (List.getElem_mem kl)
  have gk : ms[k]? = some ms[k] := List.getElem?_eq_getElem kl
  subst hr
  refine seqI fun r hr => ?_
  simp only [and_assoc, rst, rs, re, ra, rq, rx, ro, rl, rl2, rsp, rz, rix, rln, rg, rd, ri, rv, rk, rdd, rwi, at0, at1, at2, at3, upd_at, List.getElem?_cons_zero, List.getElem?_cons_succ, Option.some.injEq, exists_eq_left', exists_eq_left, List.set_cons_zero, List.set_cons_succ, true_and, and_true, HO.lst.injEq, HO.tup.injEq, exists_and_left, exists_eq, exists_eq', Br.t, Br.f, Be.t, Be.f, List.cons.injEq, List.append_nil, scal, if_true, if_false, ite_true, ite_false, eq_self_iff_true, decide_true, decide_false, Bool.not_true, Bool.not_false, reduceIte, List.nil_append, List.cons_append, reduceCtorEq, false_and, exists_false, false_or, or_false, Int.reduceLT, rnb, ral, rsq, rlu, rdp, Bool.true_or, Bool.false_or, Bool.or_false, Bool.or_true]
  refine ⟨_, wo_same _ _ hx, _, rfl, _, atI_nat (by rw [List.getElem?_map, gk]; rfl), _, rfl, ?_⟩
  refine badn_ok W.1 (by omega) (by omega) fun rest G10 W10 b10 => ?_
  have hx := W10.2 _ _ hx
  have oms := oms.same W10.2
  have W := W.trans W10
  subst hr
  refine seqI fun r hr => ?_
  simp only [and_assoc, rst, rs, re, ra, rq, rx, ro, rl, rl2, rsp, rz, rix, rln, rg, rd, ri, rv, rk, rdd, rwi, at0, at1, at2, at3, upd_at, List.getElem?_cons_zero, List.getElem?_cons_succ, Option.some.injEq, exists_eq_left', exists_eq_left, List.set_cons_zero, List.set_cons_succ, true_and, and_true, HO.lst.injEq, HO.tup.injEq, exists_and_left, exists_eq, exists_eq', Br.t, Br.f, Be.t, Be.f, List.cons.injEq, List.append_nil, scal, if_true, if_false, ite_true, ite_false, eq_self_iff_true, decide_true, decide_false, Bool.not_true, Bool.not_false, reduceIte, List.nil_append, List.cons_append, reduceCtorEq, false_and, exists_false, false_or, or_false, Int.reduceLT, rnb, ral, rsq, rlu, rdp, Bool.true_or, Bool.false_or, Bool.or_false, Bool.or_true]
  refine fun p1 H1 a1 => is_num (G := wo p G10) (Same.trans wo_same a1.s) (.inr (.number3 oms hx gk b10.1.ty (badN_w b10 (by omega)))) a1.e b10.1 fun H2 s2 => ?_
  simp only [and_assoc, rst, rs, re, ra, rq, rx, ro, rl, rl2, rsp, rz, rix, rln, rg, rd, ri, rv, rk, rdd, rwi, at0, at1, at2, at3, upd_at, List.getElem?_cons_zero, List.getElem?_cons_succ, Option.some.injEq, exists_eq_left', exists_eq_left, List.set_cons_zero, List.set_cons_succ, true_and, and_true, HO.lst.injEq, HO.tup.injEq, exists_and_left, exists_eq, exists_eq', Br.t, Br.f, Be.t, Be.f, List.cons.injEq, List.append_nil, scal, if_true, if_false, ite_true, ite_false, eq_self_iff_true, decide_true, decide_false, Bool.not_true, Bool.not_false, reduceIte, List.nil_append, List.cons_append, reduceCtorEq, false_and, exists_false, false_or, or_false, Int.reduceLT, rnb, ral, rsq, rlu, rdp, Bool.true_or, Bool.false_or, Bool.or_false, Bool.or_true]
  have T := Wl.of_same W.1 (Same.trans a1.s s2)
  have hx := T.2 _ _ hx
  have oms := oms.same T.2
  have W := W.trans T
  clear T a1 s2 b10 W10
  subst hr
  refine seqI fun r hr => ?_
  simp only [and_assoc, rst, rs, re, ra, rq, rx, ro, rl, rl2, rsp, rz, rix, rln, rg, rd, ri, rv, rk, rdd, rwi, at0, at1, at2, at3, upd_at, List.getElem?_cons_zero, List.getElem?_cons_succ, Option.some.injEq, exists_eq_left', exists_eq_left, List.set_cons_zero, List.set_cons_succ, true_and, and_true, HO.lst.injEq, HO.tup.injEq, exists_and_left, exists_eq, exists_eq', Br.t, Br.f, Be.t, Be.f, List.cons.injEq, List.append_nil, scal, if_true, if_false, ite_true, ite_false, eq_self_iff_true, decide_true, decide_false, Bool.not_true, Bool.not_false, reduceIte, List.nil_append, List.cons_append, reduceCtorEq, false_and, exists_false, false_or, or_false, Int.reduceLT, rnb, ral, rsq, rlu, rdp, Bool.true_or, Bool.false_or, Bool.or_false, Bool.or_true]
  refine ⟨_, SqL.of (wo_same _ _ hx), fun p1 H1 a1 => is_let (G := wo p H2) (Same.trans wo_same a1.s) (.inr (.share3 oms ⟨p5, _, rfl, hx, rfl⟩ (by omega) (by omega))) a1.e fun H3 s3 => ?_⟩
  simp only [and_assoc, rst, rs, re, ra, rq, rx, ro, rl, rl2, rsp, rz, rix, rln, rg, rd, ri, rv, rk, rdd, rwi, at0, at1, at2, at3, upd_at, List.getElem?_cons_zero, List.getElem?_cons_succ, Option.some.injEq, exists_eq_left', exists_eq_left, List.set_cons_zero, List.set_cons_succ, true_and, and_true, HO.lst.injEq, HO.tup.injEq, exists_and_left, exists_eq, exists_eq', Br.t, Br.f, Be.t, Be.f, List.cons.injEq, List.append_nil, scal, if_true, if_false, ite_true, ite_false, eq_self_iff_true, decide_true, decide_false, Bool.not_true, Bool.not_false, reduceIte, List.nil_append, List.cons_append, reduceCtorEq, false_and, exists_false, false_or, or_false, Int.reduceLT, rnb, ral, rsq, rlu, rdp, Bool.true_or, Bool.false_or, Bool.or_false, Bool.or_true]
  have T := Wl.of_same W.1 (Same.trans a1.s s3)
  have hx := T.2 _ _ hx
  have oms := oms.same T.2
  have W := W.trans T
  subst hr
  simp only [and_assoc, rst, rs, re, ra, rq, rx, ro, rl, rl2, rsp, rz, rix, rln, rg, rd, ri, rv, rk, rdd, rwi, at0, at1, at2, at3, upd_at, List.getElem?_cons_zero, List.getElem?_cons_succ, Option.some.injEq, exists_eq_left', exists_eq_left, List.set_cons_zero, List.set_cons_succ, true_and, and_true, HO.lst.injEq, HO.tup.injEq, exists_and_left, exists_eq, exists_eq', Br.t, Br.f, Be.t, Be.f, List.cons.injEq, List.append_nil, scal, if_true, if_false, ite_true, ite_false, eq_self_iff_true, decide_true, decide_false, Bool.not_true, Bool.not_false, reduceIte, List.nil_append, List.cons_append, reduceCtorEq, false_and, exists_false, false_or, or_false, Int.reduceLT, rnb, ral, rsq, rlu, rdp, Bool.true_or, Bool.false_or, Bool.or_false, Bool.or_true]
  refine fun p1 H1 a1 => is_let (G := wo p H3) (Same.trans wo_same a1.s) (.inr (.first3 oms hx kl)) a1.e fun H4 s4 => ?_
  exact q _ (W.trans (Wl.of_same W.1 (Same.trans a1.s s4)))
end
end Law

-- RDX ral, rsq, rlu, rdp, Bool.true_or, Bool.false_or, Bool.or_false, Bool.or_true
set_option pp.deepTerms true
set_option pp.maxSteps 100000
namespace Law
open PySem PySem.Spec PyProof.Rows L2 Sw
theorem sql_same {K : Fg} {H H' : Hp} {a : Addr} {xs : List V} (s : Same H H') (h : SqL K H a xs) : SqL K H' a xs := h.imp (fun r => r.imp (s _ _) fun ⟨o, e⟩ => ⟨o, s _ _ e⟩) id
section
variable {P : Program} {w : World} {K : Fg} {mg : Str → Option Value} {base : Heap}
theorem ok_law {fd : FuncData} (T : Tx K mg w) (F_law : FunD K "law" "law" (defArgs s_law) (defBody s_law) (defScope s_law) [] [] (He.ga K "law") fd) (c__law_cell : Cal P w K mg base 1 "_law_cell" ["script", "k"] (sp__law_cell K)) (c__law_well : Cal P w K mg base 1 "_law_well" ["cell"] (sp__law_well K)) (c__law_orders_right : Cal P w K mg base 11 "_law_orders_right" ["well"] (sp__law_orders_right K)) (c__law_numbers_right : Cal P w K mg base 11 "_law_numbers_right" ["well"] (sp__law_numbers_right K)) (c__law_sets_right : Cal P w K mg base 11 "_law_sets_right" ["well"] (sp__law_sets_right K)) (c__law_shares_right : Cal P w K mg base 11 "_law_shares_right" ["well"] (sp__law_shares_right K)) : FnOk P w K mg base (L2.CX P w) 12 (He.ga K "law") fd ["script"] (sp_law K) := by
  refine fn_mk F_law sc_law (len1 _) (fun cdv A outer s H vs Q E hr h => ?_)
  obtain ⟨v0, rfl, h⟩ := h
  have hu := hu_of hr
  refine ⟨_, (pss_cons (ps_for (passes_of rfl) rfl (pi_range1 (by rfl) T.n_range (pa_cons (pe_callB (call_max2 rfl) (by rfl) T.n_max (by decide +kernel) (pa_cons pe_int (pa_cons (pe_callB (call_min2 rfl) (by rfl) T.n_min (by decide +kernel) (pa_cons (pe_callB call_len_seq (by rfl) T.n_len (by decide +kernel) (pa_cons (pv 0) pa_nil)) (pa_cons pe_int pa_nil))) pa_nil))) pa_nil)) (pg_name (i := 1) sc_law.nd rfl (Or.inl rfl)) (pss_cons (ps_set (i := 2) sc_law.nd rfl (Or.inl rfl) (pe_cal c__law_well hr (by decide) passL rfl (pa_cons (pe_cal c__law_cell hr (by decide) passL rfl (pa_cons (pv 0) (pa_cons (pv 1) pa_nil))) pa_nil)))
      (pss_one (ps_for (passes_of rfl) rfl (pi_range1 (by rfl) T.n_range (pa_cons pe_int pa_nil)) (pg_name (i := 3) sc_law.nd rfl (Or.inl rfl)) (pss_cons (ps_if (PW.pt (pw_or (pt_not (pt_val (pe_cal c__law_orders_right hr (by decide) passL rfl (pa_cons (pv 2) pa_nil)))) (pw_or1 (pt_not (pt_val (pe_cal c__law_numbers_right hr (by decide) passL rfl (pa_cons (pv 2) pa_nil))))))) (pss_one (ps_ret pe_bl)) pss_nil)
      (pss_one (ps_if (PW.pt (pw_or (pt_not (pt_val (pe_cal c__law_sets_right hr (by decide) passL rfl (pa_cons (pv 2) pa_nil)))) (pw_or1 (pt_not (pt_val (pe_cal c__law_shares_right hr (by decide) passL rfl (pa_cons (pv 2) pa_nil))))))) (pss_one (ps_ret pe_bl)) pss_nil)))))))
      (pss_one (ps_ret pe_bl))), ?_⟩
  obtain ⟨a, ns, rfl, hS, hl, q⟩ := h
  simp only [and_assoc, rst, rs, re, ra, rq, rx, ro, rl, rl2, rsp, rz, rix, rln, rg, rd, ri, rv, rk, rdd, rwi, at0, at1, at2, at3, upd_at, List.getElem?_cons_zero, List.getElem?_cons_succ, Option.some.injEq, exists_eq_left', exists_eq_left, List.set_cons_zero, List.set_cons_succ, true_and, and_true, HO.lst.injEq, HO.tup.injEq, exists_and_left, exists_eq, exists_eq', Br.t, Br.f, Be.t, Be.f, List.cons.injEq, List.append_nil, scal, if_true, if_false, ite_true, ite_false, eq_self_iff_true, decide_true, decide_false, Bool.not_true, Bool.not_false, reduceIte, List.nil_append, List.cons_append, reduceCtorEq, false_and, exists_false, false_or, or_false, Int.reduceLT, ral, rsq, rlu, rdp, Bool.true_or, Bool.false_or, Bool.or_false, Bool.or_true]
  generalize hn : (if (if (6 : Int) < ((ns.map V.int).length : Int) then (6 : Int) else ((ns.map V.int).length : Int)) > 1 then if (6 : Int) < ((ns.map V.int).length : Int) then (6 : Int) else ((ns.map V.int).length : Int) else 1) = n
  have hn6 : 1 ≤ n ∧ n ≤ 6 := by
    rw [← hn]
    split
    · split <;> omega
    · omega
  refine ⟨ns.map V.int, .inl hS, ?_⟩
  rw [hn]
  refine ⟨by omega, by omega, FI.rng (fun i σ H' => ∃ v1 v2 v3, Same H H' ∧ σ = [some (.ref a), v1, v2, v3]) ⟨none, none, none, fun _ _ e => e, rfl⟩ ?_ ?_⟩
  · rintro i σ H' hi ⟨v1, v2, v3, s, rfl⟩
    simp only [and_assoc, rst, rs, re, ra, rq, rx, ro, rl, rl2, rsp, rz, rix, rln, rg, rd, ri, rv, rk, rdd, rwi, at0, at1, at2, at3, upd_at, List.getElem?_cons_zero, List.getElem?_cons_succ, Option.some.injEq, exists_eq_left', exists_eq_left, List.set_cons_zero, List.set_cons_succ, true_and, and_true, HO.lst.injEq, HO.tup.injEq, exists_and_left, exists_eq, exists_eq', Br.t, Br.f, Be.t, Be.f, List.cons.injEq, List.append_nil, scal, if_true, if_false, ite_true, ite_false, eq_self_iff_true, decide_true, decide_false, Bool.not_true, Bool.not_false, reduceIte, List.nil_append, List.cons_append, reduceCtorEq, false_and, exists_false, false_or, or_false, Int.reduceLT, ral, rsq, rlu, rdp, Bool.true_or, Bool.false_or, Bool.or_false, Bool.or_true]
    rw [Int.zero_add]
    refine ⟨_, _, rfl, a, ns, i, rfl, sql_same s hS, rfl, by omega, fun z => ?_⟩
    refine ⟨_, rfl, z, rfl, fun p H1 s1 f1 w1 => ?_⟩
    have fp : H p = none := Same.free s f1
    simp only [and_assoc, rst, rs, re, ra, rq, rx, ro, rl, rl2, rsp, rz, rix, rln, rg, rd, ri, rv, rk, rdd, rwi, at0, at1, at2, at3, upd_at, List.getElem?_cons_zero, List.getElem?_cons_succ, Option.some.injEq, exists_eq_left', exists_eq_left, List.set_cons_zero, List.set_cons_succ, true_and, and_true, HO.lst.injEq, HO.tup.injEq, exists_and_left, exists_eq, exists_eq', Br.t, Br.f, Be.t, Be.f, List.cons.injEq, List.append_nil, scal, if_true, if_false, ite_true, ite_false, eq_self_iff_true, decide_true, decide_false, Bool.not_true, Bool.not_false, reduceIte, List.nil_append, List.cons_append, reduceCtorEq, false_and, exists_false, false_or, or_false, Int.reduceLT, ral, rsq, rlu, rdp, Bool.true_or, Bool.false_or, Bool.or_false, Bool.or_true]
    refine ⟨by decide, by decide, FI.rng (fun j σ H2 => ∃ v3, Wl p H1 H2 ∧ σ = [some (.ref a), some (.int (i : Int)), some (.ref p), v3]) ⟨v3, Wl.refl w1, rfl⟩ ?_ ?_⟩
    · rintro j σ H2 hj ⟨v3, W, rfl⟩
      simp only [and_assoc, rst, rs, re, ra, rq, rx, ro, rl, rl2, rsp, rz, rix, rln, rg, rd, ri, rv, rk, rdd, rwi, at0, at1, at2, at3, upd_at, List.getElem?_cons_zero, List.getElem?_cons_succ, Option.some.injEq, exists_eq_left', exists_eq_left, List.set_cons_zero, List.set_cons_succ, true_and, and_true, HO.lst.injEq, HO.tup.injEq, exists_and_left, exists_eq, exists_eq', Br.t, Br.f, Be.t, Be.f, List.cons.injEq, List.append_nil, scal, if_true, if_false, ite_true, ite_false, eq_self_iff_true, decide_true, decide_false, Bool.not_true, Bool.not_false, reduceIte, List.nil_append, List.cons_append, reduceCtorEq, false_and, exists_false, false_or, or_false, Int.reduceLT, ral, rsq, rlu, rdp, Bool.true_or, Bool.false_or, Bool.or_false, Bool.or_true]
      refine ⟨_, rfl, p, rfl, W.1, fun H3 W3 => ?_⟩
      simp only [and_assoc, rst, rs, re, ra, rq, rx, ro, rl, rl2, rsp, rz, rix, rln, rg, rd, ri, rv, rk, rdd, rwi, at0, at1, at2, at3, upd_at, List.getElem?_cons_zero, List.getElem?_cons_succ, Option.some.injEq, exists_eq_left', exists_eq_left, List.set_cons_zero, List.set_cons_succ, true_and, and_true, HO.lst.injEq, HO.tup.injEq, exists_and_left, exists_eq, exists_eq', Br.t, Br.f, Be.t, Be.f, List.cons.injEq, List.append_nil, scal, if_true, if_false, ite_true, ite_false, eq_self_iff_true, decide_true, decide_false, Bool.not_true, Bool.not_false, reduceIte, List.nil_append, List.cons_append, reduceCtorEq, false_and, exists_false, false_or, or_false, Int.reduceLT, ral, rsq, rlu, rdp, Bool.true_or, Bool.false_or, Bool.or_false, Bool.or_true]
      refine ⟨_, rfl, p, rfl, W3.1, fun H4 W4 => ?_⟩
      simp only [and_assoc, rst, rs, re, ra, rq, rx, ro, rl, rl2, rsp, rz, rix, rln, rg, rd, ri, rv, rk, rdd, rwi, at0, at1, at2, at3, upd_at, List.getElem?_cons_zero, List.getElem?_cons_succ, Option.some.injEq, exists_eq_left', exists_eq_left, List.set_cons_zero, List.set_cons_succ, true_and, and_true, HO.lst.injEq, HO.tup.injEq, exists_and_left, exists_eq, exists_eq', Br.t, Br.f, Be.t, Be.f, List.cons.injEq, List.append_nil, scal, if_true, if_false, ite_true, ite_false, eq_self_iff_true, decide_true, decide_false, Bool.not_true, Bool.not_false, reduceIte, List.nil_append, List.cons_append, reduceCtorEq, false_and, exists_false, false_or, or_false, Int.reduceLT, ral, rsq, rlu, rdp, Bool.true_or, Bool.false_or, Bool.or_false, Bool.or_true]
      refine ⟨_, rfl, p, rfl, W4.1, fun H5 W5 => ?_⟩
      simp only [and_assoc, rst, rs, re, ra, rq, rx, ro, rl, rl2, rsp, rz, rix, rln, rg, rd, ri, rv, rk, rdd, rwi, at0, at1, at2, at3, upd_at, List.getElem?_cons_zero, List.getElem?_cons_succ, Option.some.injEq, exists_eq_left', exists_eq_left, List.set_cons_zero, List.set_cons_succ, true_and, and_true, HO.lst.injEq, HO.tup.injEq, exists_and_left, exists_eq, exists_eq', Br.t, Br.f, Be.t, Be.f, List.cons.injEq, List.append_nil, scal, if_true, if_false, ite_true, ite_false, eq_self_iff_true, decide_true, decide_false, Bool.not_true, Bool.not_false, reduceIte, List.nil_append, List.cons_append, reduceCtorEq, false_and, exists_false, false_or, or_false, Int.reduceLT, ral, rsq, rlu, rdp, Bool.true_or, Bool.false_or, Bool.or_false, Bool.or_true]
      refine ⟨_, rfl, p, rfl, W5.1, fun H6 W6 => ?_⟩
      simp only [and_assoc, rst, rs, re, ra, rq, rx, ro, rl, rl2, rsp, rz, rix, rln, rg, rd, ri, rv, rk, rdd, rwi, at0, at1, at2, at3, upd_at, List.getElem?_cons_zero, List.getElem?_cons_succ, Option.some.injEq, exists_eq_left', exists_eq_left, List.set_cons_zero, List.set_cons_succ, true_and, and_true, HO.lst.injEq, HO.tup.injEq, exists_and_left, exists_eq, exists_eq', Br.t, Br.f, Be.t, Be.f, List.cons.injEq, List.append_nil, scal, if_true, if_false, ite_true, ite_false, eq_self_iff_true, decide_true, decide_false, Bool.not_true, Bool.not_false, reduceIte, List.nil_append, List.cons_append, reduceCtorEq, false_and, exists_false, false_or, or_false, Int.reduceLT, ral, rsq, rlu, rdp, Bool.true_or, Bool.false_or, Bool.or_false, Bool.or_true]
      exact ((W.trans W3).trans W4).trans (W5.trans W6)
    · rintro σ H2 ⟨v3, W, rfl⟩
      simp only [and_assoc, rst, rs, re, ra, rq, rx, ro, rl, rl2, rsp, rz, rix, rln, rg, rd, ri, rv, rk, rdd, rwi, at0, at1, at2, at3, upd_at, List.getElem?_cons_zero, List.getElem?_cons_succ, Option.some.injEq, exists_eq_left', exists_eq_left, List.set_cons_zero, List.set_cons_succ, true_and, and_true, HO.lst.injEq, HO.tup.injEq, exists_and_left, exists_eq, exists_eq', Br.t, Br.f, Be.t, Be.f, List.cons.injEq, List.append_nil, scal, if_true, if_false, ite_true, ite_false, eq_self_iff_true, decide_true, decide_false, Bool.not_true, Bool.not_false, reduceIte, List.nil_append, List.cons_append, reduceCtorEq, false_and, exists_false, false_or, or_false, Int.reduceLT, ral, rsq, rlu, rdp, Bool.true_or, Bool.false_or, Bool.or_false, Bool.or_true]
      refine fun b o e => W.at ?_ ((Same.trans s s1) _ _ e)
      intro z
      subst z
      rw [fp] at e
      cases e
  · rintro σ H' ⟨v1, v2, v3, s, rfl⟩
    simp only [and_assoc, rst, rs, re, ra, rq, rx, ro, rl, rl2, rsp, rz, rix, rln, rg, rd, ri, rv, rk, rdd, rwi, at0, at1, at2, at3, upd_at, List.getElem?_cons_zero, List.getElem?_cons_succ, Option.some.injEq, exists_eq_left', exists_eq_left, List.set_cons_zero, List.set_cons_succ, true_and, and_true, HO.lst.injEq, HO.tup.injEq, exists_and_left, exists_eq, exists_eq', Br.t, Br.f, Be.t, Be.f, List.cons.injEq, List.append_nil, scal, if_true, if_false, ite_true, ite_false, eq_self_iff_true, decide_true, decide_false, Bool.not_true, Bool.not_false, reduceIte, List.nil_append, List.cons_append, reduceCtorEq, false_and, exists_false, false_or, or_false, Int.reduceLT, ral, rsq, rlu, rdp, Bool.true_or, Bool.false_or, Bool.or_false, Bool.or_true]
    exact q _
end
theorem sp_law_of {K : Fg} {H : Hp} {a : Addr} {ns : List Int} (h1 : ns.length ≤ 63) (h2 : SqL K H a (ns.map V.int)) : sp_law K [.ref a] H (fun v _ => v = .bl true) fun _ _ _ => False := ⟨_, rfl, a, ns, rfl, h2, h1, fun _ => rfl⟩
end Law

namespace Law
open PySem PySem.Spec PyProof.Rows L2 Sw
theorem all_ok {P : Program} {w : World} {K : Fg} {mg : Str → Option Value} {base : Heap} {fd : FuncData} (T : Tx K mg w) (F_law : FunD K "law" "law" (defArgs s_law) (defBody s_law) (defScope s_law) [] [] (He.ga K "law") fd) : FnOk P w K mg base (L2.CX P w) 12 (He.ga K "law") fd ["script"] (sp_law K) := by
  have c_is_whole := ok_is_whole (P := P) (w := w) (base := base) T  
  have c_is_within := ok_is_within (P := P) (w := w) (base := base) T c_is_whole 
  have c_is_row := ok_is_row (P := P) (w := w) (base := base) T  
  have c_is_order := ok_is_order (P := P) (w := w) (base := base) T c_is_within c_is_row 
  have c_need_order := ok_need_order (P := P) (w := w) (base := base) T c_is_order (ex_NoOrder T)
  have c_exchange := ok_exchange (P := P) (w := w) (base := base) T  
  have c_products_to := ok_products_to (P := P) (w := w) (base := base) T  
  have c_orders_many := ok_orders_many (P := P) (w := w) (base := base) T c_is_within c_products_to (ex_NoNumber T)
  have c_order_at := ok_order_at (P := P) (w := w) (base := base) T c_is_within c_products_to c_orders_many (ex_NoNumber T)
  have c_order_rank := ok_order_rank (P := P) (w := w) (base := base) T c_is_order c_products_to (ex_NoOrder T)
  have c_next_order := ok_next_order (P := P) (w := w) (base := base) T c_need_order c_exchange 
  have c_laid := ok_laid (P := P) (w := w) (base := base) T c_is_order (ex_NoOrder T)
  have c_turned_order := ok_turned_order (P := P) (w := w) (base := base) T c_need_order 
  have c_by_numbers := ok_by_numbers (P := P) (w := w) (base := base) T c_is_within c_is_row c_exchange (ex_NoNumber T)
  have c_numbers_by := ok_numbers_by (P := P) (w := w) (base := base) T c_is_order c_exchange (ex_NoOrder T)
  have c_need_many := ok_need_many (P := P) (w := w) (base := base) T c_is_within (ex_NoNumber T)
  have c_ways := ok_ways (P := P) (w := w) (base := base) T  
  have c_sets_many := ok_sets_many (P := P) (w := w) (base := base) T c_need_many c_ways 
  have c_set_at := ok_set_at (P := P) (w := w) (base := base) T c_is_within c_ways c_sets_many (ex_NoNumber T)
  have c_is_set := ok_is_set (P := P) (w := w) (base := base) T c_is_within 
  have c_need_set := ok_need_set (P := P) (w := w) (base := base) T c_need_many c_is_set (ex_NoSet T)
  have c_set_rank := ok_set_rank (P := P) (w := w) (base := base) T c_ways c_need_set 
  have c_next_set := ok_next_set (P := P) (w := w) (base := base) T c_need_set 
  have c_need_shares := ok_need_shares (P := P) (w := w) (base := base) T c_is_within (ex_NoShares T)
  have c_shares_many := ok_shares_many (P := P) (w := w) (base := base) T c_need_shares 
  have c_parted_at := ok_parted_at (P := P) (w := w) (base := base) T c_is_within c_shares_many (ex_NoNumber T)
  have c_share_at := ok_share_at (P := P) (w := w) (base := base) T c_parted_at 
  have c_rest_in := ok_rest_in (P := P) (w := w) (base := base) T c_parted_at 
  have c_first_of := ok_first_of (P := P) (w := w) (base := base) T c_is_within c_need_shares (ex_NoNumber T)
  have c_number_of := ok_number_of (P := P) (w := w) (base := base) T c_is_within c_first_of (ex_NoNumber T)
  have c__law_cell := ok__law_cell (P := P) (w := w) (base := base) T  
  have c__law_well := ok__law_well (P := P) (w := w) (base := base) T  
  have c__law_draw := ok__law_draw (P := P) (w := w) (base := base) T  
  have c__law_order := ok__law_order (P := P) (w := w) (base := base) T c__law_draw 
  have c__law_bad_number := ok__law_bad_number (P := P) (w := w) (base := base) T c__law_draw 
  have c__law_bad_order := ok__law_bad_order (P := P) (w := w) (base := base) T c__law_draw c__law_order 
  have c__law_bad_set := ok__law_bad_set (P := P) (w := w) (base := base) T c__law_draw 
  have c__law_bad_shares := ok__law_bad_shares (P := P) (w := w) (base := base) T c__law_draw 
  have c__law_called := ok__law_called (P := P) (w := w) (base := base) T c_orders_many c_order_at c_order_rank c_next_order c_laid c_turned_order c_by_numbers c_numbers_by 
  have c__law_called_else := ok__law_called_else (P := P) (w := w) (base := base) T c_sets_many c_set_at c_set_rank c_next_set c_shares_many c_share_at c_rest_in c_first_of c_number_of 
  have c__law_told := ok__law_told (P := P) (w := w) (base := base) T c__law_called c__law_called_else 
  have c__law_very := ok__law_very (P := P) (w := w) (base := base) T  
  have c__law_is := ok__law_is (P := P) (w := w) (base := base) T c__law_told c__law_very 
  have c__law_orders_right := ok__law_orders_right (P := P) (w := w) (base := base) T c_is_order c__law_draw c__law_order c__law_bad_number c__law_bad_order c__law_is 
  have c__law_numbers_right := ok__law_numbers_right (P := P) (w := w) (base := base) T c__law_draw c__law_bad_number c__law_is 
  have c__law_sets_right := ok__law_sets_right (P := P) (w := w) (base := base) T c__law_draw c__law_bad_number c__law_bad_set c__law_is 
  have c__law_shares_right := ok__law_shares_right (P := P) (w := w) (base := base) T c__law_draw c__law_bad_number c__law_bad_shares c__law_is 
  exact ok_law T F_law c__law_cell c__law_well c__law_orders_right c__law_numbers_right c__law_sets_right c__law_shares_right
theorem fin {P : Program} {w : World} {K : Fg} {mg : Str → Option Value} {h : Heap} {fa : Addr} (KX : K.In h) (G : h.Ns mainGlobals mg) (c : sayT fp fn ts w K) (hmg : mg ("law" : Str) = some (.ref fa)) :
    ∃ (K : PySem.W.Frag) (fd : FuncData) (sp : Sp), K.In h ∧ (∀ (s : Shared) (u : Value), BindsTo s fd ⟨[u], []⟩ [("script", u)]) ∧
        (∀ (H : Hp) (a : Addr) (ns : List Int), ns.length ≤ 63 → Only H → SqL K H a (ns.map V.int) → sp [.ref a] H (fun v _ => v = .bl true) fun _ _ _ => False) ∧
        ∀ base : Heap, K.In base → base.Ns mainGlobals mg → FnOk P w K mg base (fun _ _ _ _ _ _ => False) 12 fa fd ["script"] sp := by
  have T := tx_mk KX G c
  have e : fa = He.ga K "law" := Value.ref.inj (Option.some.inj (hmg.symm.trans T.g_law))
  exact fin_mk KX e T.F_law (fun _ _ _ _ _ _ us hl => match us, hl with | [_], _ => rfl) (fun H a ns h1 h2 => sp_law_of h1 h2) (fun fd base F => all_ok T F)
abbrev R : PySem.W.OpenRow := PySem.W.OpenLaw.row PySem.Challenge.rw_splitwide_k58_orders_sets_shares_refused
abbrev hk : PySem.W.Hook := hkT 5 fp fn ts
def ob (s : PySem.W.SharedT) : AlX := obT fp fn ts (He.frG (HandSHeadRun.getT s) (asX (HandSHeadRun.getT s) 5))
theorem ob_eq (s : PySem.W.SharedT) : ob s = hk.obs s.abs := obT_eq (HandSHeadRun.getT_eq s)
def loose : List Str := (["SeedError", "NoNumber", "NoOrder", "NoSet", "NoShares", "is_whole", "is_within", "is_row", "is_order", "need_order", "exchange", "products_to", "orders_many", "order_at", "order_rank", "next_order", "laid", "turned_order", "by_numbers", "numbers_by", "need_many", "ways", "sets_many", "set_at", "is_set", "need_set", "set_rank", "next_set", "need_shares", "shares_many"] : List Str) ++ (["parted_at", "share_at", "rest_in", "first_of", "number_of", "_law_cell", "_law_well", "_law_draw", "_law_order", "_law_bad_number", "_law_bad_order", "_law_bad_set", "_law_bad_shares", "_law_called", "_law_called_else", "_law_told", "_law_very", "_law_is", "_law_orders_right", "_law_numbers_right", "_law_sets_right", "_law_shares_right", "MOST_LAID", "MOST_RANKED", "MOST_OUT_OF", "MOST_SHARES", "MOST_SHARE"] : List Str)
theorem run (w : World) : HandSHeadRun.RunEq R (PySem.W.view R.prog [63]) hk ob 20000 loose w := by
  intro os
  kernel_rfl
end Law
open PySem PySem.W PySem.Calls PyProof.Rows
theorem PySem.Challenge.cw_splitwide_k58_orders_sets_shares_refused_holds : PySem.Challenge.rw_splitwide_k58_orders_sets_shares_refused.Holds := by
  w_on; o_law
  refine HandSHeadRun.head_any (r := OpenLaw.row PySem.Challenge.rw_splitwide_k58_orders_sets_shares_refused) (q := view (OpenLaw.row PySem.Challenge.rw_splitwide_k58_orders_sets_shares_refused).prog [63]) (H := Law.hk) (ob := Law.ob) (M := 20000) (loose := Law.loose) (d := HandSHeadRun.topDef (OpenLaw.row PySem.Challenge.rw_splitwide_k58_orders_sets_shares_refused).prog 63) (kwd := []) Law.ob_eq
    (by kernel_rfl) (fun s => by kernel_rfl) Law.run (by kernel_rfl) (by kernel_rfl) (by kernel_rfl) (by rfl) (by first | assumption | decide +kernel) (by decide +kernel) ⟨rfl, rfl, rfl, rfl, rfl, by decide +kernel⟩ ?hw ?hc
  case hw => w_witness2
  case hc =>
    refine L2.walk_ofE (l := PySem.Challenge.rw_splitwide_k58_orders_sets_shares_refused) (n := 63) (k := 12) (x := "script") (CX := fun _ _ _ _ _ _ => False) rfl (by decide) (by kernel_rfl) ⟨rfl, by decide, by decide⟩ ?F (fun _ _ _ _ z => z)
    intro w mg fa h Y G hmg0
    obtain ⟨K, KX, c⟩ := Y
    have hmg : mg ("law" : PySem.Str) = some (.ref fa) := by
      have e : (HandSHeadRun.topDef (OpenLaw.row PySem.Challenge.rw_splitwide_k58_orders_sets_shares_refused).prog 63).name = ("law" : PySem.Str) := by kernel_rfl
      rw [← e]
      exact hmg0
    exact Law.fin KX G c hmg
