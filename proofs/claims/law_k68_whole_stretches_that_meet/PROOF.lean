import PyProof.Rows.All
import Wide.All
import OpenK.AllK
import Wide.FinOn
import HandS.ForMost
import HandS.Exc
import HandS.ExcOwn
import HandS.ExcInit
import HandS.ExcIs
import HandS.WordsExc
import HandS.Defaults
import HandS.IsInst
import HandS.CallLocal
import HandS.RevRange
import HandS.Rev
import HandS.Zip
import HandS.Style
import HandS.Wide
import HandS.WideBits
import HandS.Head0
import HandS.Head1
import HandS.Head2
import HandS.HeadEnd
import HandS.HeadHook1
import HandS.HeadHook2
import HandS.ExcField
import HandS.HeadWalk
import HandS.DeepEq
import HandS.TupAny
import HandS.More
import HandS.HeadHook3
import HandS.ExcValue
import HandS.Iter
import HandS.Dict
import HandS.WordsDict
import HandS.TryMany
import HandS.DictComp
import KE.KTupSum
import HandS.TupMul
import PyProof.ReprReads
import PyProof.ReprRoads
import PyProof.ReprLen
import PySem.Challenge.RW_splitwide_k68_whole_stretches_that_meet
set_option Elab.async false
set_option linter.all false
set_option maxRecDepth 100000
set_option maxHeartbeats 0
/-! Defs that are called where no display is under way: the room with the guards. -/
namespace Sw
open PySem PySem.Spec PyProof.Rows L2
abbrev Fg := PySem.W.Frag
/-- room for k calls, and no repr is going on -/
structure Rm (k : Nat) (A : Around) : Prop where
  r : Room k A
  gd : A.guards = some []
theorem Rm.mono {j k : Nat} {A : Around} (q : Rm k A) (h : j ≤ k) : Rm j A := ⟨q.r.mono h, q.gd⟩
theorem Rm.deeper {k : Nat} {A : Around} (q : Rm (k + 1) A) (env : Env) : Rm k (A.deeper env) := ⟨q.r.deeper env, q.gd⟩
theorem Rm.make {k : Nat} {A : Around} (q : Rm (k + 1) A) (C : Addr) (us : List Value) : Rm k (A.under (.builtin "type.__call__" ⟨.ref C :: us, []⟩)) := ⟨q.r.make C us [], by simp [Around.under, Code.weight, Code.guards, Code.isGuard, Code.isCreation, Code.isCaller, pushGuards, guardIds, q.gd]⟩
theorem Rm.units {k : Nat} {A : Around} (q : Rm k A) : A.units + 64 < cLine := q.r.units
/-- a def's promise, kept wherever such room is -/
structure FnG (P : Program) (w : World) (K : Fg) (mg : Str → Option Value) (base : Heap) (k : Nat) (f : Addr) (fd : FuncData) (ps : List Str) (sp : Sp) : Prop where
  n : ∀ vs H Q E, sp vs H Q E → vs.length = ps.length
  go : ∀ (A : Around) (o : List Env) (s : Shared) (H : Hp) (ar : Args) (us : List Value) (vs : List V) (Q : VK) (E : XK), Rm k A → Env0 P w K mg base A o s H → BindsTo s fd ar (ps.zip us) → Vals vs us → sp vs H Q E →
    codeAny (model P w) A (.call (.ref f) ar) (CR (L2.CX P w) o P w H s Q E) s
section
variable {P : Program} {w : World} {K : Fg} {mg : Str → Option Value} {base : Heap} {k j : Nat} {f : Addr} {fd : FuncData} {ps : List Str} {sp sp' : Sp}
theorem FnG.weak (F : FnG P w K mg base k f fd ps sp) (h : ∀ vs H Q E, sp' vs H Q E → sp vs H Q E) : FnG P w K mg base k f fd ps sp' :=
  ⟨fun vs H Q E q => F.n vs H Q E (h _ _ _ _ q), fun A o s H ar us vs Q E m e b r q => F.go A o s H ar us vs Q E m e b r (h _ _ _ _ q)⟩
theorem FnG.of {CX : CXT} (F : FnOk P w K mg base (L2.CX P w) k f fd ps sp) : FnG P w K mg base k f fd ps sp :=
  ⟨F.len, fun A o s H ar us vs Q E m e b r q => F.run A o s H ar us vs Q E m.r e b r q⟩
/-- a body that is read gives the promise -/
theorem fnG_of {x qual : Str} {params : Arguments} {body : List Stmt} {scope : Scope} {dvs : List V} {kws : List (Str × V)} {N : List Str} (D : FunD K x qual params body scope dvs kws f fd) (S : FnScope N ps scope) (n : ∀ vs H Q E, sp vs H Q E → vs.length = ps.length)
    (hb : ∀ (cdv : Value) (A : Around) (o : List Env) (s : Shared) (H : Hp) (vs : List V) (Q : VK) (E : XK), Rm k (A.deeper (envOfC qual scope s.heap.objs.size f cdv)) → sp vs H Q E →
      ∃ t, PSs (cxOf (L2.CX P w) P w K mg base N qual scope f cdv A o s H E) body t ∧ t { nx := fun _ H' => Q .non H', rt := Q } (start N vs) H) : FnG P w K mg base (k + 1) f fd ps sp := by
  obtain ⟨oc, od, dV, kV, doc, pm, an, cdv, ct, osl, rfl, lk, hcd, _, _⟩ := D.ex
  refine ⟨n, ?_⟩
  intro A o s H ar us vs Q E m e b r q
  have vl := n vs H Q E q
  have old : ∀ b o, base.get? b = some o → s.heap.get? b = some o := fun b o z => (e.bs b o z).1
  have kIn : K.In s.heap := e.mod.kin.keeps old
  have nl : s.heap.NoLimit := e.mod.nolimit.keeps old
  have kinds : ∀ y ∈ ps.zip us, scope.names.lookup y.1 = some .local ∨ (scope.names.lookup y.1 = some .cell ∧ ((cellsFrom (s.heap.objs.size + 1) scope.names []).lookup y.1).isSome = true) := by
    rintro ⟨y, u⟩ my
    exact (S.par y (List.of_mem_zip my).1).imp id fun z => ⟨z, PySem.W.cellsFrom_some _ _ _ (.inl z)⟩
  refine codeAny_call_function m.r.depth (kIn _ _ lk) rfl S.co S.gen rfl (PySem.W.codeRec_of kIn hcd) (b _ _ _ _ (wpAny_newFunctionEnv_cells S.kind kinds fun env ee s1 x => ?_))
  subst ee
  obtain ⟨t, pt, qt⟩ := hb cdv A o s H vs Q E (m.deeper _) q
  refine ⟨nl.keeps x.toInCall.keep, codeAny_func (wpAny_mono (pt.run [] s1 (start N vs) H _ (inv_start S m.r.hd e vl r x) qt) ?_ fun _ _ z => z)⟩
  intro fl s2 z
  have ends : ∀ {σ2 : L2.St} {H2 : Hp} {v : V} {u : Value}, Inv (cxOf (L2.CX P w) P w K mg base N qual scope f cdv A o s H E) [] σ2 H2 s2 → RelV v u → Q v H2 → CE o P w H s Q u s2 := by
    intro σ2 H2 v u J rv qv
    exact ⟨v, H2, J.os, J.bare, J.base, J.hok, rv, qv⟩
  rcases fl with _ | _ | _ | u
  all_goals first
    | (obtain ⟨σ2, H2, J, qv⟩ := z; first | exact False.elim qv | exact ends (v := .non) (u := .none) J rfl qv)
    | (obtain ⟨v, σ2, H2, J, rv, qv⟩ := z; exact ends J rv qv)
end
/-! ### from within a body -/
section
variable {X : Cx} {k j : Nat} {f C : Addr} {fd : FuncData} {ps : List Str} {sp : Sp} {E : L2.St → XK} {pins : List (Addr × Obj)} {σ : L2.St} {H : Hp} {s : Shared} {Q : VK} {us : List Value} {vs : List V}
theorem run_fnG (F : FnG X.prog X.w X.K X.mg X.base k f fd ps sp) (m : Rm k X.A) (hb : Binds X.K fd ps []) (hx : PassesAt (L2.CX X.prog X.w) X σ (E σ)) (I : Inv X pins σ H s) (r : Vals vs us) (q : sp vs H Q (E σ)) :
    wpAny (model X.prog X.w) X.A (call (.ref f) us) (EP X pins σ Q) X.xe s := by
  have ul : us.length = ps.length := r.length.symm.trans (F.n _ _ _ _ q)
  have bd : BindsTo s fd ⟨us, []⟩ (ps.zip us) := by simpa using hb s us I.kIn (by simpa using ul)
  refine wpAny_call (codeAny_mono (F.go X.A X.stack s H ⟨us, []⟩ us vs Q (E σ) m I.env0 bd r q) ?_)
  rintro (e | (_ | _ | _ | u)) s2 z <;> first | exact z.elim | exact hx pins H s e s2 I z | exact I.after z
theorem run_makG (M : Mk X.K C f) (F : FnG X.prog X.w X.K X.mg X.base k f fd ps sp) (m : Rm (k + 1) X.A) (hb : Binds X.K fd ps []) (hx : PassesAt (L2.CX X.prog X.w) X σ (E σ)) (I : Inv X pins σ H s) (r : Vals vs us)
    (q : ∀ x dx, H x = none → H dx = none → dx ≠ x → sp (.ref x :: vs) (upd (upd H dx (.own x)) x (.ins C dx [])) (fun v H2 => v = .non ∧ Q (.ref x) H2) (E σ)) : wpAny (model X.prog X.w) X.A (call (.ref C) us) (EP X pins σ Q) X.xe s := by
  have fr := fun b (h : s.heap.objs.size ≤ b) => I.hok.fresh h
  have q1 := q (s.heap.objs.size + 1) s.heap.objs.size (fr _ (Nat.le_succ _)) (fr _ (Nat.le_refl _)) (Nat.ne_of_lt (Nat.lt_succ_self _))
  have J := Inv.made (C := C) I
  have r1 : Vals (V.ref (s.heap.objs.size + 1) :: vs) (Value.ref (s.heap.objs.size + 1) :: us) := .cons rfl r
  have ul : (Value.ref (s.heap.objs.size + 1) :: us).length = ps.length := r1.length.symm.trans (F.n _ _ _ _ q1)
  refine wpAny_call (make_map (f := f) I.kIn M.makes M.init (beq_iff_eq.mp M.fn) (codeAny_mono (F.go _ X.stack _ _ ⟨_, []⟩ _ _ _ (E σ) (m.make C us) (J.env0.make C us []) (by simpa using hb _ (Value.ref (s.heap.objs.size + 1) :: us) J.kIn (by simpa using ul)) r1 q1) ?_))
  rintro (e | (_ | _ | _ | u)) s2 z
  · exact hx pins _ _ e s2 J z
  · exact z.elim
  · exact z.elim
  · exact z.elim
  · obtain ⟨v, H2, J2, rv, ev, q2⟩ := J.after z
    subst ev
    exact ⟨rv, V.ref (s.heap.objs.size + 1), H2, J2, rfl, q2⟩
end
/-! ### the top's call -/
/-- the law's def called on the script, from a heap in which the script is known -/
theorem top_from {P : Program} {w : World} {K : Fg} {mg mb : Str → Option Value} {k : Nat} {fa a : Addr} {fd : FuncData} {x : Str} {sp : Sp} {s : Shared} {vs : List Value} {H : Hp} (kIn : K.In s.heap) (hns : s.heap.Ns mainGlobals mg) (hb : s.heap.Ns builtinsNs mb)
    (hbb : ∀ x : Str, x ≠ "__name__" → mb x = bootBuiltins x) (hlim : s.heap.NoLimit) (hg : s.gens = #[]) (ha : s.heap.get? a = some { cls := .type "list", data := .seq vs.toArray }) (m : Rm k callerA)
    (F : ∀ base : Heap, FnG P w K mg base k fa fd [x] sp) (bd : ∀ (s : Shared) (u : Value), BindsTo s fd ⟨[u], []⟩ [(x, u)]) (hO : Only H) (q : sp [.ref a] H (fun v _ => v = .bl true) fun _ _ _ => False) (ok : HOk P w H s.heap)
    (one : ∀ b, H b ≠ none → b = a) (no : H a ≠ none → K.lookup a = none) :
    codeAny (model P w) callerA (.call (.ref fa) ⟨[.ref a], []⟩) (fun r s' => r = .ok (.ret (.bool true)) ∧ OldK s.heap s'.heap ∧ s'.os = s.os ∧ AllBare s'.gens) s := by
  have known : ∀ {b : Addr} {u : HO}, H b = some u → b = a := fun {b u} z => one b (by rw [z]; exact fun c => nomatch c)
  have dic : ∀ {b : Addr} {o : Obj} {es : Array DictEntry} {ep : Nat}, s.heap.get? b = some o → o.data = .dict es ep → H b = none := by
    intro b o es ep e d
    match z : H b with
    | none => rfl
    | some u =>
      have eb := known z
      rw [eb, ha] at e
      injection e with e
      rw [← e] at d
      exact nomatch d
  have ns2 : ∀ {b : Addr} {mm : Str → Option Value}, s.heap.Ns b mm → (hidT s.heap H).Ns b mm := by
    rintro b mm ⟨o, es, ep, e, d, z⟩
    exact ⟨o, es, ep, hidT_get e (dic e d), d, z⟩
  have kb : K.In (hidT s.heap H) := by
    intro b o e
    refine hidT_get (kIn b o e) ?_
    match z : H b with
    | none => rfl
    | some u =>
      have eb := known z
      have n := no (by rw [← eb, z]; exact fun c => nomatch c)
      rw [eb, n] at e
      exact nomatch e
  have mod : Mod K mg (hidT s.heap H) := by
    obtain ⟨mc, h1, h2⟩ := hlim
    exact ⟨kb, ns2 hns, ⟨mb, ns2 hb, hbb⟩, mc, ns2 h1, h2⟩
  have env : Env0 P w K mg (hidT s.heap H) callerA [] s H := ⟨rfl, mod, fun b o e => of_hidT e, Nat.le_of_eq (hidT_size _ _), trivial, fun b z => (nomatch z), ok, .of_eq hg⟩
  refine codeAny_mono ((F _).go callerA [] s H ⟨[.ref a], []⟩ [.ref a] [.ref a] _ _ m env (bd s (.ref a)) (.cons rfl .nil) q) ?_
  rintro (e | (_ | _ | _ | u)) s2 z
  · obtain ⟨_, _, _, _, _, _, _, _, _, _, _, _, y⟩ := z
    exact y.elim
  · exact z.elim
  · exact z.elim
  · exact z.elim
  obtain ⟨v, H2, os, bare, un, ok2, rv, ev⟩ := z
  have ev : v = .bl true := ev
  rw [ev] at rv
  have eu : u = .bool true := rv
  refine ⟨by rw [eu], OldK.of_keep ?_, os, bare⟩
  intro b o e
  match z : H b with
  | none => exact un.keep b o e z (fun y => (nomatch y)) (fun y => (nomatch y))
  | some u2 =>
    rcases hO b with y | ⟨ob, xs, y⟩
    · rw [z] at y
      exact nomatch y
    · have y2 := un.frzs b ob _ y
      have g1 := (ok b _ y).1
      have g2 := (ok2 b _ y2).1
      rw [g1] at e
      injection e with e
      rw [← e]
      exact g2
theorem top_call {P : Program} {w : World} {K : Fg} {mg mb : Str → Option Value} {k : Nat} {fa a : Addr} {fd : FuncData} {x : Str} {sp : Sp} {s : Shared} {vs : List Value} {ns : List Int} (kIn : K.In s.heap) (hns : s.heap.Ns mainGlobals mg) (hb : s.heap.Ns builtinsNs mb)
    (hbb : ∀ x : Str, x ≠ "__name__" → mb x = bootBuiltins x) (hlim : s.heap.NoLimit) (hg : s.gens = #[]) (ha : s.heap.get? a = some { cls := .type "list", data := .seq vs.toArray }) (hi : IntsAre vs ns) (hl : ns.length ≤ sizeLine) (m : Rm k callerA)
    (F : ∀ base : Heap, FnG P w K mg base k fa fd [x] sp) (bd : ∀ (s : Shared) (u : Value), BindsTo s fd ⟨[u], []⟩ [(x, u)]) (q : ∀ H : Hp, Only H → SqL K H a (ns.map V.int) → sp [.ref a] H (fun v _ => v = .bl true) fun _ _ _ => False) :
    codeAny (model P w) callerA (.call (.ref fa) ⟨[.ref a], []⟩) (fun r s' => r = .ok (.ret (.bool true)) ∧ OldK s.heap s'.heap ∧ s'.os = s.os ∧ AllBare s'.gens) s := by
  have rv := vals_ints hi
  have lv := hi.length
  match lk : K.lookup a with
  | some o =>
    have e := kIn a o lk
    rw [ha] at e
    injection e with e
    have on : Only fun _ => none := fun _ => .inl rfl
    have sq : SqL K (fun _ => none) a (ns.map V.int) := by
      refine .inr ⟨o, vs.toArray, ?_⟩
      rw [← e]
      exact ⟨_, by rw [lk, ← e], rfl, rfl, rfl, by rw [List.size_toArray, lv]; exact hl, by simpa using rv⟩
    exact top_from kIn hns hb hbb hlim hg ha m F bd on (q _ on sq) (fun b u z => nomatch z) (fun b z => (z rfl).elim) fun z => (z rfl).elim
  | none =>
    have at_ : ∀ (b : Addr) (u : HO), (if b = a then some (HO.frz { cls := .type "list", data := .seq vs.toArray } (.lst (ns.map V.int))) else none) = some u → b = a ∧ u = .frz { cls := .type "list", data := .seq vs.toArray } (.lst (ns.map V.int)) := by
      intro b u z
      by_cases eb : b = a
      · rw [if_pos eb] at z
        injection z with z
        exact ⟨eb, z.symm⟩
      · rw [if_neg eb] at z
        exact nomatch z
    have on : Only fun b => if b = a then some (HO.frz { cls := .type "list", data := .seq vs.toArray } (.lst (ns.map V.int))) else none := by
      intro b
      by_cases eb : b = a
      · exact .inr ⟨_, _, if_pos eb⟩
      · exact .inl (if_neg eb)
    refine top_from kIn hns hb hbb hlim hg ha m F bd on (q _ on (.inl (.inr ⟨_, if_pos rfl⟩))) ?_ ?_ fun _ => lk
    · intro b u z
      obtain ⟨eb, eu⟩ := at_ b u z
      subst eb eu
      exact ⟨ha, by rw [List.length_map]; exact hl, vs, _, rv, ha⟩
    · intro b z
      match y : (if b = a then some (HO.frz { cls := .type "list", data := .seq vs.toArray } (.lst (ns.map V.int))) else none) with
      | none => exact (z y).elim
      | some u => exact (at_ b u y).1
/-- a law's end over a head by facts -/
theorem walk_top {l : PySem.W.OpenLaw} {n k : Nat} {q : Program} {loose : List Str} {XP : (Str → Option Value) → Heap → Prop} {YP : World → Heap → Prop} {d : DefRec} {x : Str} (hn : l.most = some n) (hn2 : n ≤ sizeLine) (hdf : d.params.defaults = []) (m : Rm k callerA)
    (F : ∀ (w : World) (mg : Str → Option Value) (fa : Addr) (h : Heap), YP w h → h.Ns mainGlobals mg → mg d.name = some (.ref fa) → ∃ (K : Fg) (fd : FuncData) (sp : Sp), K.In h ∧ (∀ (s : Shared) (u : Value), BindsTo s fd ⟨[u], []⟩ [(x, u)]) ∧
      (∀ (H : Hp) (a : Addr) (ns : List Int), ns.length ≤ n → Only H → SqL K H a (ns.map V.int) → sp [.ref a] H (fun v _ => v = .bl true) fun _ _ _ => False) ∧ ∀ base : Heap, FnG l.prog w K mg base k fa fd [x] sp) :
    PySem.W.WalkO q loose XP YP l.row.toRowW d [] (fun f vs => PySem.call f vs) := by
  refine Att.attach_call hn hdf fun w s0 s1 mg mb fa o pm cd doc a vs ns G Y ho hd hcd hm hobj hi hlen hg => ?_
  obtain ⟨K, fd, sp, kIn, hb, hsp, hF⟩ := F w mg fa _ Y G.T.g hm
  exact top_call kIn G.T.g G.T.b G.T.builtins G.T.nolimit hg hobj hi (Nat.le_trans hlen hn2) m hF hb fun H hO hS => hsp H a ns hlen hO hS
end Sw

/-! Own words over the layer: the head's facts as a Bool, callable defs, errors of the program's own. -/
namespace Sw
open PySem PySem.Spec PyProof.Rows L2
/-! ### the head: any Bool over the written part, and the defs -/
def obX (p : Fg → Bool) (fn : List He.DefD) (K : Fg) : He.AlD := (p K && fn.all (fun d => d.ok K), fn.map fun d => He.fnW K d.at_)
/-- what the module's names, and the table of the classes' own, reach in n steps -/
def asX (g : Addr → Option Obj) : Nat → List Addr
  | 0 => [mainGlobals, PySem.cStatics]
  | n + 1 => He.growD g (asX g n)
/-- .. and the table of the modules -/
def asZ (g : Addr → Option Obj) (n : Nat) : List Addr := PySem.sysModules :: asX g n
def sayX (p : Fg → Bool) (fn : List He.DefD) (K : Fg) : Prop := obX p fn K = He.valD fn
def hkX (n : Nat) (p : Fg → Bool) (fn : List He.DefD) : PySem.W.Hook where
  α := He.AlD
  obs := fun s => obX p fn (He.frG s.heap.get? (asZ s.heap.get? n))
  val := fun _ => He.valD fn
  says := fun _ h => ∃ K : Fg, K.In h ∧ sayX p fn K
  of := fun _ _ e => ⟨_, He.frG_in, e⟩
  keeps := fun _ _ _ ⟨K, hK, c⟩ k => ⟨K, PySem.W.Frag.In.keeps hK k, c⟩
theorem obX_eq {n : Nat} {p : Fg → Bool} {fn : List He.DefD} {g : Addr → Option Obj} {s : Shared} (h : ∀ a, g a = s.heap.get? a) : obX p fn (He.frG g (asZ g n)) = (hkX n p fn).obs s := by
  rw [show g = s.heap.get? from funext h] <;> rfl
theorem sayX.p {p : Fg → Bool} {fn : List He.DefD} {K : Fg} (c : sayX p fn K) : p K = true := (He.ba (congrArg (·.1) c)).1
theorem sayX.def_ {p : Fg → Bool} {fn : List He.DefD} {K : Fg} (c : sayX p fn K) (i : Nat) {d : He.DefD} (h : fn[i]? = some d := by rfl) :
    ∃ fd, FunD K d.name d.qual d.params d.body d.scope (d.dvs K) (d.kws K) (He.fAd K d.at_) fd := by
  have c2 : (fn.all fun d => d.ok K) = true := (He.ba (congrArg (·.1) c)).2
  have e : fn.map (fun d => He.fnW K d.at_) = fn.map He.DefD.val := congrArg (·.2) c
  have e2 : (fn.map fun d => He.fnW K d.at_)[i]? = (fn.map He.DefD.val)[i]? := by rw [e]
  rw [List.getElem?_map, List.getElem?_map, h] at e2
  exact He.DefD.funD (Option.some.inj e2) (List.all_eq_true.mp c2 d (List.mem_of_getElem? h))
/-! ### a def that may be called by its name -/
structure Cal (P : Program) (w : World) (K : Fg) (mg : Str → Option Value) (base : Heap) (k : Nat) (x : Str) (ps : List Str) (sp : Sp) : Prop where
  ex : ∃ fd : FuncData, FnG P w K mg base k (He.ga K x) fd ps sp ∧ Binds K fd ps []
  at_ : mg x = some (.ref (He.ga K x))
  kp : PySem.W.keepIn K (.ref (He.ga K x)) = true
section
variable {X : Cx} {k j : Nat} {x : Str} {ps : List Str} {sp : Sp} {E : XK} {p pos : Pos} {e : Expr} {es : List Expr} {t : TA}
theorem pe_cal (c : Cal X.prog X.w X.K X.mg X.base k x ps sp) (hr : Rm j X.A) (hk : k ≤ j) (hx : Passes (L2.CX X.prog X.w) X E) (hg : Gl X x) (ha : PA X (e :: es) t)
    (hd : (x == ("__debug__" : Str)) = false := by decide) (he : starEach (e :: es) X.env = (false, eval e X.env) :: starEach es X.env := by rfl) (hpl : (backTo pos (starEach es X.env)).any (·.1) = false := by rfl) :
    PE X (.Call (.Name x p) (e :: es) [] pos) (tCallS sp (fun _ => E) t) := by
  obtain ⟨fd, F, b⟩ := c.ex
  refine ⟨fun pins s σ H Q I h => wpAny_Call_Name_kw (ld_glob I hg c.at_ ?_ hd)⟩
  refine PySem.W.callWith_K (h₀ := X.base) I.ok.mod.kin c.kp (thn (ha.run pos pins s σ H _ I h) fun us s1 ⟨vs, H1, I1, r, q⟩ => ⟨I1.kIn, ?_⟩) he hpl
  exact run_fnG (E := fun _ => E) F (hr.mono hk) b (fun pins H s e s' I c => hx pins σ H s e s' I c) I1 r q
theorem pe_cal0 (c : Cal X.prog X.w X.K X.mg X.base k x ps sp) (hr : Rm j X.A) (hk : k ≤ j) (hx : Passes (L2.CX X.prog X.w) X E) (hg : Gl X x)
    (hd : (x == ("__debug__" : Str)) = false := by decide) : PE X (.Call (.Name x p) [] [] pos) (tCallS sp (fun _ => E) tNil) := by
  obtain ⟨fd, F, b⟩ := c.ex
  refine ⟨fun pins s σ H Q I h => wpAny_Call_Name_kw (ld_glob I hg c.at_ ?_ hd)⟩
  exact PySem.W.callWith_K0 I.kIn c.kp (run_fnG (us := []) (E := fun _ => E) F (hr.mono hk) b (fun pins H s e s' I c => hx pins σ H s e s' I c) (I.tok _) .nil h)
/-- within a try's body -/
theorem pe_calS {W : WX} (c : Cal X.prog X.w X.K X.mg X.base k x ps sp) (hr : Rm j X.A) (hk : k ≤ j) (tk : Takes X W) (hg : Gl X x) (ha : PA X (e :: es) t)
    (hd : (x == ("__debug__" : Str)) = false := by decide) (he : starEach (e :: es) X.env = (false, eval e X.env) :: starEach es X.env := by rfl) (hpl : (backTo pos (starEach es X.env)).any (·.1) = false := by rfl) :
    PE X (.Call (.Name x p) (e :: es) [] pos) (tCallS sp (WE W) t) := by
  obtain ⟨fd, F, b⟩ := c.ex
  refine ⟨fun pins s σ H Q I h => wpAny_Call_Name_kw (ld_glob I hg c.at_ ?_ hd)⟩
  refine PySem.W.callWith_K (h₀ := X.base) I.ok.mod.kin c.kp (thn (ha.run pos pins s σ H _ I h) fun us s1 ⟨vs, H1, I1, r, q⟩ => ⟨I1.kIn, ?_⟩) he hpl
  exact run_fnG F (hr.mono hk) b (passAt tk σ) I1 r q
end
/-- one def of the text: its body's reading gives its promise -/
theorem cal_mk {P : Program} {w : World} {K : Fg} {mg : Str → Option Value} {base : Heap} {k : Nat} {x : Str} {N ps : List Str} {sp : Sp} {st : Stmt}
    (F : ∃ fd, FunD K x x (defArgs st) (defBody st) (defScope st) [] [] (He.ga K x) fd) (hm : mg x = some (.ref (He.ga K x))) (S : FnScope N ps (defScope st)) (len : ∀ vs H Q E, sp vs H Q E → vs.length = ps.length)
    (hb : ∀ (kV doc pm : Value) (an : Option Addr) (cdv ct : Value) (us : List Value), us.length = ps.length → bindArgs (PySem.W.fnOf x x (defArgs st) (defBody st) (defScope st) .none kV doc pm an cdv ct) ⟨us, []⟩ = pure (ps.zip us))
    (hbody : ∀ (cdv : Value) (A : Around) (outer : List Env) (s : Shared) (H : Hp) (vs : List V) (Q : VK) (E : XK), Rm k (A.deeper (envOfC x (defScope st) s.heap.objs.size (He.ga K x) cdv)) → sp vs H Q E →
      ∃ t, PSs (cxOf (L2.CX P w) P w K mg base N x (defScope st) (He.ga K x) cdv A outer s H E) (defBody st) t ∧ t { nx := fun _ H' => Q .non H', rt := Q } (start N vs) H) : Cal P w K mg base (k + 1) x ps sp := by
  obtain ⟨fd, F⟩ := F
  exact ⟨⟨fd, fnG_of F S len hbody, F.bindsN hb⟩, hm, F.kp⟩
theorem Cal.imp {P : Program} {w : World} {K : Fg} {mg : Str → Option Value} {base : Heap} {k : Nat} {x : Str} {ps : List Str} {sp sp' : Sp} (c : Cal P w K mg base k x ps sp) (h : ∀ vs H Q E, sp' vs H Q E → sp vs H Q E) :
    Cal P w K mg base k x ps sp' := by
  obtain ⟨⟨fd, F, b⟩, a, kp⟩ := c
  exact ⟨⟨fd, F.weak h, b⟩, a, kp⟩
end Sw

/-! Readings by simp: each reading opened when it stands at its slots and its heap, branches kept shut. -/
namespace Sw
open PySem PySem.Spec PyProof.Rows L2
/-- a branch that waits -/
def Br (b : Bool) (f g : L2.St → Hp → Prop) (σ : L2.St) (H : Hp) : Prop := if b = true then f σ H else g σ H
theorem Br.t {f g : L2.St → Hp → Prop} {σ : L2.St} {H : Hp} : Br true f g σ H = f σ H := by unfold Br; rw [if_pos rfl]
theorem Br.f {f g : L2.St → Hp → Prop} {σ : L2.St} {H : Hp} : Br false f g σ H = g σ H := by unfold Br; rw [if_neg (by decide)]
theorem Br.of {b : Bool} {f g : L2.St → Hp → Prop} {σ : L2.St} {H : Hp} (h1 : b = true → f σ H) (h2 : b = false → g σ H) : Br b f g σ H := by
  cases b with
  | true => rw [Br.t]; exact h1 rfl
  | false => rw [Br.f]; exact h2 rfl
theorem Br.d {p : Prop} [Decidable p] {f g : L2.St → Hp → Prop} {σ : L2.St} {H : Hp} (h1 : p → f σ H) (h2 : ¬ p → g σ H) : Br (decide p) f g σ H := .of (fun h => h1 (of_decide_eq_true h)) fun h => h2 (of_decide_eq_false h)
theorem Br.n {p : Prop} [Decidable p] {f g : L2.St → Hp → Prop} {σ : L2.St} {H : Hp} (h1 : ¬ p → f σ H) (h2 : p → g σ H) : Br (!decide p) f g σ H := .of (fun h => h1 (of_decide_eq_false (by simpa using h))) fun h => h2 (by simpa using h)
/-- a value's branch that waits -/
def Be (b : Bool) (f g : Hp → Prop) (H : Hp) : Prop := if b = true then f H else g H
theorem Be.t {f g : Hp → Prop} {H : Hp} : Be true f g H = f H := by unfold Be; rw [if_pos rfl]
theorem Be.f {f g : Hp → Prop} {H : Hp} : Be false f g H = g H := by unfold Be; rw [if_neg (by decide)]
theorem Be.of {b : Bool} {f g : Hp → Prop} {H : Hp} (h1 : b = true → f H) (h2 : b = false → g H) : Be b f g H := by
  cases b with
  | true => rw [Be.t]; exact h1 rfl
  | false => rw [Be.f]; exact h2 rfl
theorem Be.d {p : Prop} [Decidable p] {f g : Hp → Prop} {H : Hp} (h1 : p → f H) (h2 : ¬ p → g H) : Be (decide p) f g H := .of (fun h => h1 (of_decide_eq_true h)) fun h => h2 (of_decide_eq_false h)
theorem Be.n {p : Prop} [Decidable p] {f g : Hp → Prop} {H : Hp} (h1 : ¬ p → f H) (h2 : p → g H) : Be (!decide p) f g H := .of (fun h => h1 (of_decide_eq_false (by simpa using h))) fun h => h2 (by simpa using h)
theorem upd_at {H : Hp} {a b : Addr} {o : HO} : upd H a o b = if b = a then some o else H b := rfl
theorem rs : (∀ t u D σ H, tSeq t u D σ H = t ⟨u D, D.rt, D.bk, D.ct⟩ σ H) ∧ (∀ D σ H, tNext D σ H = D.nx σ H) ∧ (∀ D σ H, tBreak D σ H = D.bk σ H) ∧ (∀ D σ H, tCont D σ H = D.ct σ H) ∧
    (∀ te g D σ H, tAsg te g D σ H = te σ H fun x H1 => g x σ H1 D.nx) ∧ (∀ te D σ H, tDrop te D σ H = te σ H fun _ H1 => D.nx σ H1) ∧ (∀ te D σ H, tRet te D σ H = te σ H D.rt) ∧ (∀ D σ H, tRetN D σ H = D.rt .non H) ∧
    (∀ c t u D σ H, tIfS c t u D σ H = c σ H fun b H1 => Br b (t D) (u D) σ H1) ∧
    (∀ i j ta D σ H, tPar i j ta D σ H = ta σ H fun vs H1 => ∃ v w, vs = [v, w] ∧ D.nx ((σ.set i (some v)).set j (some w)) H1) ∧
    (∀ i te ti D σ H, tAug i te ti D σ H = ∃ x, σ[i]? = some (some x) ∧ te σ H fun y H1 => ti x y H1 fun z H2 => D.nx (σ.set i (some z)) H2) ∧
    (∀ i v σ H Q, gName i v σ H Q = Q (σ.set i (some v)) H) ∧ (∀ vs σ H Q, gNil vs σ H Q = (vs = [] ∧ Q σ H)) ∧ (∀ t u vs σ H Q, gCons t u vs σ H Q = ∃ v r, vs = v :: r ∧ t v σ H fun σ' H' => u r σ' H' Q) ∧
    (∀ to ti t v σ H Q, gSub to ti t v σ H Q = to σ H fun o H1 => ti σ H1 fun i H2 => t o i v H2 fun H3 => Q σ H3) ∧
    (∀ b f g σ H, Br b f g σ H = Br b f g σ H) := by
  refine ⟨?_, ?_, ?_, ?_, ?_, ?_, ?_, ?_, ?_, ?_, ?_, ?_, ?_, ?_, ?_, ?_⟩ <;> intros <;> rfl
theorem re : (∀ i σ H Q, tVar i σ H Q = ∃ v, σ[i]? = some (some v) ∧ Q v H) ∧ (∀ v σ H Q, tC v σ H Q = Q v H) ∧
    (∀ r ta tb σ H Q, tOp r ta tb σ H Q = ta σ H fun x H1 => tb σ H1 fun y H2 => r x y H2 Q) ∧ (∀ r ta σ H Q, tUn r ta σ H Q = ta σ H fun x H1 => r x H1 Q) ∧
    (∀ g x y H Q, rI0 g x y H Q = ∃ i j, x = .int i ∧ y = .int j ∧ Q (g i j) H) ∧ (∀ C g x y H Q, rI C g x y H Q = ∃ i j, x = .int i ∧ y = .int j ∧ C i j ∧ Q (g i j) H) ∧ (∀ g x H Q, rU g x H Q = ∃ i, x = .int i ∧ Q (g i) H) ∧
    (∀ x y H Q, L2.rEq x y H Q = (scal x y = true ∧ Q (.bl (decide (x = y))) H)) ∧ (∀ x y H Q, L2.rNe x y H Q = (scal x y = true ∧ Q (.bl (!decide (x = y))) H)) ∧
    (∀ t σ H Q, tTest t σ H Q = t σ H fun x H1 => ∃ k, x = .bl k ∧ Q k H1) ∧ (∀ t σ H Q, tB t σ H Q = t σ H fun x H1 => ∃ k, x = .bl k ∧ Q k H1) ∧
    (∀ t u σ H Q, tAnd t u σ H Q = t σ H fun c H1 => Be c (fun H2 => u σ H2 Q) (Q false) H1) ∧ (∀ t u σ H Q, tOr t u σ H Q = t σ H fun c H1 => Be c (Q true) (fun H2 => u σ H2 Q) H1) ∧ (∀ t σ H Q, tNot t σ H Q = t σ H fun c H1 => Q (!c) H1) ∧
    (∀ ta tb σ H Q, tAndV ta tb σ H Q = ta σ H fun x H1 => ∃ c, x = .bl c ∧ Be c (fun H2 => tb σ H2 Q) (Q (.bl false)) H1) ∧ (∀ ta tb σ H Q, tOrV ta tb σ H Q = ta σ H fun x H1 => ∃ c, x = .bl c ∧ Be c (Q (.bl true)) (fun H2 => tb σ H2 Q) H1) ∧
    (∀ ta σ H Q, tNotV ta σ H Q = ta σ H fun x H1 => ∃ c, x = .bl c ∧ Q (.bl (!c)) H1) ∧ (∀ t ta tb σ H Q, tIf t ta tb σ H Q = t σ H fun c H1 => Be c (fun H2 => ta σ H2 Q) (fun H2 => tb σ H2 Q) H1) ∧
    (∀ r r' ta tb tc σ H Q, tChain r r' ta tb tc σ H Q = ta σ H fun x H1 => tb σ H1 fun y H2 => r x y H2 fun z H3 => ∃ k, z = .bl k ∧ Be k (fun H4 => tc σ H4 fun w' H5 => r' y w' H5 Q) (Q (.bl false)) H3) := by
  refine ⟨?_, ?_, ?_, ?_, ?_, ?_, ?_, ?_, ?_, ?_, ?_, ?_, ?_, ?_, ?_, ?_, ?_, ?_, ?_⟩ <;> intros <;> rfl
theorem ra : (∀ σ H Q, tNil σ H Q = Q [] H) ∧ (∀ ta tr σ H Q, tCons ta tr σ H Q = ta σ H fun x H1 => tr σ H1 fun xs H2 => Q (x :: xs) H2) ∧ (∀ t σ H Q, tTup t σ H Q = t σ H fun xs H1 => xs.length ≤ sizeLine ∧ ∀ p, H1 p = none → Q (.ref p) (upd H1 p (.tup xs))) ∧
    (∀ t σ H Q, tLst t σ H Q = t σ H fun xs H1 => xs.length ≤ sizeLine ∧ ∀ p, H1 p = none → Q (.ref p) (upd H1 p (.lst xs))) ∧ (∀ sp dvs E t σ H Q, tCall sp dvs E t σ H Q = t σ H fun vs H1 => sp (vs ++ dvs) H1 Q E) ∧
    (∀ sp E t σ H Q, tCallS sp E t σ H Q = t σ H fun vs H1 => sp vs H1 Q (E σ)) ∧ (∀ r t σ H Q, tCB r t σ H Q = t σ H fun vs H1 => r vs H1 Q) ∧
    (∀ σ H Q, tNoPart σ H Q = Q none H) ∧ (∀ t σ H Q, tPart t σ H Q = t σ H fun x H1 => ∃ i, x = .int i ∧ Q (some i) H1) ∧ (∀ r te tl th σ H Q, tSl r te tl th σ H Q = te σ H fun x H1 => tl σ H1 fun l H2 => th σ H2 fun u H3 => r x l u H3 Q) ∧
    (∀ K T r to σ H Q, tBM0 K T r to σ H Q = to σ H fun x H1 => tyV K T x H1 ∧ r x [] H1 Q) ∧ (∀ K T r to t σ H Q, tBM K T r to t σ H Q = to σ H fun x H1 => tyV K T x H1 ∧ t σ H1 fun xs H2 => r x xs H2 Q) ∧
    (∀ K ta σ H Q, tVeI K ta σ H Q = ta σ H fun vs H1 => ∃ (a C : Addr) (ws : List V), vs = .ref a :: ws ∧ ws.length ≤ 1000 ∧ OexC K C ∧ H1 a = some (exo a C none) ∧ Q .non H1) := by
  refine ⟨?_, ?_, ?_, ?_, ?_, ?_, ?_, ?_, ?_, ?_, ?_, ?_, ?_⟩ <;> intros <;> rfl
/-! ### sequences by their place -/
def seqO : HO → Option (List V)
  | .lst xs => some xs
  | .tup xs => some xs
  | .frz _ (.lst xs) => some xs
  | .frz _ (.tup xs) => some xs
  | _ => none
theorem seqO_sq {K : Fg} {H : Hp} {p : Addr} {o : HO} {xs : List V} (h : H p = some o) (e : seqO o = some xs) : SqL K H p xs ∨ SqT K H p xs := by
  unfold seqO at e
  split at e <;> first
    | (cases e; exact .inl (.inl (.inl h)))
    | (cases e; exact .inr (.inl (.inl h)))
    | (cases e; exact .inl (.inl (.inr ⟨_, h⟩)))
    | (cases e; exact .inr (.inl (.inr ⟨_, h⟩)))
    | cases e
def rIxQ : R2 := fun x y H Q => ∃ p o xs i v, x = .ref p ∧ H p = some o ∧ seqO o = some xs ∧ y = .int i ∧ atI xs i = some v ∧ Q v H
theorem ix_q {X : Cx} : IxR X rIxQ := fun value slice pins s σ H x y v u Q I rx ry h hp => by
  obtain ⟨p, o, xs, i, z, rfl, ho, hs, rfl, ha, q⟩ := h
  rcases seqO_sq (K := X.K) ho hs with l | l
  · exact ix_list value slice pins s σ H _ _ v u Q I rx ry ⟨p, xs, i, z, rfl, rfl, l, ha, q⟩ hp
  · exact ix_tup value slice pins s σ H _ _ v u Q I rx ry ⟨p, xs, i, z, rfl, rfl, l, ha, q⟩ hp
def rLenQ : List V → Hp → VK → Prop := fun vs H Q => ∃ p o xs, vs = [.ref p] ∧ H p = some o ∧ seqO o = some xs ∧ Q (.int (xs.length : Nat)) H
theorem len_q {X : Cx} : CallR X (.builtin "len") rLenQ := fun pins s σ H xs us Q I r h => by
  obtain ⟨p, o, ys, rfl, ho, hs, q⟩ := h
  exact call_len_seq pins s σ H _ us Q I r ⟨p, ys, rfl, seqO_sq ho hs, q⟩
/-- list(t), a new list -/
def rLstQ : List V → Hp → VK → Prop := fun vs H Q => ∃ p o xs, vs = [.ref p] ∧ H p = some o ∧ seqO o = some xs ∧ ∀ l, H l = none → Q (.ref l) (upd H l (.lst xs))
theorem lst_q {X : Cx} : CallR X (.type "list") rLstQ := fun pins s σ H xs us Q I r h => by
  obtain ⟨p, o, ys, rfl, ho, hs, q⟩ := h
  exact call_list_of pins s σ H _ us Q I r ⟨p, ys, rfl, seqO_sq ho hs, q⟩
/-- tuple(l) of a list -/
def rTupQ : List V → Hp → VK → Prop := fun vs H Q => ∃ p xs, vs = [.ref p] ∧ H p = some (.lst xs) ∧ ∀ l, H l = none → Q (.ref l) (upd H l (.tup xs))
theorem tup_q {X : Cx} : CallR X (.type "tuple") rTupQ := fun pins s σ H xs us Q I r h => by
  obtain ⟨p, ys, rfl, ho, q⟩ := h
  exact call_tuple_of pins s σ H _ us Q I r ⟨p, ys, rfl, .inl ⟨SqL.of ho, q⟩⟩
/-! ### products -/
def MulOk (i j : Int) : Prop := CMul i j ∨ CMulW i j
theorem op_mulA {X : Cx} : OpR X (binaryOp .Mult) (rI MulOk fun i j => .int (i * j)) := fun pins s σ H x y v u Q I rx ry h => by
  obtain ⟨i, j, rfl, rfl, c, q⟩ := h
  rcases c with c | c
  · exact op_mul pins s σ H _ _ v u Q I rx ry ⟨i, j, rfl, rfl, c, q⟩
  · exact op_mulW pins s σ H _ _ v u Q I rx ry ⟨i, j, rfl, rfl, c, q⟩
theorem rq : (∀ x y H Q, rIxQ x y H Q = ∃ p o xs i v, x = .ref p ∧ H p = some o ∧ seqO o = some xs ∧ y = .int i ∧ atI xs i = some v ∧ Q v H) ∧ (∀ vs H Q, rLenQ vs H Q = ∃ p o xs, vs = [.ref p] ∧ H p = some o ∧ seqO o = some xs ∧ Q (.int (xs.length : Nat)) H) ∧
    (∀ vs H Q, rLstQ vs H Q = ∃ p o xs, vs = [.ref p] ∧ H p = some o ∧ seqO o = some xs ∧ ∀ l, H l = none → Q (.ref l) (upd H l (.lst xs))) ∧ (∀ vs H Q, rTupQ vs H Q = ∃ p xs, vs = [.ref p] ∧ H p = some (.lst xs) ∧ ∀ l, H l = none → Q (.ref l) (upd H l (.tup xs))) ∧
    (∀ xs, seqO (.lst xs) = some xs) ∧ (∀ xs, seqO (.tup xs) = some xs) ∧ (∀ o xs, seqO (.frz o (.lst xs)) = some xs) ∧ (∀ o i v H Q, rSetL o i v H Q = ∃ p xs k j, o = .ref p ∧ i = .int k ∧ H p = some (.lst xs) ∧ ixN xs.length k = some j ∧ Q (upd H p (.lst (xs.set j v)))) ∧
    (∀ x vs H Q, rAppend x vs H Q = ∃ l xs y, x = .ref l ∧ vs = [y] ∧ H l = some (.lst xs) ∧ xs.length < sizeLine ∧ Q .non (upd H l (.lst (xs ++ [y])))) ∧ (∀ x vs H Q, rClear x vs H Q = ∃ l xs, x = .ref l ∧ vs = [] ∧ H l = some (.lst xs) ∧ Q .non (upd H l (.lst []))) := by
  refine ⟨?_, ?_, ?_, ?_, ?_, ?_, ?_, ?_, ?_, ?_⟩ <;> intros <;> rfl
theorem at0 {a : V} {l : List V} : atI (a :: l) 0 = some a := by simp [atI, ixN]
theorem at1 {a b : V} {l : List V} : atI (a :: b :: l) 1 = some b := by
  have : (1 : Int) < (l.length : Int) + 1 + 1 := by omega
  simp [atI, ixN, this]
theorem at2 {a b c : V} {l : List V} : atI (a :: b :: c :: l) 2 = some c := by
  have : (2 : Int) < (l.length : Int) + 1 + 1 + 1 := by omega
  simp [atI, ixN, this]
theorem at3 {a b c d : V} {l : List V} : atI (a :: b :: c :: d :: l) 3 = some d := by
  have : (3 : Int) < (l.length : Int) + 1 + 1 + 1 + 1 := by omega
  simp [atI, ixN, this]
/-- what simp opens besides -/
theorem rx : (∀ (v : V) l, some v = some l ↔ v = l) ∧ (∀ (a b : Int), V.int a = V.int b ↔ a = b) ∧ (∀ (a b : Bool), V.bl a = V.bl b ↔ a = b) ∧ (∀ (a b : Addr), V.ref a = V.ref b ↔ a = b) ∧ (∀ (a b : Str), V.str a = V.str b ↔ a = b) := by
  refine ⟨?_, ?_, ?_, ?_, ?_⟩ <;> intros <;> simp
theorem rst : (∀ x N v vs, L2.start (x :: N) (v :: vs) = some v :: L2.start N vs) ∧ (∀ x N, L2.start (x :: N) [] = none :: L2.start N []) ∧ (L2.start [] [] = []) := by
  refine ⟨?_, ?_, ?_⟩ <;> intros <;> simp [L2.start, List.replicate_succ]
theorem rg : (∀ (a : V) (l : List V), ([] : List V) = a :: l ↔ False) ∧ (∀ (a : V) (l : List V), a :: l = ([] : List V) ↔ False) ∧ (∀ o u : HO, some o = some u ↔ o = u) := by
  refine ⟨?_, ?_, ?_⟩ <;> intros <;> simp
end Sw

/-! Errors of the program's own: a class over SeedError (over ValueError) whose __init__ says SeedError.__init__(self, text) and keeps one thing. -/
namespace PySem.W
open PySem.Calls PyProof.Rows
section
variable {prog : Program} {w : World} {A : Around} {E : Value → Shared → Prop} {s : Shared} {K : Frag} {x D : Addr} {ox : Obj} {od : Option Obj}
theorem sw_findData {C : Addr} {name : Str} {a g : Value} (hc : (clsIn K C).isSome = true) (ha : findIn K (.ref C) name = some (some a)) (hg : specialIn K a "__get__" = some (some g)) (ht : takesIn K a = some true) : findObj K C od name = some (.bind g a) := by
  obtain ⟨cd, q⟩ := Option.isSome_iff_exists.mp hc
  unfold findObj
  rw [q]
  simp [ha, hg, ht]
/-- the class of an exception that may have its own dict -/
theorem sw_classE {Q : Option Value → Shared → Prop} (hga : findIn K (.ref D) "__getattribute__" = some (some (.builtin "BaseException.__getattribute__"))) (hgt : findIn K (.ref D) "__getattr__" = some none) (hsub : subIn K (.ref D) (.type "BaseException") = some true)
    (hdct : hasDictIn K D = true) (ha : findIn K (.ref D) "__class__" = some (some (.builtin "object.__class__")))
    (hn : specialIn K (.builtin "object.__class__") "__get__" = some (some (.builtin "getset_descriptor.__get__"))) (htk : takesIn K (.builtin "object.__class__") = some true) (hm : mroIn K D (.type "object") = some true)
    (X : K.In s.heap) (I : InstAt s.heap x ox D od) (h : Q (some (.ref D)) { s with toks := s.toks + 1 }) : wpAny (model prog w) A (getAttr? (.ref x) "__class__") Q E s := by
  have hfo : findObj K D od "__class__" = some (.bind (.builtin "getset_descriptor.__get__") (.builtin "object.__class__")) := sw_findData (by obtain ⟨cd, hc, _⟩ := any_some hdct; rw [hc] <;> rfl) ha hn htk
  obtain ⟨hp, g, d, t, os⟩ := s
  have la := I.type (M := model prog w)
  have lb := looks_findIn (M := model prog w) X hga
  have lc := looks_findIn (M := model prog w) X hgt
  have ld := looks_find (M := model prog w) X I hfo
  have ls : Looks (model prog w) hp (isInstance (.ref x) (.type "BaseException")) true := la.andThen (looks_subIn X hsub)
  have k2 : (Value.builtin "BaseException.__getattribute__" == Value.builtin "object.__getattribute__") = false := by decide +kernel
  have k1 : (onTheHeap (Value.ref D) && Value.builtin "BaseException.__getattribute__" == Value.builtin "object.__getattribute__") = false := by rw [k2] <;> rfl
  unfold getAttr? getAttrBy? getAttrBy
  refine wpAny_bind (wpAny_mkText (wpAny_bind (wpAny_attempt (wpAny_holding (wpAny_bind (la.at (wpAny_bind (lb.at ?_))))))))
  show wpAny _ _ (if (onTheHeap (Value.ref D) && Value.builtin "BaseException.__getattribute__" == Value.builtin "object.__getattribute__") = true then _ else _) _ _ _
  rw [k1, if_neg (by decide)]
  unfold getAttrByItsOwn hookBefore
  refine wpAny_bind ?_
  rw [if_pos (by rfl : onTheHeap (Value.ref D) = true)]
  refine lc.at ?_
  refine wpAny_bind (wpAny_attempt (wpAny_holding ?_))
  unfold callGetattribute
  rw [show (false && onTheHeap (Value.builtin "BaseException.__getattribute__")) = false from rfl, if_neg (by decide)]
  unfold boundAndCalled
  rw [PySem.F.excAttr_ValueError.ga.bind (.ref x)]
  refine wpAny_bind (wpAny_pure ?_)
  show wpAny _ _ (call (.builtin "BaseException.__getattribute__") [.ref x, .str "__class__" t]) _ _ _
  refine wpAny_call (codeAny_call_builtin PySem.F.excAttr_ValueError.ga.plain PySem.F.entry_bexc_ga ?_)
  refine @check_slot (model prog w) _ _ ⟨hp, g, d, t + 1, os⟩ "BaseException.__getattribute__" "BaseException" "__getattribute__" (.ref x) [.str "__class__" t] [] _ (by decide +kernel) (by decide +kernel) ls (PySem.F.args_bexc_ga (.ref x) (.str "__class__" t)) ?_
  unfold Builtin.«object.__getattribute__»
  refine wpAny_bind (wpAny_of_eq (a := ((Value.ref x : Value), [Value.str "__class__" t])) (by first | rfl | (simp only [slotArgs] <;> rfl)) ?_)
  refine wpAny_bind (wpAny_pure (wpAny_bind (la.at (wpAny_bind (ld.at ?_)))))
  show wpAny _ _ (holding [Value.builtin "object.__class__"] (call (.builtin "getset_descriptor.__get__") [.builtin "object.__class__", .ref x, .ref D]) >>= ret) _ _ _
  refine wpAny_bind (wpAny_holding (wpAny_call (class_get (s := ⟨hp, g, d, t + 1, os⟩) (ox := ox) (od := od) X I hm ?_)))
  refine wpAny_pure ?_
  show wpAny _ _ (handedOut (.ref D)) _ _ _
  rw [handedOut_of (v := .ref D) rfl]
  first
    | exact wpAny_pure (wpAny_pure h)
    | exact wpAny_pure h
    | exact wpAny_pure (wpAny_bind (wpAny_pure (wpAny_pure h)))
theorem sw_kitE (hga : findIn K (.ref D) "__getattribute__" = some (some (.builtin "BaseException.__getattribute__"))) (hgt : findIn K (.ref D) "__getattr__" = some none) (hsub : subIn K (.ref D) (.type "BaseException") = some true)
    (hdct : hasDictIn K D = true) (ha : findIn K (.ref D) "__class__" = some (some (.builtin "object.__class__")))
    (hn : specialIn K (.builtin "object.__class__") "__get__" = some (some (.builtin "getset_descriptor.__get__"))) (htk : takesIn K (.builtin "object.__class__") = some true) (hm : mroIn K D (.type "object") = some true) :
    KitX K (.ref x) (.ref D) (fun h => InstAt h x ox D od) where
  ty := fun _ _ _ I => I.type
  it := fun _ _ X _ => by
    obtain ⟨cd, hc, _⟩ := any_some hdct
    unfold clsIn at hc
    split at hc
    · rename_i e1 e2 e3 e4 ho
      intro A' Q' E' s' k q
      unfold isType loadHead
      exact wpAny_bind (wpAny_loadPart (k _ _ (X _ _ ho)) (wpAny_pure q))
    · cases hc
  ne := fun h tp dd its n sl X htp => by
    obtain ⟨cd, hc, _⟩ := any_some hdct
    refine Bool.eq_false_iff.mpr fun q => ?_
    have e : D = tp := Value.ref.inj (beq_iff_eq.mp q)
    subst e
    unfold clsIn at hc
    split at hc
    · rename_i e1 e2 e3 e4 ho
      have z := (X _ _ ho).symm.trans htp
      cases z
    · cases hc
  ca := fun X I k => sw_classE hga hgt hsub hdct ha hn htk hm X I k
end
end PySem.W
namespace Sw
open PySem PySem.Spec PyProof.Rows L2
/-! ### what the head says of such a class, as one Bool -/
def excB (K : Fg) (C : Addr) : Bool := match K.lookup C with
  | some ⟨.type "type", _, .cls cd, sl⟩ => (match cd.mro, sl.toList with
    | .ref C' :: bm, [_, _, _, _, some (.builtin n), _] => decide (C' = C) && (decide (n = "ValueError.__new__") && (!cd.hasDel && (cd.hasDict && PySem.HandSPX.refsVE bm)))
    | _, _ => false)
  | _ => false
def exB (K : Fg) (C : Addr) : Bool := excB K C && (decide (PySem.W.findIn K (.ref C) "__setattr__" = some (some (.builtin "object.__setattr__"))) && (xfB K C && (decide (PySem.W.typeIn K (.ref C) = some (.type "type")) && (PySem.W.keepIn K (.ref C) &&
  (decide (PySem.W.findIn K (.ref C) "__class__" = some (some (.builtin "object.__class__"))) && (decide (PySem.W.mroIn K C (.type "object") = some true) &&
  (decide (PySem.W.specialIn K (.builtin "object.__class__") "__get__" = some (some (.builtin "getset_descriptor.__get__"))) && decide (PySem.W.takesIn K (.builtin "object.__class__") = some true))))))))
structure ExC (K : Fg) (C : Addr) : Prop where
  ox : OexC K C
  xf : XfC K C
  cc : PySem.W.findIn K (.ref C) "__class__" = some (some (.builtin "object.__class__"))
  mo : PySem.W.mroIn K C (.type "object") = some true
  gs : PySem.W.specialIn K (.builtin "object.__class__") "__get__" = some (some (.builtin "getset_descriptor.__get__"))
  tk : PySem.W.takesIn K (.builtin "object.__class__") = some true
theorem excB_ok {K : Fg} {C : Addr} (h : excB K C = true) : ∃ nm q N bs bm sn sub ab col dd k0 k1 k2 k3 k5, K.lookup C = some (excClassObj nm q C N bs bm true sn sub ab col dd k0 k1 k2 k3 k5 "ValueError.__new__") ∧ PySem.HandSPX.refsVE bm = true := by
  unfold excB at h
  split at h
  · rename_i dd cd sl ho
    split at h
    · rename_i C' bm k0 k1 k2 k3 n k5 hm hs
      simp only [Bool.and_eq_true, decide_eq_true_eq, Bool.not_eq_true'] at h
      obtain ⟨rfl, rfl, h3, h4, h5⟩ := h
      obtain ⟨nm, bs, mro, ns, qn, hd, sn, sub, ab, col, dl⟩ := cd
      dsimp only at hm h3 h4
      subst hm h3 h4
      obtain ⟨sl⟩ := sl
      dsimp only at hs
      subst hs
      exact ⟨nm, qn, ns, bs, bm, sn, sub, ab, col, dd, k0, k1, k2, k3, k5, ho, h5⟩
    · cases h
  · cases h
theorem exB_ok {K : Fg} {C : Addr} (h : exB K C = true) : ExC K C := by
  unfold exB at h
  simp only [Bool.and_eq_true, decide_eq_true_eq] at h
  obtain ⟨h1, h2, h3, h4, h5, h6, h7, h8, h9⟩ := h
  have xf := xfB_ok h3
  exact ⟨⟨excB_ok h1, h2, xf.exC, h4, h5⟩, xf, h6, h7, h8, h9⟩
/-- SeedError.__init__: the base's, read off the class at C -/
def iniB (K : Fg) (C : Addr) : Bool := decide (PySem.W.specialIn K (.ref C) "__getattribute__" = some (some (.builtin "type.__getattribute__"))) && (PySem.W.readsIn K C (.type "type") &&
  (match PySem.W.findCls K (.ref C) (.type "type") "__init__" with
  | some (.val (.builtin n)) => decide (n = "ValueError.__init__")
  | _ => false))
structure IniC (K : Fg) (C : Addr) : Prop where
  sp : PySem.W.specialIn K (.ref C) "__getattribute__" = some (some (.builtin "type.__getattribute__"))
  rd : PySem.W.readsIn K C (.type "type") = true
  fc : PySem.W.findCls K (.ref C) (.type "type") "__init__" = some (.val (.builtin "ValueError.__init__"))
theorem iniB_ok {K : Fg} {C : Addr} (h : iniB K C = true) : IniC K C := by
  unfold iniB at h
  simp only [Bool.and_eq_true, decide_eq_true_eq] at h
  obtain ⟨h1, h2, h3⟩ := h
  refine ⟨h1, h2, ?_⟩
  split at h3
  · rename_i n q
    have e : n = "ValueError.__init__" := of_decide_eq_true h3
    rw [q, e]
  · cases h3
section
variable {X : Cx} {o e : Expr} {es : List Expr} {ta : TA} {S : Str} {p1 p2 pos : Pos} {Cs : Addr}
/-- S.__init__(self, ..), S a class of the program whose __init__ is ValueError's -/
theorem pe_sinit (I0 : IniC X.K Cs) (hg : Gl X S) (hm : X.mg S = some (.ref Cs)) (ha : PA X (e :: es) ta) (hl : (p2.endLine == pos.line) = true := by rfl) (hf : methodCallForm ((e :: es).length + ([] : List Keyword).length) (backTo pos (starEach (e :: es) X.env)) (backToKw pos (keywordEach [] X.env)) = true := by rfl)
    (hdb : (S == ("__debug__" : Str)) = false := by decide)
    (he : starEach (e :: es) X.env = (false, eval e X.env) :: starEach es X.env := by rfl) (hpl : (backTo pos (starEach es X.env)).any (·.1) = false := by rfl) :
    PE X (.Call (.Attribute (.Name S p1) "__init__" p2) (e :: es) [] pos) (tVeI X.K ta) := by
  refine ⟨fun pins s σ H Q I h => ?_⟩
  have hc : eval (.Call (.Attribute (.Name S p1) "__init__" p2) (e :: es) [] pos) X.env = (do
      let ov ← eval (.Name S p1) X.env
      standAt p2.atName
      let (f, first) ← holding [ov] (getMethod ov "__init__" (plainOf (.Name S p1) X.env))
      callWith pos f first (backTo pos (starEach (e :: es) X.env)) (backToKw pos (keywordEach [] X.env))) := by
    show (do let ov ← eval (.Name S p1) X.env; standAt p2.atName; methodCall (.Name S p1) "__init__" p2 pos X.env ov _ _ _) = _
    simp only [mcall_line hf hl]
  refine PySem.W.methodCall_KW (ld_glob I hg hm ?_ hdb) hc
  refine PySem.W.method_cls I.kIn I0.sp (PySem.W.cls_value I.kIn I0.rd I0.fc (by decide +kernel) ?_)
  show wpAny _ _ (callWith pos (Value.builtin "ValueError.__init__") [] (backTo pos (starEach (e :: es) X.env)) []) _ _ _
  refine PyProof.Rows.callWith_method1 (thn (ha.run pos pins _ σ H _ (I.tok _) h) fun us s1 ⟨vs, H1, I1, r1, a, C, ws, ev, hl, T, ea, q⟩ => ?_) he hpl
  subst ev
  cases r1 with
  | @cons _ u0 _ ur ra rr =>
    obtain rfl : u0 = Value.ref a := ra
    have hlen : ur.length ≤ sizeLine := by
      rw [← Paired.length rr, sizeLine_eq]
      omega
    exact oinit_ok T I1 ea hlen fun s' J => ⟨.non, H1, J, rfl, q⟩
end
theorem ro : (∀ K f to te D σ H, tOst K f to te D σ H = te σ H fun y H1 => to σ H1 fun x H2 => ∃ a C : Addr, x = .ref a ∧ OexC K C ∧ PySem.W.findIn K (.ref C) f = some none ∧
      ((H2 a = some (exo a C none) ∧ ∀ dx, H2 dx = none → dx ≠ a → D.nx σ (upd (upd H2 dx (exd dx [(f, y)])) a (exo a C (some dx)))) ∨
        ∃ (dx : Addr) (fs : List (Str × V)), H2 a = some (exo a C (some dx)) ∧ H2 dx = some (exd dx fs) ∧ fs.length ≤ 900 ∧ D.nx σ (upd H2 dx (exd dx ((f, y) :: fs))))) ∧
    (∀ a cls d C f te σ H Q, tXf a cls d C f te σ H Q = te σ H fun x H1 => x = .ref a ∧ cls = .ref C ∧ ∃ (dd : Addr) (fs : List (Str × V)) (v : V), d = some dd ∧ H1 dd = some (.xd fs) ∧ fs.lookup f = some v ∧ Q v H1) := by
  refine ⟨?_, ?_⟩ <;> intros <;> rfl
/-! ### the __init__ of such a class with one field -/
def ini1 (m f : Str) (p1 p2 p3 p4 p5 p6 p7 p8 p9 p10 : Pos) (j : Nat) : List Stmt :=
  [.Expr (.Call (.Attribute (.Name "SeedError" p1) "__init__" p2) [.Name "self" p3, .Constant (.str m) j p4] [] p5) p6, .Assign [.Attribute (.Name "self" p7) f p8] (.Name f p9) p10]
def spIni1 (C : Addr) (f : Str) : Sp := fun vs H Q _ => ∃ (a : Addr) (v : V), vs = [.ref a, v] ∧ H a = some (exo a C none) ∧ ∀ d, H d = none → d ≠ a → Q .non (upd (upd H d (exd d [(f, v)])) a (exo a C (some d)))
theorem ok_ini1 {P : Program} {w : World} {K : Fg} {mg : Str → Option Value} {base : Heap} {C Cs fI : Addr} {f m qual : Str} {params : Arguments} {body : List Stmt} {scope : Scope} {fd : FuncData}
    {p1 p2 p3 p4 p5 p6 p7 p8 p9 p10 : Pos} {j : Nat} (F : FunD K "__init__" qual params body scope [] [] fI fd) (S : FnScope ["self", f] ["self", f] scope) (hb : body = ini1 m f p1 p2 p3 p4 p5 p6 p7 p8 p9 p10 j)
    (l1 : scope.names.lookup ("self" : Str) = some .local) (l2 : scope.names.lookup f = some .local) (l3 : scope.names.lookup ("SeedError" : Str) = some .globalImplicit) (hdb : (f == ("__debug__" : Str)) = false) (hcd : (f == ("__classdict__" : Str)) = false)
    (hl : (p2.endLine == p5.line) = true)
    (T : ExC K C) (I0 : IniC K Cs) (gS : mg "SeedError" = some (.ref Cs)) (hno : PySem.W.findIn K (.ref C) f = some none) : FnOk P w K mg base (L2.CX P w) 2 fI fd ["self", f] (spIni1 C f) := by
  subst hb
  refine F.ok S (fun vs H Q E h => ?_) (fun cdv A outer s H vs Q E hr h => ?_)
  · obtain ⟨a, v, rfl, _⟩ := h
    rfl
  · obtain ⟨a, v, rfl, ha, k⟩ := h
    refine ⟨_, pss_cons (ps_expr (pe_sinit I0 l3 gS (pa_cons (pv 0 (hv := .inl l1)) (pa_cons pe_str pa_nil)) (hl := hl))) (pss_one (ps_ost (pv 0 (hv := .inl l1)) (pv 1 (hv := .inl l2) (hd := hdb) (hcd := hcd)))), ?_⟩
    simp only [rst, rs, re, ra, ro, List.getElem?_cons_zero, List.getElem?_cons_succ, Option.some.injEq, exists_eq_left', exists_eq_left, exists_and_left, exists_eq, exists_eq', List.cons.injEq, V.ref.injEq]
    exact ⟨a, C, [.str m], ⟨rfl, rfl⟩, (by show 1 ≤ 1000; decide), T.ox, ha, C, T.ox, hno, .inl ⟨ha, k⟩⟩
/-- C(e): such an error is made; it is kept away but for its own dict -/
def tMk1 (C : Addr) (f : Str) (ta : TA) : L2.St → Hp → XK → Prop := fun σ H Q => ta σ H fun vs H1 => ∃ v, vs = [v] ∧ ∀ d, H1 d = none → Q (.ref C) (some d) (upd H1 d (.xd [(f, v)]))
/-- raise C(e) -/
def tRs1 (C : Addr) (f : Str) (W : WX) (ta : TA) : TS := fun _ σ H => tMk1 C f ta σ H fun cls d H' => W cls d σ H'
/-- the class x: where it stands, its __init__ -/
structure Exn (P : Program) (w : World) (K : Fg) (mg : Str → Option Value) (base : Heap) (x f : Str) : Prop where
  at_ : mg x = some (.ref (He.ga K x))
  c : ExC K (He.ga K x)
  no : PySem.W.findIn K (.ref (He.ga K x)) f = some none
  ini : ∃ (fI : Addr) (fd : FuncData), PySem.W.findIn K (.ref (He.ga K x)) "__init__" = some (some (.ref fI)) ∧ PySem.W.typeIn K (.ref fI) = some (.type "function") ∧ FnOk P w K mg base (L2.CX P w) 2 fI fd ["self", f] (spIni1 (He.ga K x) f) ∧ Binds K fd ["self", f] []
section
variable {X : Cx} {k : Nat} {x f : Str} {e : Expr} {es : List Expr} {ta : TA} {p pos : Pos} {W : WX}
theorem pa_mono {t : TA} {es : List Expr} (h : PA X es t) : PA X es (fun σ H Q => ∃ R : List V → Hp → Prop, t σ H R ∧ ∀ vs H1, R vs H1 → Q vs H1) := ⟨fun pos pins s σ H Q I ⟨R, h1, h2⟩ =>
  thn (h.run pos pins s σ H R I h1) fun us s1 ⟨vs, H1, I1, r, q⟩ => ⟨vs, H1, I1, r, h2 _ _ q⟩⟩
theorem pmk_1 (T : Exn X.prog X.w X.K X.mg X.base x f) (hr : Room k X.A) (hk : 3 ≤ k) (hg : Gl X x) (ha : PA X (e :: es) ta)
    (hdb : (x == ("__debug__" : Str)) = false := by decide) (he : starEach (e :: es) X.env = (false, eval e X.env) :: starEach es X.env := by rfl) (hpl : (backTo pos (starEach es X.env)).any (·.1) = false := by rfl) :
    PMk X (.Call (.Name x p) (e :: es) [] pos) (tMk1 (He.ga X.K x) f ta) := by
  obtain ⟨fI, fd, iC, tI, F, b⟩ := T.ini
  intro pins s σ H Q I h
  refine pmk_oex (CX := L2.CX X.prog X.w) (k := 2) (ds := []) (dvs := []) T.c.ox iC tI F (hr.mono hk) b .nil passL hg T.at_ (pa_mono ha) hdb he hpl pins s σ H Q I ⟨_, h, fun vs H1 q => ?_⟩
  obtain ⟨v, rfl, q⟩ := q
  refine ⟨by show 1 ≤ 1000; decide, fun a na => ⟨a, v, rfl, upd_same, fun d nd ne => ?_⟩⟩
  rw [upd_ne ne] at nd
  refine ⟨rfl, d, [(f, v)], upd_same, by rw [upd_ne ne, upd_same], nd, ?_⟩
  have e : upd (del (upd (upd (upd H1 a (exo a (He.ga X.K x) none)) d (exd d [(f, v)])) a (exo a (He.ga X.K x) (some d))) a) d (.xd [(f, v)]) = upd H1 d (.xd [(f, v)]) := by
    funext b
    by_cases hd : b = d
    · rw [hd, upd_same, upd_same]
    · rw [upd_ne hd, upd_ne hd]
      by_cases hb : b = a
      · rw [hb, del_same, na]
      · rw [del_ne hb, upd_ne hb, upd_ne hd, upd_ne hb]
  rw [e]
  exact q d nd
/-- raise x(e) -/
theorem ps_rs1 {pos' : Pos} (T : Exn X.prog X.w X.K X.mg X.base x f) (hc : X.calm = true) (tk : Takes X W) (hr : Room k X.A) (hk : 3 ≤ k) (hg : Gl X x) (ha : PA X (e :: es) ta)
    (hdb : (x == ("__debug__" : Str)) = false := by decide) (he : starEach (e :: es) X.env = (false, eval e X.env) :: starEach es X.env := by rfl) (hpl : (backTo pos (starEach es X.env)).any (·.1) = false := by rfl) :
    PS X (.Raise (some (.Call (.Name x p) (e :: es) [] pos)) none pos') (tRs1 (He.ga X.K x) f W ta) := ps_raise hc tk (pmk_1 T hr hk hg ha hdb he hpl)
/-! ### in an except suite -/
/-- e.f -/
theorem pe_exf {a : Addr} {oe : Obj} {cls : Value} {d : Option Addr} {pn : List (Addr × Obj)} {e : Expr} {te : TE} {C : Addr} (T : ExC X.K C) (hno : PySem.W.findIn X.K (.ref C) f = some none) (hz : Zc cls d oe) (hf : ∃ vs, oe.data = .fields vs) (he : PE (X.suite a ((a, oe) :: pn)) e te)
    (hb : attributeBase e f X.env (eval e X.env) = eval e X.env := by rfl) : PE (X.suite a ((a, oe) :: pn)) (.Attribute e f pos) (tXf a cls d C f te) := pe_xf T.xf hno hz hf he hb
/-- isinstance(e, c), e the error in the suite, with a dict of its own -/
def rIsD (K : Fg) (D a : Addr) (cls : Value) (d : Option Addr) : List V → Hp → VK → Prop := fun xs H Q => ∃ (c : V) (cv : Value) (dd : Addr) (fs : List (Str × V)) (b : Bool), xs = [.ref a, c] ∧ ClsV c cv ∧ cls = .ref D ∧ d = some dd ∧ H dd = some (.xd fs) ∧ PySem.W.kitOne K (.ref D) cv = some b ∧ Q (.bl b) H
theorem call_isD {a D : Addr} {cls : Value} {d : Option Addr} {oe : Obj} {pn : List (Addr × Obj)} (C : ExC X.K D) (hz : Zc cls d oe) (hf : ∃ vs, oe.data = .fields vs) : CallR (X.suite a ((a, oe) :: pn)) (.builtin "isinstance") (rIsD X.K D a cls d) := by
  intro pins s σ H xs us Q I r h
  obtain ⟨c, cv, dd, fs, b, rfl, hcv, rfl, rfl, hd, e, q⟩ := h
  cases r with
  | cons r1 r2 =>
    cases r2 with
    | cons r3 r4 =>
      cases r4
      cases r1
      have ec := hcv.eq r3
      subst ec
      obtain ⟨hget, _⟩ := I.pin (a, oe) (List.mem_append.mpr (.inl List.mem_cons_self))
      obtain ⟨vs, hv⟩ := hf
      obtain ⟨mA, hns, _⟩ := (show ObjOk X.prog X.w H s.heap dd (.xd fs) from I.hok dd _ hd)
      obtain ⟨od, ho, _⟩ := lookIn_ns hns
      have J : PySem.W.InstAt s.heap a oe D (some od) := ⟨hget, hz.1, by unfold PySem.W.notCls; rw [hv] <;> rfl, by rw [hz.2]; exact ho⟩
      exact PySem.W.kia_one (PySem.W.sw_kitE C.xf.ga C.xf.gg C.xf.exC C.xf.hdC C.cc C.gs C.tk C.mo) I.kIn J e (fun z => nomatch z) fun tk => ⟨.bl b, H, I.kept (t' := tk) fun _ _ z => z, rfl, q⟩
end
end Sw

/-! Loops and comprehensions, over a list or a tuple alike; unpacking; isinstance by kinds. -/
namespace Sw
open PySem PySem.Spec PyProof.Rows L2
/-- what a for still asks behind its iterator -/
def FI (J : It) (g : TG) (tb : TS) (D : Ends) (σ : L2.St) (H1 : Hp) : Prop := ∃ W : Nat → Nat → L2.St → Hp → Prop, (∃ m, W 0 m σ H1) ∧ ∀ i m σ H, W i m σ H →
  (J.stop i H ∧ D.nx σ H) ∨ (J.go i H ∧ ∃ N : L2.St → Hp → Prop, (∀ σ' H', N σ' H' → ∃ m', m' < m ∧ W (i + 1) m' σ' H') ∧ ∀ x H', J.yld i H x H' → g x σ H' fun σ2 H2 => tb { D with nx := N, ct := N, bk := D.nx } σ2 H2)
/-- .. a comprehension -/
def LC (J : It) (g : TG) (tt : TT) (te : TE) (vs : List Nat) (σ : L2.St) (Q : VK) (H1 : Hp) : Prop := ∀ D, H1 D = none → ∃ W : Nat → Nat → Hp → Prop, (∃ m, W 0 m (upd H1 D (.lst []))) ∧ ∀ i m H, W i m H →
  (J.stop i H ∧ Q (.ref D) H) ∨ (J.go i H ∧ ∃ Nx : Hp → Prop, (∀ H', Nx H' → ∃ m', m' < m ∧ W (i + 1) m' H') ∧ ∀ x H', J.yld i H x H' → g x (wipe σ vs) H' fun σ2 H2 => wipe σ2 vs = wipe σ vs ∧ tt σ2 H2 fun b H3 =>
    if b = true then te σ2 H3 fun y H4 => ∃ acc, H4 D = some (.lst acc) ∧ acc.length < sizeLine ∧ Nx (upd H4 D (.lst (acc ++ [y]))) else Nx H3)
def isT : HO → Bool
  | .tup _ => true
  | .frz _ (.tup _) => true
  | _ => false
theorem seqO_L {K : Fg} {H : Hp} {p : Addr} {o : HO} {xs : List V} (h : H p = some o) (e : seqO o = some xs) (t : isT o = false) : SqL K H p xs := by
  unfold seqO at e
  split at e <;> first
    | exact Bool.noConfusion (show _ = _ from t)
    | (cases e; exact .inl (.inl h))
    | (cases e; exact .inl (.inr ⟨_, h⟩))
    | cases e
theorem seqO_T {K : Fg} {H : Hp} {p : Addr} {o : HO} {xs : List V} (h : H p = some o) (e : seqO o = some xs) (t : isT o = true) : SqT K H p xs := by
  unfold seqO at e
  split at e <;> first
    | exact Bool.noConfusion (show _ = _ from t)
    | (cases e; exact .inl (.inl h))
    | (cases e; exact .inl (.inr ⟨_, h⟩))
    | cases e
/-! ### for x in s -/
def ItQ (K : Fg) (a : Addr) (o : HO) : It := if isT o = true then Itt K a else Itl K a
def iSeq (K : Fg) (tl : TE) : TI := fun σ H R => tl σ H fun x H1 => ∃ a o xs, x = .ref a ∧ H1 a = some o ∧ seqO o = some xs ∧ R (ItQ K a o) H1
theorem pi_q {X : Cx} {tg e : Expr} {tl : TE} (he : PE X e tl) : PI X tg e (iSeq X.K tl) := by
  refine ⟨fun pins s σ H R I h => ?_⟩
  refine thn (he.run pins s σ H _ I h) fun u s1 ⟨v, H1, I1, r1, a, o, xs, ev, ho, hs, q⟩ => ?_
  subst ev
  cases r1
  unfold ItQ at q
  have new : ∀ b ∈ [s1.heap.objs.size], FpOk X pins H1 b := fun b hb => by
    rw [List.mem_singleton.mp hb]
    exact I1.fpOk (Nat.le_refl _) (I1.hok.fresh (Nat.le_refl _))
  cases t : isT o with
  | true =>
    rw [t, if_pos rfl] at q
    obtain ⟨its, rv, p, hz⟩ := I1.tuple (seqO_T (K := X.K) ho hs t)
    exact wpAny_pyIter_tuple (show s1.heap.IsTuple a its.toArray from p) ⟨_, [s1.heap.objs.size], _, _, H1, rfl, I1.kept (t' := s1.toks) fun b o e => Heap.get?_push_of_some _ e, turn_tuple a _, ⟨_, Heap.get?_push_size _ rfl, rfl, rfl⟩, new, q⟩
  | false =>
    rw [t, if_neg (by decide)] at q
    obtain ⟨its, rv, p, hz⟩ := I1.list (seqO_L (K := X.K) ho hs t)
    exact wpAny_pyIter_list p.isList ⟨_, [s1.heap.objs.size], _, _, H1, rfl, I1.kept (t' := s1.toks) fun b o e => Heap.get?_push_of_some _ e, turn_list a _, ⟨_, Heap.get?_push_size _ rfl, rfl, rfl⟩, new, q⟩
theorem FI.seq {K : Fg} {a : Addr} {o : HO} {xs : List V} {g : TG} {tb : TS} {D : Ends} {σ : L2.St} {H : Hp} (hs : seqO o = some xs) (Pv : Nat → L2.St → Hp → Prop) (h0 : Pv 0 σ H) (hl : ∀ i σ H, i ≤ xs.length → Pv i σ H → H a = some o)
    (ht : ∀ i x σ H, xs[i]? = some x → Pv i σ H → g x σ H fun σ2 H2 => tb ⟨Pv (i + 1), D.rt, D.nx, Pv (i + 1)⟩ σ2 H2) (hd : ∀ σ H, Pv xs.length σ H → D.nx σ H) : FI (ItQ K a o) g tb D σ H := by
  unfold ItQ
  cases t : isT o with
  | true =>
    rw [if_pos rfl]
    exact for_tup (K := K) Pv h0 (fun i σ H hi p => seqO_T (hl i σ H hi p) hs t) ht hd
  | false =>
    rw [if_neg (by decide)]
    exact for_list (K := K) Pv h0 (fun i σ H hi p => seqO_L (hl i σ H hi p) hs t) ht hd
/-- the script's own list: it may stand in the written part -/
theorem FI.lst {K : Fg} {a : Addr} {xs : List V} {g : TG} {tb : TS} {D : Ends} {σ : L2.St} {H : Hp} (Pv : Nat → L2.St → Hp → Prop) (h0 : Pv 0 σ H) (hl : ∀ i σ H, i ≤ xs.length → Pv i σ H → SqL K H a xs)
    (ht : ∀ i x σ H, xs[i]? = some x → Pv i σ H → g x σ H fun σ2 H2 => tb ⟨Pv (i + 1), D.rt, D.nx, Pv (i + 1)⟩ σ2 H2) (hd : ∀ σ H, Pv xs.length σ H → D.nx σ H) : FI (Itl K a) g tb D σ H := for_list (K := K) Pv h0 hl ht hd
theorem FI.rng {lo : Int} {n : Nat} {g : TG} {tb : TS} {D : Ends} {σ : L2.St} {H : Hp} (Pv : Nat → L2.St → Hp → Prop) (h0 : Pv 0 σ H)
    (ht : ∀ i σ H, i < n → Pv i σ H → g (.int (lo + (i : Nat))) σ H fun σ2 H2 => tb ⟨Pv (i + 1), D.rt, D.nx, Pv (i + 1)⟩ σ2 H2) (hd : ∀ σ H, Pv n σ H → D.nx σ H) : FI (Itr lo n) g tb D σ H := for_range Pv h0 ht hd
theorem FI.rngC {lo c : Int} {n : Nat} {g : TG} {tb : TS} {D : Ends} {σ : L2.St} {H : Hp} (Pv : Nat → L2.St → Hp → Prop) (h0 : Pv 0 σ H)
    (ht : ∀ i σ H, i < n → Pv i σ H → g (.int (lo + (i : Nat) * c)) σ H fun σ2 H2 => tb ⟨Pv (i + 1), D.rt, D.nx, Pv (i + 1)⟩ σ2 H2) (hd : ∀ σ H, Pv n σ H → D.nx σ H) : FI (Itc lo c n) g tb D σ H := for_rangeC Pv h0 ht hd
/-! ### zip of two of one kind -/
def ItZ (K : Fg) (a b : Addr) (o : HO) : It := if isT o = true then RZ.ItzT K a b else Itz K a b
def iZipQ (K : Fg) (ta : TA) : TI := fun σ H R => ta σ H fun vs H1 => ∃ a b oa ob xs ys, vs = [.ref a, .ref b] ∧ H1 a = some oa ∧ seqO oa = some xs ∧ H1 b = some ob ∧ seqO ob = some ys ∧ isT ob = isT oa ∧ R (ItZ K a b oa) H1
theorem pi_zipQ {X : Cx} {e e2 : Expr} {ta : TA} {p pos tpos : Pos} {elts : List Expr} {kk : Nat} (hg : Gl X "zip") (hm : X.mg "zip" = none) (ha : PA X [e, e2] ta)
    (hs : starEach [e, e2] X.env = (false, eval e X.env) :: starEach [e2] X.env := by rfl) (hpl : (backTo pos (starEach [e2] X.env)).any (·.1) = false := by rfl) :
    PI X (.Tuple elts kk tpos) (.Call (.Name "zip" p) [e, e2] [] pos) (iZipQ X.K ta) := by
  refine ⟨fun pins s σ H R I h => (RZ.pi_zipA hg hm (pa_mono ha) hs hpl).run pins s σ H R I ⟨_, h, fun vs H1 q => ?_⟩⟩
  obtain ⟨a, b, oa, ob, xs, ys, ev, h1, h2, h3, h4, h5, q⟩ := q
  refine ⟨a, b, xs, ys, ev, ?_⟩
  unfold ItZ at q
  cases t : isT oa with
  | true =>
    rw [t, if_pos rfl] at q
    exact .inr ⟨seqO_T h1 h2 t, seqO_T h3 h4 (h5.trans t), q⟩
  | false =>
    rw [t, if_neg (by decide)] at q
    exact .inl ⟨seqO_L h1 h2 t, seqO_L h3 h4 (h5.trans t), q⟩
/-- for x, y in zip(..), x in slot i, y in slot j -/
theorem FI.zip {K : Fg} {a b : Addr} {oa ob : HO} {xs ys : List V} {i j : Nat} {tb : TS} {D : Ends} {σ : L2.St} {H : Hp} (hx : seqO oa = some xs) (hy : seqO ob = some ys) (ht : isT ob = isT oa) (hl : xs.length = ys.length) (Pv : Nat → L2.St → Hp → Prop) (h0 : Pv 0 σ H)
    (hq : ∀ i σ H, Pv i σ H → H a = some oa ∧ H b = some ob)
    (hs : ∀ (n : Nat) (x y : V) (T : Addr) (σ : L2.St) (H : Hp), xs[n]? = some x → ys[n]? = some y → Pv n σ H → H T = none → tb ⟨Pv (n + 1), D.rt, D.nx, Pv (n + 1)⟩ ((σ.set i (some x)).set j (some y)) (upd H T (.tup [x, y]))) (hd : ∀ σ H, Pv xs.length σ H → D.nx σ H) :
    FI (ItZ K a b oa) (gTup K 2 (gCons (gName i) (gCons (gName j) gNil))) tb D σ H := by
  have turn : ∀ (n : Nat) (x y : V) (T : Addr) (σ : L2.St) (H : Hp), xs[n]? = some x → ys[n]? = some y → Pv n σ H → H T = none →
      gTup K 2 (gCons (gName i) (gCons (gName j) gNil)) (.ref T) σ (upd H T (.tup [x, y])) fun σ2 H2 => tb ⟨Pv (n + 1), D.rt, D.nx, Pv (n + 1)⟩ σ2 H2 := fun n x y T σ H h1 h2 p hT =>
    ⟨T, [x, y], rfl, SqT.of upd_same, rfl, x, [y], rfl, y, [], rfl, rfl, hs n x y T σ H h1 h2 p hT⟩
  unfold ItZ
  cases t : isT oa with
  | true =>
    rw [if_pos rfl]
    exact RZ.for_zipT (K := K) hl Pv h0 (fun i σ H p => ⟨seqO_T (hq i σ H p).1 hx t, seqO_T (hq i σ H p).2 hy (ht.trans t)⟩) turn hd
  | false =>
    rw [if_neg (by decide)]
    exact RZ.for_zipL (K := K) hl Pv h0 (fun i σ H p => ⟨seqO_L (hq i σ H p).1 hx t, seqO_L (hq i σ H p).2 hy (ht.trans t)⟩) turn hd
/-! ### reversed of a list or a tuple -/
def ItR (K : Fg) (a : Addr) (o : HO) (n : Nat) : It := if isT o = true then RT.ItvT K a n else Itv K a n
def iRevQ (K : Fg) (te : TE) : TI := fun σ H R => te σ H fun v H1 => ∃ a o xs, v = .ref a ∧ H1 a = some o ∧ seqO o = some xs ∧ R (ItR K a o xs.length) H1
theorem pe_mono {X : Cx} {e : Expr} {te : TE} (h : PE X e te) : PE X e (fun σ H Q => ∃ R : VK, te σ H R ∧ ∀ v H1, R v H1 → Q v H1) := ⟨fun pins s σ H Q I ⟨R, h1, h2⟩ => thn (h.run pins s σ H R I h1) fun u s1 ⟨v, H1, I1, r, q⟩ => ⟨v, H1, I1, r, h2 _ _ q⟩⟩
theorem pi_revQ {X : Cx} {tg e : Expr} {te : TE} {p pos : Pos} (hg : Gl X "reversed") (hm : X.mg "reversed" = none) (he : PE X e te) (hs : starEach [e] X.env = (false, eval e X.env) :: starEach [] X.env := by rfl) :
    PI X tg (.Call (.Name "reversed" p) [e] [] pos) (iRevQ X.K te) := by
  refine ⟨fun pins s σ H R I h => (RT.pi_revA hg hm (pe_mono he) hs).run pins s σ H R I ⟨_, h, fun v H1 q => ?_⟩⟩
  obtain ⟨a, o, xs, ev, h1, h2, q⟩ := q
  refine ⟨a, xs, ev, ?_⟩
  unfold ItR at q
  cases t : isT o with
  | true =>
    rw [t, if_pos rfl] at q
    exact .inr ⟨seqO_T h1 h2 t, q⟩
  | false =>
    rw [t, if_neg (by decide)] at q
    exact .inl ⟨seqO_L h1 h2 t, q⟩
theorem FI.rev {K : Fg} {a : Addr} {o : HO} {xs : List V} {g : TG} {tb : TS} {D : Ends} {σ : L2.St} {H : Hp} (hs : seqO o = some xs) (Pv : Nat → L2.St → Hp → Prop) (h0 : Pv 0 σ H) (hl : ∀ i σ H, Pv i σ H → H a = some o)
    (ht : ∀ (i : Nat) (x : V) (σ : L2.St) (H : Hp), i < xs.length → xs[xs.length - 1 - i]? = some x → Pv i σ H → g x σ H fun σ2 H2 => tb ⟨Pv (i + 1), D.rt, D.nx, Pv (i + 1)⟩ σ2 H2) (hd : ∀ σ H, Pv xs.length σ H → D.nx σ H) : FI (ItR K a o xs.length) g tb D σ H := by
  unfold ItR
  cases t : isT o with
  | true =>
    rw [if_pos rfl]
    exact RT.for_ItvT (K := K) Pv h0 (fun i σ H p => seqO_T (hl i σ H p) hs t) ht hd
  | false =>
    rw [if_neg (by decide)]
    exact RT.for_Itv (K := K) Pv h0 (fun i σ H p => seqO_L (hl i σ H p) hs t) ht hd
/-! ### comprehensions -/
theorem LC.rng {lo : Int} {n : Nat} {g : TG} {tt : TT} {te : TE} {vs : List Nat} {σ : L2.St} {H1 : Hp} {Q : VK} (Pv : Addr → Nat → Hp → Prop) (h0 : ∀ D, H1 D = none → Pv D 0 (upd H1 D (.lst [])))
    (hs : ∀ D i H, H1 D = none → i < n → Pv D i H → g (.int (lo + (i : Nat))) (wipe σ vs) H fun σ2 H2 => wipe σ2 vs = wipe σ vs ∧ tt σ2 H2 fun b H3 => Be b (fun H3 => te σ2 H3 fun y H4 => ∃ acc, H4 D = some (.lst acc) ∧ acc.length < sizeLine ∧ Pv D (i + 1) (upd H4 D (.lst (acc ++ [y])))) (Pv D (i + 1)) H3)
    (hd : ∀ D H, H1 D = none → Pv D n H → Q (.ref D) H) : LC (Itr lo n) g tt te vs σ Q H1 := fun D nD => lc_range (Pv D) (h0 D nD) (fun i H hi p => hs D i H nD hi p) fun H p => hd D H nD p
theorem LC.seq {K : Fg} {a : Addr} {o : HO} {xs : List V} {g : TG} {tt : TT} {te : TE} {vs : List Nat} {σ : L2.St} {H1 : Hp} {Q : VK} (hx : seqO o = some xs) (Pv : Addr → Nat → Hp → Prop) (h0 : ∀ D, H1 D = none → Pv D 0 (upd H1 D (.lst [])))
    (hl : ∀ D i H, H1 D = none → i ≤ xs.length → Pv D i H → H a = some o)
    (hs : ∀ D i x H, H1 D = none → xs[i]? = some x → Pv D i H → g x (wipe σ vs) H fun σ2 H2 => wipe σ2 vs = wipe σ vs ∧ tt σ2 H2 fun b H3 => Be b (fun H3 => te σ2 H3 fun y H4 => ∃ acc, H4 D = some (.lst acc) ∧ acc.length < sizeLine ∧ Pv D (i + 1) (upd H4 D (.lst (acc ++ [y])))) (Pv D (i + 1)) H3)
    (hd : ∀ D H, H1 D = none → Pv D xs.length H → Q (.ref D) H) : LC (ItQ K a o) g tt te vs σ Q H1 := fun D nD => by
  unfold ItQ
  cases t : isT o with
  | true =>
    rw [if_pos rfl]
    exact lc_tup (K := K) (Pv D) (h0 D nD) (fun i H hi p => seqO_T (hl D i H nD hi p) hx t) (fun i x H hi p => hs D i x H nD hi p) fun H p => hd D H nD p
  | false =>
    rw [if_neg (by decide)]
    exact lc_list (K := K) (Pv D) (h0 D nD) (fun i H hi p => seqO_L (hl D i H nD hi p) hx t) (fun i x H hi p => hs D i x H nD hi p) fun H p => hd D H nD p
theorem rl : (∀ wi g tb D σ H, tFor wi g tb D σ H = wi σ H fun J H1 => FI J g tb D σ H1) ∧ (∀ wi g tt te vs σ H Q, tLc wi g tt te vs σ H Q = wi σ H fun J H1 => LC J g tt te vs σ Q H1) ∧
    (∀ K tl σ H R, iSeq K tl σ H R = tl σ H fun x H1 => ∃ a o xs, x = .ref a ∧ H1 a = some o ∧ seqO o = some xs ∧ R (ItQ K a o) H1) ∧
    (∀ K ta σ H R, iZipQ K ta σ H R = ta σ H fun vs H1 => ∃ a b oa ob xs ys, vs = [.ref a, .ref b] ∧ H1 a = some oa ∧ seqO oa = some xs ∧ H1 b = some ob ∧ seqO ob = some ys ∧ isT ob = isT oa ∧ R (ItZ K a b oa) H1) ∧
    (∀ K te σ H R, iRevQ K te σ H R = te σ H fun v H1 => ∃ a o xs, v = .ref a ∧ H1 a = some o ∧ seqO o = some xs ∧ R (ItR K a o xs.length) H1) ∧
    (∀ ta σ H R, iRng1 ta σ H R = ta σ H fun vs H1 => ∃ j : Int, vs = [.int j] ∧ -(2 ^ 62) ≤ j ∧ j < 2 ^ 62 ∧ R (Itr 0 j.toNat) H1) ∧
    (∀ ta σ H R, iRng2 ta σ H R = ta σ H fun vs H1 => ∃ i j : Int, vs = [.int i, .int j] ∧ (-(2 ^ 62) ≤ i ∧ i < 2 ^ 62 ∧ -(2 ^ 62) ≤ j ∧ j < 2 ^ 62) ∧ R (Itr i (j - i).toNat) H1) ∧
    (∀ tr σ H R, iRevR tr σ H R = tr σ H fun a b H1 => -(2 ^ 62) ≤ a ∧ a < 2 ^ 62 ∧ -(2 ^ 62) ≤ b ∧ b < 2 ^ 62 ∧ R (Itc (a + (((b - a).toNat : Nat) : Int) - 1) (-1) (b - a).toNat) H1) ∧
    (∀ ta σ H Q, tRg1 ta σ H Q = ta σ H fun x H1 => ∃ n, x = .int n ∧ Q 0 n H1) ∧ (∀ σ H Q, tYes σ H Q = Q true H) ∧ (∀ xs, isT (.lst xs) = false) ∧ (∀ xs, isT (.tup xs) = true) := by
  refine ⟨?_, ?_, ?_, ?_, ?_, ?_, ?_, ?_, ?_, ?_, ?_, ?_⟩ <;> intros <;> rfl
/-! ### unpacking -/
def gTupQ (t : TGs) : TG := fun v σ H Q => ∃ a o xs, v = .ref a ∧ H a = some o ∧ isT o = true ∧ seqO o = some xs ∧ t xs σ H Q
theorem pg_tupQ {X : Cx} {es : List Expr} {k : Nat} {t : TGs} {n : Nat} {pos : Pos} (hc : X.calm = true) (h : PGs X es t) (hlen : ∀ xs σ H Q, t xs σ H Q → xs.length = n)
    (hn : (assignEach es X.env).length = n := by rfl) (hst : (assignEach es X.env).findIdx? (·.1) = none := by rfl) : PG X (.Tuple es k pos) (gTupQ t) :=
  ⟨fun pins s σ H v u Q I r ⟨a, o, xs, ev, ho, ht, hs, q⟩ => (pg_tup hc h hn hst).run pins s σ H v u Q I r ⟨a, xs, ev, seqO_T ho hs ht, hlen _ _ _ _ q, q⟩⟩
theorem gnil_len {xs : List V} {σ : L2.St} {H : Hp} {Q : L2.St → Hp → Prop} (h : gNil xs σ H Q) : xs.length = 0 := by rw [h.1] <;> rfl
theorem gname_len {n i : Nat} {t : TGs} (ht : ∀ xs σ H Q, t xs σ H Q → xs.length = n) (xs : List V) (σ : L2.St) (H : Hp) (Q : L2.St → Hp → Prop) (h : gCons (gName i) t xs σ H Q) : xs.length = n + 1 := by
  obtain ⟨v, r, rfl, h⟩ := h
  rw [List.length_cons, ht r _ _ _ h]
theorem rl2 : (∀ t v σ H Q, gTupQ t v σ H Q = ∃ a o xs, v = .ref a ∧ H a = some o ∧ isT o = true ∧ seqO o = some xs ∧ t xs σ H Q) ∧ (∀ K te σ H Q, tRevL K te σ H Q = te σ H fun x H1 => ∃ a xs, x = .ref a ∧ SqL K H1 a xs ∧ ∀ p, H1 p = none → Q (.ref p) (upd H1 p (.lst xs.reverse))) ∧
    (∀ C f ta D W σ H, tRs1 C f W ta D σ H = ta σ H fun vs H1 => ∃ v, vs = [v] ∧ ∀ d, H1 d = none → W (.ref C) (some d) σ (upd H1 d (.xd [(f, v)]))) := by
  refine ⟨?_, ?_, ?_⟩ <;> intros <;> rfl
end Sw

/-! Promises by arity, facts by Bools, kinds of things, things that equal themselves, methods of lists. -/
namespace Sw
open PySem PySem.Spec PyProof.Rows L2
/-! ### promises -/
def sp1 (f : V → Hp → VK → XK → Prop) : Sp := fun vs H Q E => ∃ a, vs = [a] ∧ f a H Q E
def sp2 (f : V → V → Hp → VK → XK → Prop) : Sp := fun vs H Q E => ∃ a b, vs = [a, b] ∧ f a b H Q E
def sp3 (f : V → V → V → Hp → VK → XK → Prop) : Sp := fun vs H Q E => ∃ a b c, vs = [a, b, c] ∧ f a b c H Q E
def sp4 (f : V → V → V → V → Hp → VK → XK → Prop) : Sp := fun vs H Q E => ∃ a b c d, vs = [a, b, c, d] ∧ f a b c d H Q E
theorem len1 (f : V → Hp → VK → XK → Prop) {x : Str} (vs : List V) (H : Hp) (Q : VK) (E : XK) (h : sp1 f vs H Q E) : vs.length = [x].length := by obtain ⟨a, rfl, _⟩ := h; rfl
theorem len2 (f : V → V → Hp → VK → XK → Prop) {x y : Str} (vs : List V) (H : Hp) (Q : VK) (E : XK) (h : sp2 f vs H Q E) : vs.length = [x, y].length := by obtain ⟨a, b, rfl, _⟩ := h; rfl
theorem len3 (f : V → V → V → Hp → VK → XK → Prop) {x y z : Str} (vs : List V) (H : Hp) (Q : VK) (E : XK) (h : sp3 f vs H Q E) : vs.length = [x, y, z].length := by obtain ⟨a, b, c, rfl, _⟩ := h; rfl
theorem len4 (f : V → V → V → V → Hp → VK → XK → Prop) {x y z u : Str} (vs : List V) (H : Hp) (Q : VK) (E : XK) (h : sp4 f vs H Q E) : vs.length = [x, y, z, u].length := by obtain ⟨a, b, c, d, rfl, _⟩ := h; rfl
theorem rsp : (∀ f a H Q E, sp1 f [a] H Q E = f a H Q E) ∧ (∀ f a b H Q E, sp2 f [a, b] H Q E = f a b H Q E) ∧ (∀ f a b c H Q E, sp3 f [a, b, c] H Q E = f a b c H Q E) ∧ (∀ f a b c d H Q E, sp4 f [a, b, c, d] H Q E = f a b c d H Q E) := by
  refine ⟨fun f a H Q E => propext ⟨fun ⟨_, e, h⟩ => ?_, fun h => ⟨_, rfl, h⟩⟩, fun f a b H Q E => propext ⟨fun ⟨_, _, e, h⟩ => ?_, fun h => ⟨_, _, rfl, h⟩⟩, fun f a b c H Q E => propext ⟨fun ⟨_, _, _, e, h⟩ => ?_, fun h => ⟨_, _, _, rfl, h⟩⟩,
    fun f a b c d H Q E => propext ⟨fun ⟨_, _, _, _, e, h⟩ => ?_, fun h => ⟨_, _, _, _, rfl, h⟩⟩⟩ <;> (cases e; exact h)
/-! ### facts by Bools -/
def allB : List Bool → Bool
  | [] => true
  | b :: r => b && allB r
theorem allB_ok : ∀ {l : List Bool}, allB l = true → ∀ (i : Nat) {b : Bool}, l[i]? = some b → b = true
  | [], _, i, b, h => by simp at h
  | c :: r, e, 0, b, h => by
    have h2 : c = b := by simpa using h
    rw [← h2]
    exact (Bool.and_eq_true_iff.mp e).1
  | c :: r, e, i + 1, b, h => allB_ok (Bool.and_eq_true_iff.mp e).2 i (by simpa using h)
/-- an error class by what the head says of it -/
theorem exn_mk {P : Program} {w : World} {K : Fg} {mg : Str → Option Value} {base : Heap} {x f m qual : Str} {params : Arguments} {body : List Stmt} {scope : Scope} {fd : FuncData} {Cs : Addr}
    {p1 p2 p3 p4 p5 p6 p7 p8 p9 p10 : Pos} {j : Nat} (at_ : mg x = some (.ref (He.ga K x))) (c : ExC K (He.ga K x)) (no : PySem.W.findIn K (.ref (He.ga K x)) f = some none) (M : Meth K (He.ga K x) "__init__" (He.ma K (He.ga K x) "__init__"))
    (F : FunD K "__init__" qual params body scope [] [] (He.ma K (He.ga K x) "__init__") fd) (S : FnScope ["self", f] ["self", f] scope) (hb : body = ini1 m f p1 p2 p3 p4 p5 p6 p7 p8 p9 p10 j)
    (l1 : scope.names.lookup ("self" : Str) = some .local) (l2 : scope.names.lookup f = some .local) (l3 : scope.names.lookup ("SeedError" : Str) = some .globalImplicit) (hdb : (f == ("__debug__" : Str)) = false) (hcd : (f == ("__classdict__" : Str)) = false)
    (hl : (p2.endLine == p5.line) = true) (I0 : IniC K Cs) (gS : mg "SeedError" = some (.ref Cs))
    (hbd : ∀ (kV doc pm : Value) (an : Option Addr) (cdv ct : Value) (us : List Value), us.length = (["self", f] : List Str).length → bindArgs (PySem.W.fnOf "__init__" qual params body scope .none kV doc pm an cdv ct) ⟨us, []⟩ = pure ((["self", f] : List Str).zip us)) :
    Exn P w K mg base x f := ⟨at_, c, no, _, fd, M.at_, beq_iff_eq.mp M.fn, ok_ini1 F S hb l1 l2 l3 hdb hcd hl c I0 gS no, F.bindsN hbd⟩
/-! ### kinds -/
def tyO : HO → Option String
  | .lst _ => some "list"
  | .frz _ (.lst _) => some "list"
  | .tup _ => some "tuple"
  | .frz _ (.tup _) => some "tuple"
  | .dK _ => some "dict"
  | .dT _ => some "dict"
  | _ => none
def tyN (H : Hp) : V → Option String
  | .non => some "NoneType"
  | .bl _ => some "bool"
  | .int _ => some "int"
  | .str _ => some "str"
  | .ref p => (H p).bind tyO
  | _ => none
theorem tyN_ok {K : Fg} {H : Hp} {x : V} {n : String} (h : tyN H x = some n) : TyX K H x (.type n) := by
  cases x with
  | non => cases h; exact .base .non
  | bl b => cases h; exact .base (.bl b)
  | int i => cases h; exact .base (.int i)
  | str z => cases h; exact .base (.str z)
  | ref p =>
    obtain ⟨o, e, h⟩ := Option.bind_eq_some_iff.mp h
    unfold tyO at h
    split at h <;> first
      | (cases h; exact .base (.lst e))
      | (cases h; exact .base (.frz e))
      | (cases h; exact .base (.tup e))
      | (cases h; exact .fTuple e)
      | (cases h; exact .base (.dK e))
      | (cases h; exact .base (.dT e))
      | cases h
  | byt b => cases h
  | flt b => cases h
  | ty n => cases h
theorem tyN_cases {H : Hp} {x : V} {n : String} (h : tyN H x = some n) : n = "NoneType" ∨ n = "bool" ∨ n = "int" ∨ n = "str" ∨ n = "list" ∨ n = "tuple" ∨ n = "dict" := by
  cases x with
  | ref p =>
    obtain ⟨o, e, h⟩ := Option.bind_eq_some_iff.mp h
    unfold tyO at h
    split at h <;> cases h <;> simp
  | _ => cases h <;> simp
theorem tyN_same {H H' : Hp} (s : Same H H') {x : V} {n : String} (h : tyN H x = some n) : tyN H' x = some n := by
  cases x with
  | ref p =>
    obtain ⟨o, e, h⟩ := Option.bind_eq_some_iff.mp h
    exact Option.bind_eq_some_iff.mpr ⟨o, s p o e, h⟩
  | _ => exact h
def isB (H : Hp) (x : V) (T : String) : Option Bool := (tyN H x).bind fun n => kitB n T
/-- isinstance(x, T), T built in -/
def rIsQ : List V → Hp → VK → Prop := fun vs H Q => ∃ x T b, vs = [x, .ty T] ∧ isB H x T = some b ∧ Q (.bl b) H
theorem is_q {X : Cx} : CallR X (.builtin "isinstance") rIsQ := fun pins s σ H xs us Q I r h => by
  obtain ⟨x, T, b, rfl, e, q⟩ := h
  obtain ⟨n, e1, e2⟩ := Option.bind_eq_some_iff.mp e
  exact call_isi pins s σ H _ us Q I r ⟨x, .ty T, .type n, .type T, b, rfl, .ty T, tyN_ok e1, kit_ty e2, q⟩
theorem kitB_all : kitB "NoneType" "int" = some false ∧ kitB "bool" "int" = some true ∧ kitB "int" "int" = some true ∧ kitB "str" "int" = some false ∧ kitB "list" "int" = some false ∧ kitB "tuple" "int" = some false ∧ kitB "dict" "int" = some false ∧
    kitB "NoneType" "bool" = some false ∧ kitB "bool" "bool" = some true ∧ kitB "int" "bool" = some false ∧ kitB "str" "bool" = some false ∧ kitB "list" "bool" = some false ∧ kitB "tuple" "bool" = some false ∧ kitB "dict" "bool" = some false ∧
    kitB "NoneType" "list" = some false ∧ kitB "bool" "list" = some false ∧ kitB "int" "list" = some false ∧ kitB "str" "list" = some false ∧ kitB "list" "list" = some true ∧ kitB "tuple" "list" = some false ∧ kitB "dict" "list" = some false ∧
    kitB "NoneType" "tuple" = some false ∧ kitB "bool" "tuple" = some false ∧ kitB "int" "tuple" = some false ∧ kitB "str" "tuple" = some false ∧ kitB "list" "tuple" = some false ∧ kitB "tuple" "tuple" = some true ∧ kitB "dict" "tuple" = some false ∧
    kitB "NoneType" "str" = some false ∧ kitB "bool" "str" = some false ∧ kitB "int" "str" = some false ∧ kitB "str" "str" = some true ∧ kitB "list" "str" = some false ∧ kitB "tuple" "str" = some false ∧ kitB "dict" "str" = some false ∧
    kitB "NoneType" "dict" = some false ∧ kitB "bool" "dict" = some false ∧ kitB "int" "dict" = some false ∧ kitB "str" "dict" = some false ∧ kitB "list" "dict" = some false ∧ kitB "tuple" "dict" = some false ∧ kitB "dict" "dict" = some true := by
  decide +kernel
def whole : V → Bool
  | .int _ => true
  | _ => false
def within (x : V) (lo hi : Int) : Bool := match x with
  | .int i => decide (lo ≤ i ∧ i ≤ hi)
  | _ => false
def bool? : V → Bool
  | .bl _ => true
  | _ => false
theorem isB_bool {H : Hp} {x : V} {n : String} (h : tyN H x = some n) : isB H x "bool" = some (bool? x) := by
  have e : isB H x "bool" = kitB n "bool" := by rw [isB, h, Option.bind_some]
  rw [e]
  cases x with
  | ref p =>
    obtain ⟨o, eo, h⟩ := Option.bind_eq_some_iff.mp h
    unfold tyO at h
    split at h <;> cases h <;> simp only [kitB_all, bool?]
  | _ => cases h <;> simp only [kitB_all, bool?]
theorem isB_int {H : Hp} {x : V} {n : String} (h : tyN H x = some n) : isB H x "int" = some (whole x || bool? x) := by
  have e : isB H x "int" = kitB n "int" := by rw [isB, h, Option.bind_some]
  rw [e]
  cases x with
  | ref p =>
    obtain ⟨o, eo, h⟩ := Option.bind_eq_some_iff.mp h
    unfold tyO at h
    split at h <;> cases h <;> simp only [kitB_all, bool?, whole, Bool.or_self, Bool.or_true, Bool.true_or, Bool.or_false]
  | _ => cases h <;> simp only [kitB_all, bool?, whole, Bool.or_self, Bool.or_true, Bool.true_or, Bool.or_false]
theorem isB_list {H : Hp} {p : Addr} {xs : List V} (h : H p = some (.lst xs)) : isB H (.ref p) "list" = some true := by
  have e : tyN H (.ref p) = some "list" := by rw [tyN, h] <;> rfl
  rw [isB, e, Option.bind_some]
  decide +kernel
theorem isB_tup {H : Hp} {p : Addr} {xs : List V} (h : H p = some (.tup xs)) : isB H (.ref p) "tuple" = some true := by
  have e : tyN H (.ref p) = some "tuple" := by rw [tyN, h] <;> rfl
  rw [isB, e, Option.bind_some]
  decide +kernel
theorem whole_is (x : V) : ((whole x || bool? x) && !bool? x) = whole x := by cases x <;> rfl
/-! ### methods of lists -/
def tML (r : V → List V → Hp → VK → Prop) (to : TE) (t : TA) : TE := fun σ H Q => to σ H fun x H1 => ∃ p xs, x = .ref p ∧ H1 p = some (.lst xs) ∧ t σ H1 fun vs H2 => r x vs H2 Q
section
variable {X : Cx} {name : Str} {id : String} {r : V → List V → Hp → VK → Prop} {o e : Expr} {es : List Expr} {to : TE} {t : TA} {apos cpos : Pos}
theorem pe_ml (slot : Slot "list" name id) (hty : typeOf (.builtin id) = pure (.type "method_descriptor")) (hm : MtR X id r) (ho : PE X o to) (ha : PA X (e :: es) t)
    (hb : attributeBase o name X.env (eval o X.env) = eval o X.env := by rfl)
    (hw : ((backTo cpos (starEach (e :: es) X.env)).all (fun x => !x.1) && (backToKw cpos (keywordEach [] X.env)).all (fun x => x.1.isSome) && decide ((e :: es).length + ([] : List Keyword).length + (if ([] : List Keyword).isEmpty then 0 else 1) < 30)) = true := by rfl)
    (hl : (apos.endLine == cpos.line) = true := by rfl) (he : starEach (e :: es) X.env = (false, eval e X.env) :: starEach es X.env := by rfl) (hpl : (backTo cpos (starEach es X.env)).any (·.1) = false := by rfl) :
    PE X (.Call (.Attribute o name apos) (e :: es) [] cpos) (tML r to t) := ⟨fun pins s σ H Q I h =>
  (pe_bm PySem.F.plainAttrs_list slot hty hm (pe_mono ho) ha hb hw hl he hpl).run pins s σ H Q I ⟨_, h, fun x H1 ⟨p, xs, e, hp, q⟩ => ⟨by rw [e]; exact .inl ⟨rfl, xs, SqL.of hp⟩, q⟩⟩⟩
theorem pe_ml0 (slot : Slot "list" name id) (hty : typeOf (.builtin id) = pure (.type "method_descriptor")) (hm : MtR X id r) (ho : PE X o to)
    (hb : attributeBase o name X.env (eval o X.env) = eval o X.env := by rfl) (hl : (apos.endLine == cpos.line) = true := by rfl) :
    PE X (.Call (.Attribute o name apos) [] [] cpos) (tML r to tNil) := ⟨fun pins s σ H Q I h =>
  (pe_bm0 PySem.F.plainAttrs_list slot hty hm (pe_mono ho) hb hl).run pins s σ H Q I ⟨_, h, fun x H1 ⟨p, xs, e, hp, q⟩ => ⟨by rw [e]; exact .inl ⟨rfl, xs, SqL.of hp⟩, q⟩⟩⟩
end
theorem rz : (∀ vs H Q, rIsQ vs H Q = ∃ x T b, vs = [x, .ty T] ∧ isB H x T = some b ∧ Q (.bl b) H) ∧ (∀ r to t σ H Q, tML r to t σ H Q = to σ H fun x H1 => ∃ p xs, x = .ref p ∧ H1 p = some (.lst xs) ∧ t σ H1 fun vs H2 => r x vs H2 Q) ∧
    (∀ a b : String, V.ty a = V.ty b ↔ a = b) := by
  refine ⟨?_, ?_, ?_⟩ <;> intros <;> first | rfl | simp
theorem rix : (∀ (a : V) l, ixN (a :: l).length 0 = some 0) ∧ (∀ (a b : V) l, ixN (a :: b :: l).length 1 = some 1) ∧ (∀ (a b c : V) l, ixN (a :: b :: c :: l).length 2 = some 2) ∧ (∀ (a b c d : V) l, ixN (a :: b :: c :: d :: l).length 3 = some 3) := by
  refine ⟨?_, ?_, ?_, ?_⟩ <;> intros <;> simp only [ixN, List.length_cons] <;> rw [if_pos (by decide), if_pos (by omega)] <;> rfl
theorem rln : (([] : List V).length ≤ sizeLine ↔ True) ∧ (∀ a : V, [a].length ≤ sizeLine ↔ True) ∧ (∀ a b : V, [a, b].length ≤ sizeLine ↔ True) ∧ (∀ a b c : V, [a, b, c].length ≤ sizeLine ↔ True) ∧ (∀ a b c d : V, [a, b, c, d].length ≤ sizeLine ↔ True) ∧
    (∀ a b c d e : V, [a, b, c, d, e].length ≤ sizeLine ↔ True) ∧ (∀ a b c d e f : V, [a, b, c, d, e, f].length ≤ sizeLine ↔ True) ∧ (∀ a b c d e f g : V, [a, b, c, d, e, f, g].length ≤ sizeLine ↔ True) := by
  refine ⟨?_, ?_, ?_, ?_, ?_, ?_, ?_, ?_⟩ <;> intros <;> simp only [List.length_cons, List.length_nil, sizeLine_eq] <;> decide
theorem Same.new {H : Hp} {p : Addr} {o : HO} (h : H p = none) : Same H (upd H p o) := fun a u e => by
  rw [upd_ne (ne_of_none e h)]
  exact e
/-- an object that H does not know may change -/
theorem Same.mut {H H' : Hp} {p : Addr} {o : HO} (s : Same H H') (h : H p = none) : Same H (upd H' p o) := fun a u e => by
  rw [upd_ne (ne_of_none e h)]
  exact s a u e
/-! ### equal to themselves -/
/-- scalars; lists, tuples of ints; the empty dict -/
def Plain (H : Hp) : V → Prop
  | .non => True
  | .bl _ => True
  | .int _ => True
  | .str _ => True
  | .ref p => (∃ ns : List Int, H p = some (.lst (ns.map V.int)) ∧ ns.length ≤ 1000) ∨ (∃ ns : List Int, H p = some (.tup (ns.map V.int)) ∧ ns.length ≤ 1000) ∨ H p = some (.dK [])
  | _ => False
theorem Plain.same {H H' : Hp} (s : Same H H') {x : V} (h : Plain H x) : Plain H' x := by
  cases x with
  | ref p =>
    rcases h with ⟨ns, h, l⟩ | ⟨ns, h, l⟩ | h
    · exact .inl ⟨ns, s _ _ h, l⟩
    · exact .inr (.inl ⟨ns, s _ _ h, l⟩)
    · exact .inr (.inr (s _ _ h))
  | _ => exact h
theorem Plain.ty {H : Hp} {x : V} (h : Plain H x) : ∃ n, tyN H x = some n := by
  cases x with
  | ref p =>
    rcases h with ⟨ns, h, _⟩ | ⟨ns, h, _⟩ | h
    · exact ⟨"list", by rw [tyN, h] <;> rfl⟩
    · exact ⟨"tuple", by rw [tyN, h] <;> rfl⟩
    · exact ⟨"dict", by rw [tyN, h] <;> rfl⟩
  | byt _ => exact h.elim
  | flt _ => exact h.elim
  | ty _ => exact h.elim
  | _ => exact ⟨_, rfl⟩
theorem dpI {K : Fg} {H : Hp} : ∀ ns : List Int, DpAll K H (ns.map V.int) (ns.map PyData.int)
  | [] => .nil
  | n :: r => .cons (.int n) (dpI r)
theorem layI : ∀ ns : List Int, PyData.canLayAll0 (ns.map PyData.int) = true
  | [] => rfl
  | n :: r => by
    show (PyData.canLay0 (.int n) && PyData.canLayAll0 (r.map PyData.int)) = true
    rw [layI r, Bool.and_true]
    rfl
theorem depI : ∀ ns : List Int, PyData.depthAll (ns.map PyData.int) ≤ 1
  | [] => by show 0 ≤ 1; decide
  | n :: r => by
    have h := depI r
    simp only [List.map_cons, PyData.depthAll, PyData.depth]
    omega
theorem shapeL {ns : List Int} : SeqAt.shaped (.list (ns.map PyData.int)) = true := by
  have h := depI ns
  have h2 := layI ns
  simp only [SeqAt.shaped, PyData.canLay0, PyData.depth, Bool.and_eq_true, decide_eq_true_eq]
  exact ⟨h2, decide_eq_true (by omega)⟩
theorem shapeT {ns : List Int} : SeqAt.shaped (.tuple (ns.map PyData.int)) = true := by
  have h := depI ns
  have h2 := layI ns
  simp only [SeqAt.shaped, PyData.canLay0, PyData.depth, Bool.and_eq_true, decide_eq_true_eq]
  exact ⟨h2, decide_eq_true (by omega)⟩
theorem eqvI (ns ms : List Int) : PyData.eqv (.list (ns.map PyData.int)) (.list (ms.map PyData.int)) = decide (ns = ms) := by
  show PyData.eqvAll _ _ = _
  induction ns generalizing ms with
  | nil => cases ms with
    | nil => rfl
    | cons m r => rfl
  | cons n r ih => cases ms with
    | nil => rfl
    | cons m s =>
      show ((n == m) && PyData.eqvAll (r.map PyData.int) (s.map PyData.int)) = _
      rw [ih s, Bool.eq_iff_iff]
      simp
def rEqU (K : Fg) : R2 := fun x y H Q => L2.rEqD K x y H Q ∨ L2.rEqV K x y H Q ∨ L2.rEq x y H Q
theorem op_eqU {X : Cx} (hu : X.A.units + 64 < cLine) : OpR X (compareOp .Eq) (rEqU X.K) := OpR.or (op_eqD hu) (OpR.or (op_eqV hu) op_eq)
theorem Plain.eq {K : Fg} {H : Hp} {x : V} (h : Plain H x) {Q : VK} (q : Q (.bl true) H) : rEqU K x x H Q := by
  cases x with
  | ref p =>
    rcases h with ⟨ns, h, l⟩ | ⟨ns, h, l⟩ | h
    · refine .inr (.inl ⟨1, by decide, .inl ⟨p, p, _, _, rfl, rfl, SqL.of h, SqL.of h, ?_⟩, q⟩)
      clear h l
      induction ns with
      | nil => exact .nil
      | cons n r ih => exact .cons (.inl ⟨rfl, rfl⟩) ih
    · refine .inl ⟨_, _, .tup (SqT.of h) (dpI ns), .tup (SqT.of h) (dpI ns), shapeT, shapeT, ?_⟩
      rw [SeqAt.eqv_refl _ (SeqAt.canLay_of_shaped shapeT)]
      exact q
    · exact .inr (.inl ⟨1, by decide, .inr ⟨p, p, [], [], rfl, rfl, h, h, rfl, fun p hp => by cases hp⟩, q⟩)
  | non => exact .inl ⟨_, _, .non, .non, by decide, by decide, q⟩
  | bl b => exact .inl ⟨_, _, .bl b, .bl b, by cases b <;> decide, by cases b <;> decide, by rw [SeqAt.eqv_refl _ (by cases b <;> decide)]; exact q⟩
  | int i => exact .inl ⟨_, _, .int i, .int i, rfl, rfl, by rw [SeqAt.eqv_refl _ rfl]; exact q⟩
  | str s => exact .inr (.inr ⟨rfl, by rw [decide_eq_true rfl]; exact q⟩)
  | byt _ => exact h.elim
  | flt _ => exact h.elim
  | ty _ => exact h.elim
end Sw

/-! A call of a local name that holds one of several defs; small facts. -/
namespace Sw
open PySem PySem.Spec PyProof.Rows L2
structure HeldE (P : Program) (w : World) (K : Fg) (mg : Str → Option Value) (base : Heap) (k : Nat) (f : Addr) (sp : Sp) : Prop where
  ex : ∃ (fd : FuncData) (ps : List Str), FnG P w K mg base k f fd ps sp ∧ PySem.W.keepIn K (.ref f) = true ∧ Binds K fd ps []
theorem Cal.held {P : Program} {w : World} {K : Fg} {mg : Str → Option Value} {base : Heap} {k : Nat} {x : Str} {ps : List Str} {sp : Sp} (c : Cal P w K mg base k x ps sp) : HeldE P w K mg base k (He.ga K x) sp := by
  obtain ⟨fd, F, b⟩ := c.ex
  exact ⟨fd, ps, F, c.kp, b⟩
inductive Deeds (P : Program) (w : World) (K : Fg) (mg : Str → Option Value) (base : Heap) (j : Nat) : List (Addr × Sp) → Prop
  | nil : Deeds P w K mg base j []
  | cons {k : Nat} {x : Str} {ps : List Str} {sp : Sp} {l : List (Addr × Sp)} : Cal P w K mg base k x ps sp → k ≤ j → Deeds P w K mg base j l → Deeds P w K mg base j ((He.ga K x, sp) :: l)
theorem Deeds.get {P : Program} {w : World} {K : Fg} {mg : Str → Option Value} {base : Heap} {j : Nat} {l : List (Addr × Sp)} {f : Addr} {sp : Sp} (D : Deeds P w K mg base j l) (h : (f, sp) ∈ l) : ∃ k, k ≤ j ∧ HeldE P w K mg base k f sp := by
  induction D with
  | nil => cases h
  | cons c hk _ ih =>
    cases h with
    | head => exact ⟨_, hk, c.held⟩
    | tail _ h => exact ih h
def tDeedS (i : Nat) (l : List (Addr × Sp)) (E : L2.St → XK) (t : TA) : TE := fun σ H Q => ∃ f sp, σ[i]? = some (some (.ref f)) ∧ (f, sp) ∈ l ∧ t σ H fun vs H1 => sp vs H1 Q (E σ)
section
variable {X : Cx} {k i j : Nat} {x : Str} {p pos : Pos} {e : Expr} {es : List Expr} {t : TA} {l : List (Addr × Sp)}
theorem pe_deedS {W : WX} (D : Deeds X.prog X.w X.K X.mg X.base j l) (hr : Rm j X.A) (tk : Takes X W) (hN : X.N[i]? = some x) (hv : Vis X.env.scope x) (ha : PA X (e :: es) t)
    (hdb : (x == ("__debug__" : Str)) = false := by decide) (hcd : (x == ("__classdict__" : Str)) = false := by decide)
    (he : starEach (e :: es) X.env = (false, eval e X.env) :: starEach es X.env := by rfl) (hpl : (backTo pos (starEach es X.env)).any (·.1) = false := by rfl) : PE X (.Call (.Name x p) (e :: es) [] pos) (tDeedS i l (WE W) t) := by
  refine ⟨fun pins s σ H Q I h => ?_⟩
  obtain ⟨f, sp, hs, hS, ht⟩ := h
  obtain ⟨k, hk, ⟨fd, ps, F, kp, hb⟩⟩ := D.get hS
  refine wpAny_Call_Name_kw (thn ((pe_var (pos := p) hN hv hdb hcd).run pins s σ H (fun v H1 => v = .ref f ∧ H1 = H) I ⟨.ref f, hs, rfl, rfl⟩) fun u s1 ⟨v, H1, I1, r1, q1⟩ => ?_)
  obtain ⟨rfl, rfl⟩ := q1
  cases r1
  refine PySem.W.callWith_K (h₀ := X.base) I.ok.mod.kin kp (thn (ha.run pos pins s1 σ _ _ I1 ht) fun us s2 ⟨vs, H2, I2, r, q⟩ => ⟨I2.kIn, ?_⟩) he hpl
  exact run_fnG F (hr.mono hk) hb (passAt tk σ) I2 r q
end
theorem rd : (∀ i l E t σ H Q, tDeedS i l E t σ H Q = ∃ f sp, σ[i]? = some (some (.ref f)) ∧ (f, sp) ∈ l ∧ t σ H fun vs H1 => sp vs H1 Q (E σ)) ∧ (∀ σ H Q, tDNewK σ H Q = ∀ p, H p = none → Q (.ref p) (upd H p (.dK []))) := ⟨fun _ _ _ _ _ _ _ => rfl, fun _ _ _ => rfl⟩
theorem rwi : (∀ σ : L2.St, wipe σ [] = σ) ∧ (∀ (σ : L2.St) (i : Nat) (vs : List Nat), wipe σ (i :: vs) = (wipe σ vs).set i none) ∧ (List.map (fun x : Str × Nat => x.snd) [] = []) ∧ (∀ (a : Str × Nat) (l : List (Str × Nat)), List.map (fun x : Str × Nat => x.snd) (a :: l) = a.snd :: List.map (fun x : Str × Nat => x.snd) l) := ⟨fun _ => rfl, fun _ _ _ => rfl, rfl, fun _ _ => rfl⟩
/-! ### a list and its copy -/
theorem Plain.eqV {K : Fg} {H : Hp} {x : V} (h : Plain H x) : EqV K H 1 x x := by
  cases x with
  | ref p => exact .inr (.inl ⟨p, rfl, rfl⟩)
  | non => exact .inl ⟨rfl, rfl⟩
  | bl b => exact .inl ⟨rfl, rfl⟩
  | int i => exact .inl ⟨rfl, rfl⟩
  | str s => exact .inl ⟨rfl, rfl⟩
  | byt _ => exact h.elim
  | flt _ => exact h.elim
  | ty _ => exact h.elim
theorem paired_self {E : V → V → Prop} : ∀ {xs : List V}, (∀ x ∈ xs, E x x) → Paired E xs xs
  | [], _ => .nil
  | x :: r, h => .cons (h x (by simp)) (paired_self fun y hy => h y (List.mem_cons_of_mem _ hy))
theorem copy_eq {K : Fg} {H : Hp} {p q : Addr} {xs : List V} (hp : H p = some (.lst xs)) (hq : H q = some (.lst xs)) (h : ∀ x ∈ xs, Plain H x) {Q : VK} (k : Q (.bl true) H) : rEqU K (.ref p) (.ref q) H Q :=
  .inr (.inl ⟨1, by decide, .inl ⟨p, q, xs, xs, rfl, rfl, SqL.of hp, SqL.of hq, paired_self fun x hx => (h x hx).eqV⟩, k⟩)
theorem isD_ref {K : Fg} {D a C d : Addr} {H : Hp} {fs : List (Str × V)} {b : Bool} {Q : VK} (hd : H d = some (.xd fs)) (e : PySem.W.kitOne K (.ref D) (.ref C) = some b) (q : Q (.bl b) H) : rIsD K D a (.ref D) (some d) [.ref a, .ref C] H Q := ⟨_, _, _, _, _, rfl, .own C, rfl, rfl, hd, e, q⟩
theorem isD_ty {K : Fg} {D a d : Addr} {T : String} {H : Hp} {fs : List (Str × V)} {b : Bool} {Q : VK} (hd : H d = some (.xd fs)) (e : PySem.W.kitOne K (.ref D) (.type T) = some b) (q : Q (.bl b) H) : rIsD K D a (.ref D) (some d) [.ref a, .ty T] H Q := ⟨_, _, _, _, _, rfl, .ty T, rfl, rfl, hd, e, q⟩
theorem eq_ints {K : Fg} {H : Hp} {p q : Addr} {ns ms : List Int} (hp : SqL K H p (ns.map V.int)) (hq : SqL K H q (ms.map V.int)) {Q : VK} (k : Q (.bl (decide (ns = ms))) H) : rEqD K (.ref p) (.ref q) H Q := by
  refine ⟨_, _, .lst hp (dpI ns), .lst hq (dpI ms), shapeL, shapeL, ?_⟩
  rw [eqvI]
  exact k
theorem ne_ints {K : Fg} {H : Hp} {p q : Addr} {ns ms : List Int} (hp : SqL K H p (ns.map V.int)) (hq : SqL K H q (ms.map V.int)) {Q : VK} (k : Q (.bl (!decide (ns = ms))) H) : rNeD K (.ref p) (.ref q) H Q := by
  refine ⟨_, _, .lst hp (dpI ns), .lst hq (dpI ms), shapeL, shapeL, ?_⟩
  rw [eqvI]
  exact k
theorem ite_none {α : Type} {c : Prop} [Decidable c] {o : α} {x : Option α} (h : (if c then some o else x) = none) : ¬ c ∧ x = none := by
  by_cases k : c
  · rw [if_pos k] at h
    cases h
  · rw [if_neg k] at h
    exact ⟨k, h⟩
theorem Plain.move {H H' : Hp} {x : V} (h : Plain H x) (k : ∀ q o, x = .ref q → H q = some o → H' q = some o) : Plain H' x := by
  cases x with
  | ref p =>
    rcases h with ⟨ns, h, l⟩ | ⟨ns, h, l⟩ | h
    · exact .inl ⟨ns, k _ _ rfl h, l⟩
    · exact .inr (.inl ⟨ns, k _ _ rfl h, l⟩)
    · exact .inr (.inr (k _ _ rfl h))
  | _ => exact h
/-- two ways to one place: the place is shown once -/
theorem Be.join {b : Bool} {f g : Hp → Prop} {H : Hp} (S : Hp → Prop) (h0 : S H) (n : ∀ H', S H' → g H') (hf : (∀ H', S H' → g H') → b = true → f H) : Be b f g H := Be.of (hf n) fun _ => n _ h0
theorem Be.joinL {b : Bool} {f g : Hp → Prop} {H : Hp} (S : Hp → Prop) (h0 : S H) (n : ∀ H', S H' → f H') (hg : (∀ H', S H' → f H') → b = false → g H) : Be b f g H := Be.of (fun _ => n _ h0) (hg n)
/-! ### the law's own def, and the end -/
theorem fn_mk {P : Program} {w : World} {K : Fg} {mg : Str → Option Value} {base : Heap} {k : Nat} {x : Str} {N ps : List Str} {sp : Sp} {st : Stmt} {fd : FuncData}
    (F : FunD K x x (defArgs st) (defBody st) (defScope st) [] [] (He.ga K x) fd) (S : FnScope N ps (defScope st)) (len : ∀ vs H Q E, sp vs H Q E → vs.length = ps.length)
    (hbody : ∀ (cdv : Value) (A : Around) (outer : List Env) (s : Shared) (H : Hp) (vs : List V) (Q : VK) (E : XK), Rm k (A.deeper (envOfC x (defScope st) s.heap.objs.size (He.ga K x) cdv)) → sp vs H Q E →
      ∃ t, PSs (cxOf (L2.CX P w) P w K mg base N x (defScope st) (He.ga K x) cdv A outer s H E) (defBody st) t ∧ t { nx := fun _ H' => Q .non H', rt := Q } (start N vs) H) : FnG P w K mg base (k + 1) (He.ga K x) fd ps sp := fnG_of F S len hbody
theorem fin_mk {P : Program} {w : World} {K : Fg} {mg : Str → Option Value} {h : Heap} {n k : Nat} {fa : Addr} {st : Stmt} {sp : Sp} (KX : K.In h) (hf : fa = He.ga K "law")
    (F : ∃ fd, FunD K "law" "law" (defArgs st) (defBody st) (defScope st) [] [] (He.ga K "law") fd)
    (hb : ∀ (kV doc pm : Value) (an : Option Addr) (cdv ct : Value) (us : List Value), us.length = (["script"] : List Str).length → bindArgs (PySem.W.fnOf "law" "law" (defArgs st) (defBody st) (defScope st) .none kV doc pm an cdv ct) ⟨us, []⟩ = pure ((["script"] : List Str).zip us))
    (hsp : ∀ (H : Hp) (a : Addr) (ns : List Int), ns.length ≤ n → SqL K H a (ns.map V.int) → sp [.ref a] H (fun v _ => v = .bl true) fun _ _ _ => False)
    (hF : ∀ (fd : FuncData) (base : Heap), FunD K "law" "law" (defArgs st) (defBody st) (defScope st) [] [] (He.ga K "law") fd → FnG P w K mg base k (He.ga K "law") fd ["script"] sp) :
    ∃ (K : PySem.W.Frag) (fd : FuncData) (sp : Sp), K.In h ∧ (∀ (s : Shared) (u : Value), BindsTo s fd ⟨[u], []⟩ [("script", u)]) ∧
        (∀ (H : Hp) (a : Addr) (ns : List Int), ns.length ≤ n → Only H → SqL K H a (ns.map V.int) → sp [.ref a] H (fun v _ => v = .bl true) fun _ _ _ => False) ∧
        ∀ base : Heap, FnG P w K mg base k fa fd ["script"] sp := by
  obtain ⟨fd, F⟩ := F
  refine ⟨K, fd, sp, KX, fun s u => F.bindsA (ps := ["script"]) hb s [u] rfl, fun H a ns h1 _ h2 => hsp H a ns h1 h2, fun base => ?_⟩
  rw [hf]
  exact hF fd base F
theorem eqv_int (i j : Int) : PyData.eqv (.int i) (.int j) = decide (i = j) := by
  show (i == j) = _
  rw [Bool.eq_iff_iff]
  simp
end Sw

/-! Objects of the program's own classes: methods, making, fields; constants of a module. -/
namespace Sw
open PySem PySem.Spec PyProof.Rows L2
structure CalM (P : Program) (w : World) (K : Fg) (mg : Str → Option Value) (base : Heap) (k : Nat) (C m : Str) (ps : List Str) (sp : Sp) : Prop where
  ex : ∃ fd : FuncData, FnG P w K mg base k (He.ma K (He.ga K C) m) fd ps sp ∧ Binds K fd ps []
  cls : Cls K (He.ga K C)
  meth : Meth K (He.ga K C) m (He.ma K (He.ga K C) m)
theorem calM_mk {P : Program} {w : World} {K : Fg} {mg : Str → Option Value} {base : Heap} {k : Nat} {C m q : Str} {N ps : List Str} {sp : Sp} {st : Stmt}
    (F : ∃ fd, FunD K m q (defArgs st) (defBody st) (defScope st) [] [] (He.ma K (He.ga K C) m) fd) (cls : Cls K (He.ga K C)) (meth : Meth K (He.ga K C) m (He.ma K (He.ga K C) m)) (S : FnScope N ps (defScope st)) (len : ∀ vs H Q E, sp vs H Q E → vs.length = ps.length)
    (hb : ∀ (kV doc pm : Value) (an : Option Addr) (cdv ct : Value) (us : List Value), us.length = ps.length → bindArgs (PySem.W.fnOf m q (defArgs st) (defBody st) (defScope st) .none kV doc pm an cdv ct) ⟨us, []⟩ = pure (ps.zip us))
    (hbody : ∀ (cdv : Value) (A : Around) (outer : List Env) (s : Shared) (H : Hp) (vs : List V) (Q : VK) (E : XK), Rm k (A.deeper (envOfC q (defScope st) s.heap.objs.size (He.ma K (He.ga K C) m) cdv)) → sp vs H Q E →
      ∃ t, PSs (cxOf (L2.CX P w) P w K mg base N q (defScope st) (He.ma K (He.ga K C) m) cdv A outer s H E) (defBody st) t ∧ t { nx := fun _ H' => Q .non H', rt := Q } (start N vs) H) : CalM P w K mg base (k + 1) C m ps sp := by
  obtain ⟨fd, F⟩ := F
  exact ⟨⟨fd, fnG_of F S len hbody, F.bindsN hb⟩, cls, meth⟩
def tMth (C : Addr) (m : Str) (sp : Sp) (E : XK) (ta : TE) (t : TA) : TE := fun σ H Q => ta σ H fun x H1 => ∃ a dx fs, x = .ref a ∧ H1 a = some (.ins C dx fs) ∧ fs.lookup m = none ∧ t σ H1 fun vs H2 => sp (x :: vs) H2 Q E
def tMthS (C : Addr) (m : Str) (sp : Sp) (E : L2.St → XK) (ta : TE) (t : TA) : TE := fun σ H Q => ta σ H fun x H1 => ∃ a dx fs, x = .ref a ∧ H1 a = some (.ins C dx fs) ∧ fs.lookup m = none ∧ t σ H1 fun vs H2 => sp (x :: vs) H2 Q (E σ)
def tMak (C : Addr) (sp : Sp) (E : XK) (t : TA) : TE := fun σ H Q => t σ H fun vs H1 => ∀ x dx, H1 x = none → H1 dx = none → dx ≠ x → sp (.ref x :: vs) (upd (upd H1 dx (.own x)) x (.ins C dx [])) (fun v H2 => v = .non ∧ Q (.ref x) H2) E
def tMakS (C : Addr) (sp : Sp) (E : L2.St → XK) (t : TA) : TE := fun σ H Q => t σ H fun vs H1 => ∀ x dx, H1 x = none → H1 dx = none → dx ≠ x → sp (.ref x :: vs) (upd (upd H1 dx (.own x)) x (.ins C dx [])) (fun v H2 => v = .non ∧ Q (.ref x) H2) (E σ)
section
variable {X : Cx} {k j : Nat} {C m x : Str} {ps : List Str} {sp : Sp} {E : XK} {o e : Expr} {es : List Expr} {ta : TE} {t : TA} {p apos pos : Pos} {pl : Sem Bool} {W : WX}
theorem pe_mth (c : CalM X.prog X.w X.K X.mg X.base k C m ps sp) (hr : Rm j X.A) (hk : k ≤ j) (hx : Passes (L2.CX X.prog X.w) X E) (he : PE X o ta) (ha : PA X (e :: es) t)
    (hst : starEach (e :: es) X.env = (false, eval e X.env) :: starEach es X.env := by rfl) (hpl : (backTo pos (starEach es X.env)).any (·.1) = false := by rfl)
    (ht : eval (.Call (.Attribute o m apos) (e :: es) [] pos) X.env = (do
      let ov ← eval o X.env
      standAt apos.atName
      let (f, first) ← holding [ov] (getMethod ov m pl)
      callWith pos f first (backTo pos (starEach (e :: es) X.env)) (backToKw pos (keywordEach [] X.env))) := by rfl) :
    PE X (.Call (.Attribute o m apos) (e :: es) [] pos) (tMthS (He.ga X.K C) m sp (fun _ => E) ta t) := by
  obtain ⟨fd, F, b⟩ := c.ex
  refine ⟨fun pins s σ H Q I h => PySem.W.methodCall_KW (pl := pl) (thn (he.run pins s σ H _ I h) fun u s1 ⟨x, H1, I1, rx, a, dx, fs, ex, ea, l, q⟩ => ?_) ht⟩
  subst ex
  obtain rfl : u = Value.ref a := rx
  refine getmeth_ok I1 ea c.cls c.meth l (PySem.W.callWith_K (first := [.ref a]) (h₀ := X.base) I.ok.mod.kin c.meth.kp (thn (ha.run pos pins s1 σ H1 _ I1 q) fun us s2 ⟨vs, H2, I2, r, q2⟩ => ⟨I2.kIn, ?_⟩) hst hpl)
  exact run_fnG (E := fun _ => E) (us := .ref a :: us) (vs := .ref a :: vs) F (hr.mono hk) b (fun pins H s e s' I c => hx pins σ H s e s' I c) I2 (.cons rfl r) q2
theorem pe_mth0 (c : CalM X.prog X.w X.K X.mg X.base k C m ps sp) (hr : Rm j X.A) (hk : k ≤ j) (hx : Passes (L2.CX X.prog X.w) X E) (he : PE X o ta)
    (ht : eval (.Call (.Attribute o m apos) [] [] pos) X.env = (do
      let ov ← eval o X.env
      standAt apos.atName
      let (f, first) ← holding [ov] (getMethod ov m pl)
      callWith pos f first (backTo pos (starEach [] X.env)) (backToKw pos (keywordEach [] X.env))) := by rfl) :
    PE X (.Call (.Attribute o m apos) [] [] pos) (tMthS (He.ga X.K C) m sp (fun _ => E) ta tNil) := by
  obtain ⟨fd, F, b⟩ := c.ex
  refine ⟨fun pins s σ H Q I h => PySem.W.methodCall_KW (pl := pl) (thn (he.run pins s σ H _ I h) fun u s1 ⟨x, H1, I1, rx, a, dx, fs, ex, ea, l, q⟩ => ?_) ht⟩
  subst ex
  obtain rfl : u = Value.ref a := rx
  refine getmeth_ok I1 ea c.cls c.meth l (PySem.W.callWith_K0 (first := [.ref a]) I1.kIn c.meth.kp ?_)
  exact run_fnG (E := fun _ => E) (us := [.ref a]) (vs := [.ref a]) F (hr.mono hk) b (fun pins H s e s' I c => hx pins σ H s e s' I c) I1 (.cons rfl .nil) q
theorem pe_mthS (c : CalM X.prog X.w X.K X.mg X.base k C m ps sp) (hr : Rm j X.A) (hk : k ≤ j) (tk : Takes X W) (he : PE X o ta) (ha : PA X (e :: es) t)
    (hst : starEach (e :: es) X.env = (false, eval e X.env) :: starEach es X.env := by rfl) (hpl : (backTo pos (starEach es X.env)).any (·.1) = false := by rfl)
    (ht : eval (.Call (.Attribute o m apos) (e :: es) [] pos) X.env = (do
      let ov ← eval o X.env
      standAt apos.atName
      let (f, first) ← holding [ov] (getMethod ov m pl)
      callWith pos f first (backTo pos (starEach (e :: es) X.env)) (backToKw pos (keywordEach [] X.env))) := by rfl) :
    PE X (.Call (.Attribute o m apos) (e :: es) [] pos) (tMthS (He.ga X.K C) m sp (WE W) ta t) := by
  obtain ⟨fd, F, b⟩ := c.ex
  refine ⟨fun pins s σ H Q I h => ?_⟩
  refine PySem.W.methodCall_KW (pl := pl) (thn (he.run pins s σ H _ I h) fun u s1 ⟨x, H1, I1, rx, a, dx, fs, ex, ea, l, q⟩ => ?_) ht
  subst ex
  obtain rfl : u = Value.ref a := rx
  refine getmeth_ok I1 ea c.cls c.meth l ?_
  refine PySem.W.callWith_K (first := [.ref a]) (h₀ := X.base) I.ok.mod.kin c.meth.kp (thn (ha.run pos pins s1 σ H1 _ I1 q) fun us s2 ⟨vs, H2, I2, r, q2⟩ => ⟨I2.kIn, ?_⟩) hst hpl
  exact run_fnG (us := .ref a :: us) (vs := .ref a :: vs) F (hr.mono hk) b (passAt tk σ) I2 (.cons rfl r) q2
theorem pe_mth0S (c : CalM X.prog X.w X.K X.mg X.base k C m ps sp) (hr : Rm j X.A) (hk : k ≤ j) (tk : Takes X W) (he : PE X o ta)
    (ht : eval (.Call (.Attribute o m apos) [] [] pos) X.env = (do
      let ov ← eval o X.env
      standAt apos.atName
      let (f, first) ← holding [ov] (getMethod ov m pl)
      callWith pos f first (backTo pos (starEach [] X.env)) (backToKw pos (keywordEach [] X.env))) := by rfl) :
    PE X (.Call (.Attribute o m apos) [] [] pos) (tMthS (He.ga X.K C) m sp (WE W) ta tNil) := by
  obtain ⟨fd, F, b⟩ := c.ex
  refine ⟨fun pins s σ H Q I h => ?_⟩
  refine PySem.W.methodCall_KW (pl := pl) (thn (he.run pins s σ H _ I h) fun u s1 ⟨x, H1, I1, rx, a, dx, fs, ex, ea, l, q⟩ => ?_) ht
  subst ex
  obtain rfl : u = Value.ref a := rx
  refine getmeth_ok I1 ea c.cls c.meth l ?_
  exact PySem.W.callWith_K0 (first := [.ref a]) I1.kIn c.meth.kp (run_fnG (us := [.ref a]) (vs := [.ref a]) F (hr.mono hk) b (passAt tk σ) I1 (.cons rfl .nil) q)
theorem pe_mk (c : CalM X.prog X.w X.K X.mg X.base k C "__init__" ps sp) (M : Mk X.K (He.ga X.K C) (He.ma X.K (He.ga X.K C) "__init__")) (hm : X.mg C = some (.ref (He.ga X.K C))) (hr : Rm j X.A) (hk : k + 1 ≤ j) (hx : Passes (L2.CX X.prog X.w) X E) (hg : Gl X C) (ha : PA X (e :: es) t)
    (hdb : (C == ("__debug__" : Str)) = false := by decide) (he : starEach (e :: es) X.env = (false, eval e X.env) :: starEach es X.env := by rfl) (hpl : (backTo pos (starEach es X.env)).any (·.1) = false := by rfl) :
    PE X (.Call (.Name C p) (e :: es) [] pos) (tMakS (He.ga X.K C) sp (fun _ => E) t) := by
  obtain ⟨fd, F, b⟩ := c.ex
  refine ⟨fun pins s σ H Q I h => wpAny_Call_Name_kw (ld_glob I hg hm ?_ hdb)⟩
  refine PySem.W.callWith_K (h₀ := X.base) I.ok.mod.kin M.kp (thn (ha.run pos pins s σ H _ I h) fun us s1 ⟨vs, H1, I1, r, q⟩ => ⟨I1.kIn, ?_⟩) he hpl
  exact run_makG (E := fun _ => E) M F (hr.mono hk) b (fun pins H s e s' I c => hx pins σ H s e s' I c) I1 r q
theorem pe_mkS (c : CalM X.prog X.w X.K X.mg X.base k C "__init__" ps sp) (M : Mk X.K (He.ga X.K C) (He.ma X.K (He.ga X.K C) "__init__")) (hm : X.mg C = some (.ref (He.ga X.K C))) (hr : Rm j X.A) (hk : k + 1 ≤ j) (tk : Takes X W) (hg : Gl X C) (ha : PA X (e :: es) t)
    (hdb : (C == ("__debug__" : Str)) = false := by decide) (he : starEach (e :: es) X.env = (false, eval e X.env) :: starEach es X.env := by rfl) (hpl : (backTo pos (starEach es X.env)).any (·.1) = false := by rfl) :
    PE X (.Call (.Name C p) (e :: es) [] pos) (tMakS (He.ga X.K C) sp (WE W) t) := by
  obtain ⟨fd, F, b⟩ := c.ex
  refine ⟨fun pins s σ H Q I h => ?_⟩
  refine wpAny_Call_Name_kw (ld_glob I hg hm ?_ hdb)
  refine PySem.W.callWith_K (h₀ := X.base) I.ok.mod.kin M.kp (thn (ha.run pos pins s σ H _ I h) fun us s1 ⟨vs, H1, I1, r, q⟩ => ⟨I1.kIn, ?_⟩) he hpl
  exact run_makG M F (hr.mono hk) b (passAt tk σ) I1 r q
/-! ### fields -/
def tFldC (C : Addr) (ta : TE) (f : Str) : TE := fun σ H Q => ta σ H fun x H1 => ∃ a dx fs v, x = .ref a ∧ H1 a = some (.ins C dx fs) ∧ fs.lookup f = some v ∧ Q v H1
def sFldC (C : Addr) (ta tv : TE) (f : Str) : TS := fun D σ H => tv σ H fun y H1 => ta σ H1 fun x H2 => ∃ a dx fs, x = .ref a ∧ H2 a = some (.ins C dx fs) ∧ fs.length < 1000 ∧ D.nx σ (upd H2 a (.ins C dx (putF f y fs)))
theorem pe_fldC {f : Str} {D : Addr} (c : Cls X.K D) (n : NoAttr X.K D f) (he : PE X e ta) (hb : attributeBase e f X.env (eval e X.env) = eval e X.env := by rfl) : PE X (.Attribute e f pos) (tFldC D ta f) :=
  ⟨fun pins s σ H Q I h => (pe_fld (pe_mono he) hb).run pins s σ H Q I ⟨_, h, fun x H1 ⟨a, dx, fs, v, e1, e2, e3, q⟩ => ⟨a, D, dx, fs, v, e1, e2, c, n, e3, q⟩⟩⟩
theorem ps_fldC {f : Str} {tv : TE} {D : Addr} {value : Expr} {pos' : Pos} (c : Cls X.K D) (n : NoAttr X.K D f) (ha : PE X o ta) (hv : PE X value tv) (hs : swapsWith value (some (.Attribute o f pos')) pos.line X.env = pure false := by rfl) :
    PS X (.Assign [.Attribute o f pos'] value pos) (sFldC D ta tv f) :=
  ⟨fun pins s σ H D' I h => (ps_fld (pe_mono ha) (pe_mono hv) hs).run pins s σ H D' I ⟨_, h, fun y H1 q => ⟨_, q, fun x H2 ⟨a, dx, fs, e1, e2, e3, q⟩ => ⟨a, D, dx, fs, e1, e2, c, n, e3, q⟩⟩⟩⟩
/-! ### the head with tables -/
abbrev AlX : Type := He.AlD × List (Option (List (Option (Str × Int))))
def obT (p : Fg → Bool) (fn : List He.DefD) (ts : List He.Tab) (K : Fg) : AlX := (obX p fn K, ts.map fun t => He.dicW K (t.1 K))
def vaT (fn : List He.DefD) (ts : List He.Tab) (w : World) : AlX := (He.valD fn, ts.map fun t => some (He.keysIn w.params t.2))
def sayT (p : Fg → Bool) (fn : List He.DefD) (ts : List He.Tab) (w : World) (K : Fg) : Prop := obT p fn ts K = vaT fn ts w
def hkT (n : Nat) (p : Fg → Bool) (fn : List He.DefD) (ts : List He.Tab) : PySem.W.Hook where
  α := AlX
  obs := fun s => obT p fn ts (He.frG s.heap.get? (asZ s.heap.get? n))
  val := fun w => vaT fn ts w
  says := fun w h => ∃ K : Fg, K.In h ∧ sayT p fn ts w K
  of := fun _ _ e => ⟨_, He.frG_in, e⟩
  keeps := fun _ _ _ ⟨K, hK, c⟩ k => ⟨K, PySem.W.Frag.In.keeps hK k, c⟩
theorem obT_eq {n : Nat} {p : Fg → Bool} {fn : List He.DefD} {ts : List He.Tab} {g : Addr → Option Obj} {s : Shared} (h : ∀ a, g a = s.heap.get? a) : obT p fn ts (He.frG g (asZ g n)) = (hkT n p fn ts).obs s := by
  rw [show g = s.heap.get? from funext h] <;> rfl
theorem sayT.bas {p : Fg → Bool} {fn : List He.DefD} {ts : List He.Tab} {w : World} {K : Fg} (c : sayT p fn ts w K) : sayX p fn K := congrArg (fun z : AlX => z.1) c
theorem sayT.tab {p : Fg → Bool} {fn : List He.DefD} {ts : List He.Tab} {w : World} {K : Fg} (c : sayT p fn ts w K) (i : Nat) {t : He.Tab} (h : ts[i]? = some t := by rfl) : ∃ es n, KDict K w (t.1 K) es n := by
  have e : ts.map (fun t => He.dicW K (t.1 K)) = ts.map fun t => some (He.keysIn w.params t.2) := congrArg (fun z : AlX => z.2) c
  have e2 : (ts.map fun t => He.dicW K (t.1 K))[i]? = (ts.map fun t => some (He.keysIn w.params t.2))[i]? := by rw [e]
  rw [List.getElem?_map, List.getElem?_map, h] at e2
  exact He.dicW_ok (Option.some.inj e2)
/-- a value of such a table -/
theorem kdct_of {K : Fg} {w : World} {a : Addr} {kvs : List (Str × He.Dv)} (h : ∃ es n, KDict K w a es n) (v : He.valsB K a kvs = true) : ∀ q ∈ kvs, KDct K w a q.1 (q.2.v K) := fun q hq => by
  obtain ⟨es, n, D⟩ := h
  obtain ⟨u, e, r⟩ := He.valsB_ok v hq
  exact ⟨es, n, u, D.at_, D.lit, e, r⟩
/-! ### constants of a module -/
theorem pe_gint {i : Int} (hg : Gl X x) (hm : ∃ t, X.mg x = some (.int i t)) (hd : (x == ("__debug__" : Str)) = false := by decide) : PE X (.Name x pos) (tC (.int i)) := by
  obtain ⟨t, hm⟩ := hm
  exact pe_glob hg hm ⟨t, rfl⟩ hd
theorem pe_gstr {z : Str} (hg : Gl X x) (hm : ∃ t, X.mg x = some (.str z t)) (hd : (x == ("__debug__" : Str)) = false := by decide) : PE X (.Name x pos) (tC (.str z)) := by
  obtain ⟨t, hm⟩ := hm
  exact pe_glob hg hm ⟨t, rfl⟩ hd
end
/-! ### xs[i] op= e, the read by value -/
def rGetL : V → V → Hp → VK → Prop := fun o i H Q => ∃ p xs k v, o = .ref p ∧ i = .int k ∧ H p = some (.lst xs) ∧ (0 ≤ k ∧ k < 2 ^ 62) ∧ xs[k.toNat]? = some v ∧ Q v H
theorem get_list {X : Cx} : PGet X rGetL := by
  intro pins s σ H o i ov iv Q I r1 r2 ⟨p, xs, k, v, e1, e2, e3, ⟨k0, k1⟩, e4, q⟩
  subst e1 e2
  cases r1
  obtain ⟨t, rfl⟩ := r2
  obtain ⟨its, r, pl, hz⟩ := I.list (SqL.of e3)
  obtain ⟨u, ew, rw'⟩ := r.get e4
  exact wpAny_getItem_list pl.isList k0 (by omega) (by simpa using ew) ⟨v, H, I, rw', q⟩
theorem ri : (∀ C m sp E ta t σ H Q, tMth C m sp E ta t σ H Q = ta σ H fun x H1 => ∃ a dx fs, x = .ref a ∧ H1 a = some (.ins C dx fs) ∧ fs.lookup m = none ∧ t σ H1 fun vs H2 => sp (x :: vs) H2 Q E) ∧
    (∀ C m sp E ta t σ H Q, tMthS C m sp E ta t σ H Q = ta σ H fun x H1 => ∃ a dx fs, x = .ref a ∧ H1 a = some (.ins C dx fs) ∧ fs.lookup m = none ∧ t σ H1 fun vs H2 => sp (x :: vs) H2 Q (E σ)) ∧
    (∀ C sp E t σ H Q, tMak C sp E t σ H Q = t σ H fun vs H1 => ∀ x dx, H1 x = none → H1 dx = none → dx ≠ x → sp (.ref x :: vs) (upd (upd H1 dx (.own x)) x (.ins C dx [])) (fun v H2 => v = .non ∧ Q (.ref x) H2) E) ∧
    (∀ C sp E t σ H Q, tMakS C sp E t σ H Q = t σ H fun vs H1 => ∀ x dx, H1 x = none → H1 dx = none → dx ≠ x → sp (.ref x :: vs) (upd (upd H1 dx (.own x)) x (.ins C dx [])) (fun v H2 => v = .non ∧ Q (.ref x) H2) (E σ)) ∧
    (∀ C ta f σ H Q, tFldC C ta f σ H Q = ta σ H fun x H1 => ∃ a dx fs v, x = .ref a ∧ H1 a = some (.ins C dx fs) ∧ fs.lookup f = some v ∧ Q v H1) ∧
    (∀ C ta tv f D σ H, sFldC C ta tv f D σ H = tv σ H fun y H1 => ta σ H1 fun x H2 => ∃ a dx fs, x = .ref a ∧ H2 a = some (.ins C dx fs) ∧ fs.length < 1000 ∧ D.nx σ (upd H2 a (.ins C dx (putF f y fs)))) ∧
    (∀ to ti te tg tp ts D σ H, tAugS to ti te tg tp ts D σ H = to σ H fun o H1 => ti σ H1 fun i H2 => tg o i H2 fun x H3 => te σ H3 fun y H4 => tp x y H4 fun z H5 => ts o i z H5 fun H6 => D.nx σ H6) ∧
    (∀ f i y H Q, ipI f (.int i) y H Q = ∃ j, y = .int j ∧ Q (.int (f i j)) H) ∧
    (∀ p i H Q, rGetL (.ref p) (.int i) H Q = ∃ xs v, H p = some (.lst xs) ∧ (0 ≤ i ∧ i < 2 ^ 62) ∧ xs[i.toNat]? = some v ∧ Q v H) := by
  refine ⟨?_, ?_, ?_, ?_, ?_, ?_, ?_, ?_, ?_⟩
  iterate 7 (intros; rfl)
  · intro f i y H Q
    exact propext ⟨fun ⟨_, j, e1, e2, q⟩ => ⟨j, e2, by cases e1; exact q⟩, fun ⟨j, e, q⟩ => ⟨i, j, rfl, e, q⟩⟩
  · intro p i H Q
    exact propext ⟨fun ⟨_, xs, _, v, e1, e2, e3, e4, e5, q⟩ => (by cases e1; cases e2; exact ⟨xs, v, e3, e4, e5, q⟩), fun ⟨xs, v, e3, e4, e5, q⟩ => ⟨p, xs, i, v, rfl, rfl, e3, e4, e5, q⟩⟩
end Sw

/-! Errors of the program's own as values: made, asked for their class, for a field. -/
namespace Sw
open PySem PySem.Spec PyProof.Rows L2
/-- C(e, ..): the error stays a value -/
def tMkV (C : Addr) (sp : Sp) (ta : TA) : TE := fun σ H Q => ta σ H fun vs H1 => vs.length ≤ 1000 ∧ ∀ a, H1 a = none → sp (.ref a :: vs) (upd H1 a (exo a C none)) (fun v H2 => v = .non ∧ Q (.ref a) H2) (fun _ _ _ => False)
section
variable {X : Cx} {k : Nat} {x f : Str} {e : Expr} {es : List Expr} {ta : TA} {te : TE} {p pos : Pos}
theorem run_mkV {C fI : Addr} {fd : FuncData} {ps : List Str} {sp : Sp} {pins : List (Addr × Obj)} {σ : L2.St} {H1 : Hp} {s1 : Shared} {Q : VK} {us : List Value} {vs : List V} (T : OexC X.K C) (iC : PySem.W.findIn X.K (.ref C) "__init__" = some (some (.ref fI))) (tI : PySem.W.typeIn X.K (.ref fI) = some (.type "function"))
    (F1 : FnOk X.prog X.w X.K X.mg X.base (L2.CX X.prog X.w) k fI fd ps sp) (hr : Room (k + 1) X.A) (hb : Binds X.K fd ps []) (I1 : Inv X pins σ H1 s1) (r1 : Vals vs us) (hz : vs.length ≤ 1000)
    (q1 : ∀ a, H1 a = none → sp (.ref a :: vs) (upd H1 a (exo a C none)) (fun v H2 => v = .non ∧ Q (.ref a) H2) (fun _ _ _ => False)) :
    wpAny (model X.prog X.w) X.A (call (.ref C) us) (EP X pins σ Q) X.xe s1 := by
  obtain ⟨nm, q, N, bs, bm, sn, sub, ab, col, dd, k0, k1, k2, k3, k5, hC, hbm⟩ := T.cls
  obtain ⟨hp, g, dr, tk, os⟩ := s1
  have hsz : hp.objs.size ≤ hp.objs.size + 1 := Nat.le_succ _
  have hn : H1 (hp.objs.size + 1) = none := I1.hok.fresh hsz
  have hq := q1 (hp.objs.size + 1) hn
  have kk : ∀ b o, hp.get? b = some o → ((hp.push (PySem.W.kdv_tup us)).push (PySem.HandSPX.excO C hp.objs.size)).get? b = some o := fun b o e => Heap.get?_push_of_some _ (Heap.get?_push_of_some _ e)
  have hget : ((hp.push (PySem.W.kdv_tup us)).push (PySem.HandSPX.excO C hp.objs.size)).get? (hp.objs.size + 1) = some (PySem.HandSPX.excO C hp.objs.size) := by heap_get
  have I2 : Inv X pins σ (upd H1 (hp.objs.size + 1) (exo (hp.objs.size + 1) C none)) ⟨(hp.push (PySem.W.kdv_tup us)).push (PySem.HandSPX.excO C hp.objs.size), g, dr, tk, os⟩ :=
    I1.laid (t' := tk) (a := hp.objs.size + 1) (o := exo (hp.objs.size + 1) C none) (h' := (hp.push (PySem.W.kdv_tup us)).push (PySem.HandSPX.excO C hp.objs.size)) kk hsz (exo_ok hget)
  have r2 : Vals (V.ref (hp.objs.size + 1) :: vs) (Value.ref (hp.objs.size + 1) :: us) := .cons rfl r1
  have hl : (Value.ref (hp.objs.size + 1) :: us).length = ps.length := by
    have e := r2.length
    rw [F1.len _ _ _ _ hq] at e
    exact e.symm
  have hus : us.length ≤ sizeLine := by
    rw [← Paired.length r1, sizeLine_eq]
    omega
  refine wpAny_call (PySem.HandSPX.call_own F.excBase_ValueError (fun Y => PySem.HandSPX.refsVE_contains Y bm hbm) (I1.kIn _ _ hC) (PySem.W.looks_findIn I1.kIn iC) (fun self => PySem.W.bind_fn I1.kIn self tI) hus
    (codeAny_mono (F1.run _ X.stack _ _ ⟨Value.ref (hp.objs.size + 1) :: us, []⟩ (Value.ref (hp.objs.size + 1) :: us) _ _ (fun _ _ _ => False) (hr.make C us []) (I2.env0.make C us [])
      (by have := hb _ (Value.ref (hp.objs.size + 1) :: us) I2.kIn (by rw [List.append_nil]; exact hl); rw [List.append_nil] at this; exact this) r2 hq) fun r s' hq' => ?_))
  cases r with
  | error er => exact passL pins σ _ _ er s' I2 hq'
  | ok fl =>
    cases fl with
    | ret u =>
      obtain ⟨v, H', I3, rv, ev, q3⟩ := I2.after hq'
      subst ev
      exact ⟨rv, ⟨V.ref (hp.objs.size + 1), H', I3, rfl, q3⟩⟩
    | next => exact False.elim hq'
    | brk => exact False.elim hq'
    | cont => exact False.elim hq'
/-- C(e), one field -/
def tMk1V (C : Addr) (f : Str) (ta : TA) : TE := fun σ H Q => ta σ H fun vs H1 => ∃ v, vs = [v] ∧ ∀ a d, H1 a = none → H1 d = none → d ≠ a → Q (.ref a) (upd (upd H1 d (exd d [(f, v)])) a (exo a C (some d)))
theorem pe_mk1V (T : Exn X.prog X.w X.K X.mg X.base x f) (hr : Room k X.A) (hk : 3 ≤ k) (hg : Gl X x) (ha : PA X (e :: es) ta)
    (hdb : (x == ("__debug__" : Str)) = false := by decide) (he : starEach (e :: es) X.env = (false, eval e X.env) :: starEach es X.env := by rfl) (hpl : (backTo pos (starEach es X.env)).any (·.1) = false := by rfl) :
    PE X (.Call (.Name x p) (e :: es) [] pos) (tMk1V (He.ga X.K x) f ta) := by
  obtain ⟨fI, fd, iC, tI, F, b⟩ := T.ini
  refine ⟨fun pins s σ H Q I h => ?_⟩
  refine wpAny_Call_Name_kw (ld_glob I hg T.at_ ?_ hdb)
  refine PySem.W.callWith_K (h₀ := X.base) I.ok.mod.kin T.c.ox.kC (thn (ha.run pos pins s σ H _ I h) fun us s1 ⟨vs, H1, I1, r1, v, ev, q⟩ => ⟨I1.kIn, ?_⟩) he hpl
  subst ev
  refine run_mkV T.c.ox iC tI F (hr.mono hk) b I1 r1 (by show 1 ≤ 1000; decide) fun a na => ⟨a, v, rfl, upd_same, fun d nd ne => ⟨rfl, ?_⟩⟩
  rw [upd_ne ne] at nd
  have e2 : upd (upd (upd H1 a (exo a (He.ga X.K x) none)) d (exd d [(f, v)])) a (exo a (He.ga X.K x) (some d)) = upd (upd H1 d (exd d [(f, v)])) a (exo a (He.ga X.K x) (some d)) := by
    funext c
    by_cases h1 : c = a
    · rw [h1, upd_same, upd_same]
    · rw [upd_ne h1, upd_ne h1]
      by_cases h2 : c = d
      · rw [h2, upd_same, upd_same]
      · rw [upd_ne h2, upd_ne h2, upd_ne h1]
  rw [e2]
  exact q a d na nd ne
/-! ### isinstance, of such a value -/
def Xo (H : Hp) (a C : Addr) : Prop := H a = some (exo a C none) ∨ H a = some (ExO (.ref C) a) ∨ ∃ dx fs, H a = some (exo a C (some dx)) ∧ H dx = some (exd dx fs)
def rIsV (K : Fg) : List V → Hp → VK → Prop := fun xs H Q => ∃ (a D : Addr) (c : V) (cv : Value) (b : Bool), xs = [.ref a, c] ∧ ClsV c cv ∧ ExC K D ∧ Xo H a D ∧ PySem.W.kitOne K (.ref D) cv = some b ∧ Q (.bl b) H
theorem call_isV : CallR X (.builtin "isinstance") (rIsV X.K) := by
  intro pins s σ H xs us Q I r h
  obtain ⟨a, D, c, cv, b, rfl, hcv, C, hx, e, q⟩ := h
  cases r with
  | cons r1 r2 =>
    cases r2 with
    | cons r3 r4 =>
      cases r4
      cases r1
      have ec := hcv.eq r3
      subst ec
      rcases hx with ha | ha | ⟨dx, fs, ha, hd⟩
      · obtain ⟨t1, hget⟩ := exo_at I.hok ha
        have J : PySem.W.InstAt s.heap a _ D none := ⟨hget, rfl, rfl, trivial⟩
        exact PySem.W.kia_one (PySem.W.sw_kitE C.xf.ga C.xf.gg C.xf.exC C.xf.hdC C.cc C.gs C.tk C.mo) I.kIn J e (fun z => nomatch z) fun tk => ⟨.bl b, H, I.kept (t' := tk) fun _ _ z => z, rfl, q⟩
      · obtain ⟨⟨oe, vs, hget, hz, hv, _⟩, _, _⟩ := I.hok a _ ha
        have J : PySem.W.InstAt s.heap a oe D none := by
          obtain ⟨oc, od, oda, osl⟩ := oe
          obtain ⟨h1, h2⟩ := hz
          dsimp only at h1 h2 hv
          subst h1 h2 hv
          exact ⟨hget, rfl, rfl, trivial⟩
        exact PySem.W.kia_one (PySem.W.sw_kitE C.xf.ga C.xf.gg C.xf.exC C.xf.hdC C.cc C.gs C.tk C.mo) I.kIn J e (fun z => nomatch z) fun tk => ⟨.bl b, H, I.kept (t' := tk) fun _ _ z => z, rfl, q⟩
      · obtain ⟨t1, hget⟩ := exo_at I.hok ha
        obtain ⟨mA, hns, _⟩ := exd_at I.hok hd
        obtain ⟨od, ho, _⟩ := lookIn_ns hns
        have J : PySem.W.InstAt s.heap a _ D (some od) := ⟨hget, rfl, rfl, ho⟩
        exact PySem.W.kia_one (PySem.W.sw_kitE C.xf.ga C.xf.gg C.xf.exC C.xf.hdC C.cc C.gs C.tk C.mo) I.kIn J e (fun z => nomatch z) fun tk => ⟨.bl b, H, I.kept (t' := tk) fun _ _ z => z, rfl, q⟩
/-- isinstance of such a value, or of any other kind -/
theorem is_qv : CallR X (.builtin "isinstance") (fun xs H Q => rIsQ xs H Q ∨ rIsV X.K xs H Q) := fun pins s σ H xs us Q I r h => h.elim (is_q pins s σ H xs us Q I r) (call_isV pins s σ H xs us Q I r)
/-! ### its fields -/
def tXfV (K : Fg) (te : TE) (f : Str) : TE := fun σ H Q => te σ H fun x H1 => ∃ (a D dx : Addr) (fs : List (Str × V)) (v : V), x = .ref a ∧ ExC K D ∧ PySem.W.findIn K (.ref D) f = some none ∧ H1 a = some (exo a D (some dx)) ∧ H1 dx = some (exd dx fs) ∧ fs.lookup f = some v ∧ Q v H1
theorem pe_xfV (he : PE X e te) (hb : attributeBase e f X.env (eval e X.env) = eval e X.env := by rfl) : PE X (.Attribute e f pos) (tXfV X.K te f) := by
  refine ⟨fun pins s σ H Q I h => ?_⟩
  refine attr_of hb (thn (he.run pins s σ H _ I h) fun u s1 ⟨x, H1, I1, rx, a, D, dx, fs, v, ex, T, hno, ha, hd, l, q⟩ => ?_)
  subst ex
  obtain rfl : u = Value.ref a := rx
  obtain ⟨t1, hget⟩ := exo_at I1.hok ha
  obtain ⟨mA, hns, hr⟩ := exd_at I1.hok hd
  obtain ⟨od, ho, hl⟩ := lookIn_ns hns
  obtain ⟨u, hu, ru⟩ := RelO.some_of (v := v) (o := mA f) (by rw [← l]; exact hr f)
  have J : PySem.W.InstAt s1.heap a _ D (some od) := ⟨hget, rfl, rfl, ho⟩
  exact HandSPX.exc_get I1.kIn J T.xf.ga T.xf.gg T.xf.exC (PySem.W.findObj_own T.xf.hdC hno rfl (by rw [hl, hu])) (handed_of ru) ⟨v, H1, I1.tok _, ru, q⟩
/-! ### classes with two fields, with none -/
structure ExnG (P : Program) (w : World) (K : Fg) (mg : Str → Option Value) (base : Heap) (j : Nat) (x : Str) (ps : List Str) (sp : Sp) : Prop where
  at_ : mg x = some (.ref (He.ga K x))
  c : ExC K (He.ga K x)
  ini : ∃ (fI : Addr) (fd : FuncData), PySem.W.findIn K (.ref (He.ga K x)) "__init__" = some (some (.ref fI)) ∧ PySem.W.typeIn K (.ref fI) = some (.type "function") ∧ FnOk P w K mg base (L2.CX P w) j fI fd ps sp ∧ Binds K fd ps []
theorem pe_mkG {j : Nat} {ps : List Str} {sp : Sp} (T : ExnG X.prog X.w X.K X.mg X.base j x ps sp) (hr : Room k X.A) (hk : j + 1 ≤ k) (hg : Gl X x) (ha : PA X (e :: es) ta)
    (hdb : (x == ("__debug__" : Str)) = false := by decide) (he : starEach (e :: es) X.env = (false, eval e X.env) :: starEach es X.env := by rfl) (hpl : (backTo pos (starEach es X.env)).any (·.1) = false := by rfl) :
    PE X (.Call (.Name x p) (e :: es) [] pos) (tMkV (He.ga X.K x) sp ta) := by
  obtain ⟨fI, fd, iC, tI, F, b⟩ := T.ini
  refine ⟨fun pins s σ H Q I h => ?_⟩
  refine wpAny_Call_Name_kw (ld_glob I hg T.at_ ?_ hdb)
  exact PySem.W.callWith_K (h₀ := X.base) I.ok.mod.kin T.c.ox.kC (thn (ha.run pos pins s σ H _ I h) fun us s1 ⟨vs, H1, I1, r1, hz, q⟩ => ⟨I1.kIn, run_mkV T.c.ox iC tI F (hr.mono hk) b I1 r1 hz q⟩) he hpl
theorem pe_mkG0 {j : Nat} {ps : List Str} {sp : Sp} (T : ExnG X.prog X.w X.K X.mg X.base j x ps sp) (hr : Room k X.A) (hk : j + 1 ≤ k) (hg : Gl X x)
    (hdb : (x == ("__debug__" : Str)) = false := by decide) : PE X (.Call (.Name x p) [] [] pos) (tMkV (He.ga X.K x) sp tNil) := by
  obtain ⟨fI, fd, iC, tI, F, b⟩ := T.ini
  refine ⟨fun pins s σ H Q I h => ?_⟩
  refine wpAny_Call_Name_kw (ld_glob I hg T.at_ ?_ hdb)
  exact PySem.W.callWith_K0 I.kIn T.c.ox.kC (run_mkV (us := []) T.c.ox iC tI F (hr.mono hk) b I .nil h.1 h.2)
end
def ini0 (m : Str) (p1 p2 p3 p4 p5 p6 : Pos) (j : Nat) : List Stmt := [.Expr (.Call (.Attribute (.Name "SeedError" p1) "__init__" p2) [.Name "self" p3, .Constant (.str m) j p4] [] p5) p6]
def spIni0 (C : Addr) : Sp := fun vs H Q _ => ∃ a : Addr, vs = [.ref a] ∧ H a = some (exo a C none) ∧ Q .non H
def ini2 (m f g : Str) (p1 p2 p3 p4 p5 p6 p7 p8 p9 p10 q7 q8 q9 q10 : Pos) (j : Nat) : List Stmt :=
  [.Expr (.Call (.Attribute (.Name "SeedError" p1) "__init__" p2) [.Name "self" p3, .Constant (.str m) j p4] [] p5) p6, .Assign [.Attribute (.Name "self" p7) f p8] (.Name f p9) p10, .Assign [.Attribute (.Name "self" q7) g q8] (.Name g q9) q10]
def spIni2 (C : Addr) (f g : Str) : Sp := fun vs H Q _ => ∃ (a : Addr) (v u : V), vs = [.ref a, v, u] ∧ H a = some (exo a C none) ∧ ∀ d, H d = none → d ≠ a → Q .non (upd (upd H d (exd d [(g, u), (f, v)])) a (exo a C (some d)))
section
variable {P : Program} {w : World} {K : Fg} {mg : Str → Option Value} {base : Heap} {C Cs fI : Addr} {f g m qual : Str} {params : Arguments} {body : List Stmt} {scope : Scope} {fd : FuncData} {p1 p2 p3 p4 p5 p6 p7 p8 p9 p10 q7 q8 q9 q10 : Pos} {j : Nat}
theorem ok_ini0 (F : FunD K "__init__" qual params body scope [] [] fI fd) (S : FnScope ["self"] ["self"] scope) (hb : body = ini0 m p1 p2 p3 p4 p5 p6 j)
    (l1 : scope.names.lookup ("self" : Str) = some .local) (l3 : scope.names.lookup ("SeedError" : Str) = some .globalImplicit) (hl : (p2.endLine == p5.line) = true)
    (T : ExC K C) (I0 : IniC K Cs) (gS : mg "SeedError" = some (.ref Cs)) : FnOk P w K mg base (L2.CX P w) 2 fI fd ["self"] (spIni0 C) := by
  subst hb
  refine F.ok S (fun vs H Q E h => ?_) (fun cdv A outer s H vs Q E hr h => ?_)
  · obtain ⟨a, rfl, _⟩ := h
    rfl
  · obtain ⟨a, rfl, ha, k⟩ := h
    refine ⟨_, pss_one (ps_expr (pe_sinit I0 l3 gS (pa_cons (pv 0 (hv := .inl l1)) (pa_cons pe_str pa_nil)) (hl := hl))), ?_⟩
    simp only [rst, rs, re, ra, ro, List.getElem?_cons_zero, List.getElem?_cons_succ, Option.some.injEq, exists_eq_left', exists_eq_left, exists_and_left, exists_eq, exists_eq', List.cons.injEq, V.ref.injEq]
    exact ⟨a, C, [.str m], ⟨rfl, rfl⟩, (by show 1 ≤ 1000; decide), T.ox, ha, k⟩
theorem ok_ini2 (F : FunD K "__init__" qual params body scope [] [] fI fd) (S : FnScope ["self", f, g] ["self", f, g] scope) (hb : body = ini2 m f g p1 p2 p3 p4 p5 p6 p7 p8 p9 p10 q7 q8 q9 q10 j)
    (l1 : scope.names.lookup ("self" : Str) = some .local) (l2 : scope.names.lookup f = some .local) (l4 : scope.names.lookup g = some .local) (l3 : scope.names.lookup ("SeedError" : Str) = some .globalImplicit) (hdb : (f == ("__debug__" : Str)) = false) (hcd : (f == ("__classdict__" : Str)) = false)
    (hdb2 : (g == ("__debug__" : Str)) = false) (hcd2 : (g == ("__classdict__" : Str)) = false) (hl : (p2.endLine == p5.line) = true)
    (T : ExC K C) (I0 : IniC K Cs) (gS : mg "SeedError" = some (.ref Cs)) (hno : PySem.W.findIn K (.ref C) f = some none) (hno2 : PySem.W.findIn K (.ref C) g = some none) : FnOk P w K mg base (L2.CX P w) 2 fI fd ["self", f, g] (spIni2 C f g) := by
  subst hb
  refine F.ok S (fun vs H Q E h => ?_) (fun cdv A outer s H vs Q E hr h => ?_)
  · obtain ⟨a, v, u, rfl, _⟩ := h
    rfl
  · obtain ⟨a, v, u, rfl, ha, k⟩ := h
    refine ⟨_, pss_cons (ps_expr (pe_sinit I0 l3 gS (pa_cons (pv 0 (hv := .inl l1)) (pa_cons pe_str pa_nil)) (hl := hl))) (pss_cons (ps_ost (pv 0 (hv := .inl l1)) (pv 1 (hv := .inl l2) (hd := hdb) (hcd := hcd))) (pss_one (ps_ost (pv 0 (hv := .inl l1)) (pv 2 (hv := .inl l4) (hd := hdb2) (hcd := hcd2))))), ?_⟩
    simp only [rst, rs, re, ra, ro, List.getElem?_cons_zero, List.getElem?_cons_succ, Option.some.injEq, exists_eq_left', exists_eq_left, exists_and_left, exists_eq, exists_eq', List.cons.injEq, V.ref.injEq]
    refine ⟨a, C, [.str m], ⟨rfl, rfl⟩, (by show 1 ≤ 1000; decide), T.ox, ha, C, T.ox, hno, .inl ⟨ha, fun d hd hn => ⟨C, T.ox, hno2, .inr ⟨d, upd_same, [(f, v)], by rw [upd_ne hn, upd_same], (by show 1 ≤ 900; decide), ?_⟩⟩⟩⟩
    have e2 : upd (upd (upd H d (exd d [(f, v)])) a (exo a C (some d))) d (exd d [(g, u), (f, v)]) = upd (upd H d (exd d [(g, u), (f, v)])) a (exo a C (some d)) := by
      funext c
      by_cases h1 : c = d
      · rw [h1, upd_same, upd_ne hn, upd_same]
      · rw [upd_ne h1]
        by_cases h2 : c = a
        · rw [h2, upd_same, upd_same]
        · rw [upd_ne h2, upd_ne h2, upd_ne h1, upd_ne h1]
    rw [e2]
    exact k d hd hn
end
theorem rv : (∀ C f ta σ H Q, tMk1V C f ta σ H Q = ta σ H fun vs H1 => ∃ v, vs = [v] ∧ ∀ a d, H1 a = none → H1 d = none → d ≠ a → Q (.ref a) (upd (upd H1 d (exd d [(f, v)])) a (exo a C (some d)))) ∧
    (∀ C sp ta σ H Q, tMkV C sp ta σ H Q = ta σ H fun vs H1 => vs.length ≤ 1000 ∧ ∀ a, H1 a = none → sp (.ref a :: vs) (upd H1 a (exo a C none)) (fun v H2 => v = .non ∧ Q (.ref a) H2) (fun _ _ _ => False)) ∧
    (∀ K te f σ H Q, tXfV K te f σ H Q = te σ H fun x H1 => ∃ (a D dx : Addr) (fs : List (Str × V)) (v : V), x = .ref a ∧ ExC K D ∧ PySem.W.findIn K (.ref D) f = some none ∧ H1 a = some (exo a D (some dx)) ∧ H1 dx = some (exd dx fs) ∧ fs.lookup f = some v ∧ Q v H1) := ⟨fun _ _ _ _ _ _ => rfl, fun _ _ _ _ _ _ => rfl, fun _ _ _ _ _ _ => rfl⟩
/-! ### kinds of plain values, in every heap -/
theorem kb (b : Bool) (H : Hp) : isB H (.bl b) "bool" = some true ∧ isB H (.bl b) "int" = some true ∧ isB H (.bl b) "str" = some false ∧ isB H (.bl b) "list" = some false ∧ isB H (.bl b) "tuple" = some false ∧ isB H (.bl b) "dict" = some false := by
  have e : tyN H (.bl b) = some "bool" := rfl
  simp only [isB, e, Option.bind_some, kitB_all, and_self]
theorem ki (i : Int) (H : Hp) : isB H (.int i) "bool" = some false ∧ isB H (.int i) "int" = some true ∧ isB H (.int i) "str" = some false ∧ isB H (.int i) "list" = some false ∧ isB H (.int i) "tuple" = some false ∧ isB H (.int i) "dict" = some false := by
  have e : tyN H (.int i) = some "int" := rfl
  simp only [isB, e, Option.bind_some, kitB_all, and_self]
theorem ks (z : Str) (H : Hp) : isB H (.str z) "bool" = some false ∧ isB H (.str z) "int" = some false ∧ isB H (.str z) "str" = some true ∧ isB H (.str z) "list" = some false ∧ isB H (.str z) "tuple" = some false ∧ isB H (.str z) "dict" = some false := by
  have e : tyN H (.str z) = some "str" := rfl
  simp only [isB, e, Option.bind_some, kitB_all, and_self]
theorem kn (H : Hp) : isB H .non "bool" = some false ∧ isB H .non "int" = some false ∧ isB H .non "str" = some false ∧ isB H .non "list" = some false ∧ isB H .non "tuple" = some false ∧ isB H .non "dict" = some false := by
  have e : tyN H .non = some "NoneType" := rfl
  simp only [isB, e, Option.bind_some, kitB_all, and_self]
theorem kindB {H : Hp} {p : Addr} {o : HO} {xs : List V} (h : H p = some o) (e : seqO o = some xs) : isB H (.ref p) "bool" = some false ∧ isB H (.ref p) "int" = some false ∧ isB H (.ref p) "str" = some false ∧ isB H (.ref p) "dict" = some false ∧
    isB H (.ref p) "list" = some (!isT o) ∧ isB H (.ref p) "tuple" = some (isT o) := by
  have t : tyN H (.ref p) = some (if isT o = true then "tuple" else "list") := by
    rw [tyN, h, Option.bind_some]
    unfold seqO at e
    split at e <;> first | rfl | cases e
  cases z : isT o with
  | true =>
    rw [z, if_pos rfl] at t
    simp only [isB, t, Option.bind_some, kitB_all, and_self, Bool.not_true]
  | false =>
    rw [z, if_neg (by decide)] at t
    simp only [isB, t, Option.bind_some, kitB_all, and_self, Bool.not_false]
theorem kindD {H : Hp} {p : Addr} {ks : List (Key × V)} (h : H p = some (.dK ks)) : isB H (.ref p) "bool" = some false ∧ isB H (.ref p) "int" = some false ∧ isB H (.ref p) "str" = some false ∧ isB H (.ref p) "dict" = some true ∧
    isB H (.ref p) "list" = some false ∧ isB H (.ref p) "tuple" = some false := by
  have t : tyN H (.ref p) = some "dict" := by rw [tyN, h] <;> rfl
  simp only [isB, t, Option.bind_some, kitB_all, and_self]
/-- one sign of a text -/
theorem cutS_one {z : Str} {i : Nat} {c : Nat} (h : z.cps.toList[i]? = some c) : cutS z (some (i : Int)) (some ((i : Int) + 1)) = ⟨#[c]⟩ := by
  obtain ⟨h1, h2⟩ := List.getElem?_eq_some_iff.mp h
  have hl : z.length = z.cps.toList.length := by rw [Array.length_toList] <;> rfl
  have e1 : ((i : Int) + 1) = ((i + 1 : Nat) : Int) := by omega
  unfold cutS
  rw [e1, HT.sIx_nat, HT.sIx_nat, hl, Nat.min_eq_left (by omega), Nat.min_eq_left (by omega), List.drop_eq_getElem_cons h1, h2, show i + 1 - i = 1 by omega]
  rfl
/-! ### for k in a dict, locked -/
theorem LC.keys {d : Addr} {o : Obj} {kvs : List (Key × V)} {g : TG} {tt : TT} {te : TE} {vs : List Nat} {σ : L2.St} {H1 : Hp} {Q : VK} (Pv : Addr → Nat → Hp → Prop) (h0 : ∀ D, H1 D = none → Pv D 0 (upd H1 D (.lst [])))
    (hl : ∀ D i H, H1 D = none → Pv D i H → H d = some (.frz o (.dK kvs)))
    (hs : ∀ D i k v H, H1 D = none → kvs[i]? = some (k, v) → Pv D i H → g (kV k) (wipe σ vs) H fun σ2 H2 => wipe σ2 vs = wipe σ vs ∧ tt σ2 H2 fun b H3 => Be b (fun H3 => te σ2 H3 fun y H4 => ∃ acc, H4 D = some (.lst acc) ∧ acc.length < sizeLine ∧ Pv D (i + 1) (upd H4 D (.lst (acc ++ [y])))) (Pv D (i + 1)) H3)
    (hd : ∀ D H, H1 D = none → Pv D kvs.length H → Q (.ref D) H) : LC (Itk d o kvs) g tt te vs σ Q H1 := fun D nD => by
  refine ⟨fun i m H => m + i = kvs.length ∧ Pv D i H, ⟨kvs.length, rfl, h0 D nD⟩, fun i m H ⟨e, p⟩ => ?_⟩
  by_cases c : i < kvs.length
  · refine .inr ⟨⟨hl D i H nD p, c⟩, Pv D (i + 1), fun H' p' => ⟨m - 1, by omega, by omega, p'⟩, fun x H' ⟨e1, k, v, e2, e3⟩ => ?_⟩
    subst e1 e3
    exact hs D i k v H' nD e2 p
  · have e2 : i = kvs.length := by omega
    exact .inl ⟨⟨hl D i H nD p, by omega⟩, hd D H nD (e2 ▸ p)⟩
theorem rk : (∀ td σ H R, iKeys td σ H R = td σ H fun x H1 => ∃ d o, x = .ref d ∧ ((∃ kvs, H1 d = some (.frz o (.dK kvs)) ∧ R (Itk d o kvs) H1) ∨ ∃ kvs, H1 d = some (.frz o (.dT kvs)) ∧ R (Itkt d o kvs) H1)) ∧
    (∀ t σ H Q, tLockE t σ H Q = ∃ d u, H d = some u ∧ L2.Mut (some u) ∧ ∀ od, t σ (upd H d (.frz od u)) fun v H' => H' d = some (.frz od u) ∧ Q v (upd H' d u)) ∧
    (∀ td ty σ H Q, tDGet td ty σ H Q = td σ H fun x H1 => ty σ H1 fun y H2 => ∃ a v, x = .ref a ∧ DGet H2 a y (some v) ∧ Q v H2) ∧
    (∀ ty td σ H Q, tDNotIn ty td σ H Q = ty σ H fun y H1 => td σ H1 fun x H2 => ∃ a o, x = .ref a ∧ DGet H2 a y o ∧ Q (.bl (!o.isSome)) H2) ∧
    (∀ ty td σ H Q, tDIn ty td σ H Q = ty σ H fun y H1 => td σ H1 fun x H2 => ∃ a o, x = .ref a ∧ DGet H2 a y o ∧ Q (.bl o.isSome) H2) := ⟨fun _ _ _ _ => rfl, fun _ _ _ _ => rfl, fun _ _ _ _ _ => rfl, fun _ _ _ _ _ => rfl, fun _ _ _ _ _ => rfl⟩
theorem rdd : (∀ trs σ H Q, tDisp trs σ H Q = ∀ p, H p = none → tPairs trs σ (upd H p (.dK [])) fun ps H2 => H2 p = some (.dK []) ∧ ∃ kvs : List (Key × V), ps = kvs.map (fun kv => (kV kv.1, kv.2)) ∧ kvs.length ≤ 15 ∧ Q (.ref p) (upd H2 p (.dK (mergeK [] kvs)))) ∧
    (∀ σ H Q, tPairs [] σ H Q = Q [] H) ∧ (∀ tk tv r σ H Q, tPairs ((tk, tv) :: r) σ H Q = tk σ H fun x H1 => tv σ H1 fun y H2 => tPairs r σ H2 fun ps H3 => Q ((x, y) :: ps) H3) := ⟨fun _ _ _ _ => rfl, fun _ _ _ => rfl, fun _ _ _ _ _ _ => rfl⟩
end Sw

/-! Several clauses 'except C as e', e the same slot in each. -/
namespace Sw
open PySem PySem.Spec PyProof.Rows L2
/-- what the named clauses wish, in their order -/
def wAses (K : Fg) (i : Nat) (Wz : WX) (D : Ends) : List (Value × Bool × (Addr → Value → Option Addr → TS)) → WX
  | [] => Wz
  | (cl, false, t) :: r => fun cls d σ H => ∃ yes, PySem.W.exmOne K cls cl = some yes ∧ (yes = true → ∀ z, H z = none → t z cls d D σ H) ∧ (yes = false → wAses K i Wz D r cls d σ H)
  | (cl, true, t) :: r => fun cls d σ H => ∃ yes, PySem.W.exmOne K cls cl = some yes ∧ (yes = true → ∀ z, H z = none → t z cls d { nx := fun τ G => D.nx (τ.set i none) G, rt := D.rt, bk := fun τ G => D.bk (τ.set i none) G, ct := fun τ G => D.ct (τ.set i none) G } (σ.set i (some (.ref z))) H) ∧ (yes = false → wAses K i Wz D r cls d σ H)
inductive Clauses (X : Cx) (n : Str) : List ExceptHandler → List (Value × Bool × (Addr → Value → Option Addr → TS)) → Prop
  | nil : Clauses X n [] []
  | cons {x : Str} {cl : Value} {t : Addr → Value → Option Addr → TS} {b : Stmt} {bs : List Stmt} {p1 p2 : Pos} {hs : List ExceptHandler} {l : List (Value × Bool × (Addr → Value → Option Addr → TS))} : Names X x cl →
      (∀ (z : Addr) (ob : Obj) (cls : Value) (d : Option Addr) (pn : List (Addr × Obj)), Zc cls d ob → (∃ vs, ob.data = .fields vs) → PSs (X.suite z ((z, ob) :: pn)) (b :: bs) (t z cls d)) → Clauses X n hs l →
      Clauses X n (.ExceptHandler (some (.Name x p1)) (some n) (b :: bs) p2 :: hs) ((cl, true, t) :: l)
  | bare {x : Str} {cl : Value} {t : Addr → Value → Option Addr → TS} {b : Stmt} {bs : List Stmt} {p1 p2 : Pos} {hs : List ExceptHandler} {l : List (Value × Bool × (Addr → Value → Option Addr → TS))} : Names X x cl →
      (∀ (z : Addr) (ob : Obj) (cls : Value) (d : Option Addr) (pn : List (Addr × Obj)), Zc cls d ob → (∃ vs, ob.data = .fields vs) → PSs (X.suite z ((z, ob) :: pn)) (b :: bs) (t z cls d)) → Clauses X n hs l →
      Clauses X n (.ExceptHandler (some (.Name x p1)) none (b :: bs) p2 :: hs) ((cl, false, t) :: l)
section
variable {X : Cx} {n : Str} {i : Nat} {bd : List Stmt} {h1 : ExceptHandler} {hs : List ExceptHandler} {l : List (Value × Bool × (Addr → Value → Option Addr → TS))} {pos : Pos} {tb : WX → TS} {Wz : WX}
theorem ps_try_ases (st : X.stack = X.env :: X.outer) (fr : X.env.frame = some X.env.locals) (nd : X.N.Nodup) (at_ : X.N[i]? = some n) (lo : X.env.kindOf n = some .local) (tk : Takes X Wz)
    (hbd : ∀ (W : WX) (pn : List (Addr × Obj)) (xe : Value → Shared → Prop), Takes (X.tr pn xe) W → PassesOwn (model X.prog X.w) X.A X.env xe → PSs (X.tr pn xe) bd (tb W)) (cs : Clauses X n (h1 :: hs) l) :
    PS X (.Try bd (h1 :: hs) [] [] pos) (fun D σ H => tb (wAses X.K i Wz D l) D σ H) := by
  refine ⟨fun pins s σ H D I0 hyp => ?_⟩
  have okk := I0.ok
  have ffr : X.A.frames = some (X.env :: X.outer) := by rw [okk.frames, st]
  refine wpAny_Try_except (wpAny_mono ((hbd (wAses X.K i Wz D l) (X.pn ++ pins) (fun ev s1 => wpAny (model X.prog X.w) X.A (noteFrame ev X.env) (fun _ s2 => wpAny (model X.prog X.w) X.A (setFlight ev none) (fun _ s3 =>
    wpAny (model X.prog X.w) X.A (handleBy ev X.env (h1 :: hs)) (SP X pins D) X.xe s3) X.xe s2) X.xe s1) (fun ev s1 cought => ?_) PassesOwn.looking).run [] s σ H D (I0.toTry _) hyp) (fun fl s1 endd => ?_) (fun _ _ out => out))
  · obtain ⟨z, B, sI, pins2, τ, G, cls, d, rfl, JJ, nb, up, sky, nz, hos, hag, wish⟩ := cought
    have J := JJ.ofTry (X := X) (pins := pins) okk
    have skyy : Sky B (X.env :: X.outer) z (Zc cls d) X.env.locals s1.heap := by rw [← st]; exact sky
    show wpAny (model X.prog X.w) X.A (noteFrame (.ref z) X.env) _ _ _
    refine Sky.land Zc.steady ffr fr skyy fun g3 fly3 up3 => ?_
    have K3 : Inv X pins τ G { s1 with heap := g3 } := J.landed nb fly3.1 (up.trans up3) hos hag
    obtain ⟨o3, f3, e3, z3, d3⟩ := fly3.there
    have apart : z ∉ frs (X.env :: X.outer) := fun hm => by
      obtain ⟨_, o', e', no⟩ := fly3.2.2.1.mem hm
      rw [e3] at e'
      cases e'
      exact no _ d3
    have zl : z ≠ X.env.locals := fun q => apart (List.mem_filterMap.mpr ⟨X.env, List.mem_cons_self, by rw [fr, q]⟩)
    have zf : z ∉ X.fs := fun hm => by
      obtain ⟨v, hv, q⟩ := List.mem_filterMap.mp hm
      exact apart (List.mem_filterMap.mpr ⟨v, List.mem_cons_of_mem _ hv, q⟩)
    have S3 := K3.suite e3 d3 nz zl zf
    have walk : ∀ {hs' : List ExceptHandler} {l' : List (Value × Bool × (Addr → Value → Option Addr → TS))}, Clauses X n hs' l' → wAses X.K i Wz D l' cls d τ G → wpAny (model X.prog X.w) X.A (handleBy (.ref z) X.env hs') (SP X pins D) X.xe { s1 with heap := g3 } := by
      intro hs' l' hc
      induction hc with
      | nil =>
        intro wish
        refine wpAny_handleBy_nil ?_
        obtain ⟨_, _, _, o, vs, T, oT, _, ho, _, hd, hv, _⟩ := id fly3
        unfold PySem.passOn
        refine wpAny_bind (wpAny_field ho hd hv ?_)
        rw [if_neg (show ¬ ((Value.ref T == Value.none) = true) from by simp)]
        have last : wpAny (model X.prog X.w) X.A (setFlight (.ref z) X.env.frame) (fun _ s4 => wpAny (model X.prog X.w) X.A (throw (.ref z) : Sem Flow) (SP X pins D) X.xe s4) X.xe { s1 with heap := g3 } := by
          rw [fr]
          exact HandSPX.setFlight_upZ fly3 fun g4 hh4 up4 => wpAny_throw (tk _ _ ⟨z, B, sI, pins, τ, G, cls, d, rfl, J, nb, (up.trans up3).trans up4, .inr (.inr (by rw [st]; exact hh4)), nz, hos, hag, wish⟩)
        first
          | exact wpAny_bind (wpAny_pure (wpAny_bind last))
          | exact wpAny_bind last
      | @cons x cl t b bs p1 p2 hs2 l2 nm suite rest ih =>
        intro wish
        obtain ⟨yes, ask, onYes, onNo⟩ := wish
        refine wpAny_handleBy_cons (codeAny_handlers_test ?_) (by intro q; cases q)
        have kind : PySem.W.Looks (model X.prog X.w) g3 (typeOf (.ref z)) cls := fun A Q E s5 k q => wpAny_typeOf_ref (k _ _ e3) (by rw [z3.1]; exact q)
        have met := PySem.W.exm_one (M := model X.prog X.w) K3.kIn kind ask
        have tst : ∀ {Q E : Value → Shared → Prop}, Q cl { s1 with heap := g3 } → wpAny (model X.prog X.w) (X.A.mark (some (.ref z))) (eval (.Name x p1) X.env) Q E { s1 with heap := g3 } := fun {Q E} q => by
          obtain ⟨hg, hdb, hm | ⟨hm, hv, hn⟩⟩ := nm
          · exact ld_glob (X := X.suite z ((z, o3) :: (X.pn ++ pins))) S3 hg hm q hdb
          · exact ld_blt (X := X.suite z ((z, o3) :: (X.pn ++ pins))) S3 hg hm hv q hn hdb
        refine tst (met.here ?_)
        cases yes with
        | false => exact ih (onNo rfl)
        | true =>
          refine codeAny_handlers_suite_as (HandSPX.lands_againZ fly3 fun g4 fly4 up4 => ?_)
          have K4 : Inv X pins τ G { s1 with heap := g4 } := J.landed nb fly4.1 ((up.trans up3).trans up4) hos hag
          obtain ⟨o4, f4, e4, z4, d4⟩ := fly4.there
          have S4 := K4.suite e4 d4 nz zl zf
          refine store_ok (X := X.suite z ((z, o4) :: (X.pn ++ pins))) (v := .ref z) S4 nd at_ (.inl lo) rfl (fun s5 S5 => ?_) (.inr lo)
          refine wpAny_mono ((suite z o4 cls d (X.pn ++ pins) z4 ⟨_, d4⟩).run [] s5 _ G _ S5 (onYes rfl z nz)) (fun fl s6 endd => ?_) (fun _ _ q => q.elim)
          have gone : ∀ {τ6 : L2.St} {G6 : Hp} {Q : Shared → Prop}, Inv (X.suite z ((z, o4) :: (X.pn ++ pins))) [] τ6 G6 s6 → (∀ s7, Inv X pins (τ6.set i none) G6 s7 → Q s7) →
              wpAny (model X.prog X.w) X.A (do bindName X.env n .none; unbindBehindTheSuite X.env n p2) (fun _ s7 => Q s7) X.xe s6 := fun {τ6 G6 Q} S6 hq => gone_ok (S6.unsuite okk) nd at_ lo hq
          cases fl with
          | ret u =>
            obtain ⟨v6, τ6, G6, S6, r6, q6⟩ := endd
            exact gone S6 fun s7 J7 => ⟨_, _, _, J7, r6, q6⟩
          | next =>
            obtain ⟨τ6, G6, S6, q6⟩ := endd
            exact gone S6 fun s7 J7 => ⟨_, _, J7, q6⟩
          | brk =>
            obtain ⟨τ6, G6, S6, q6⟩ := endd
            exact gone S6 fun s7 J7 => ⟨_, _, J7, q6⟩
          | cont =>
            obtain ⟨τ6, G6, S6, q6⟩ := endd
            exact gone S6 fun s7 J7 => ⟨_, _, J7, q6⟩
      | @bare x cl t b bs p1 p2 hs2 l2 nm suite rest ih =>
        intro wish
        obtain ⟨yes, ask, onYes, onNo⟩ := wish
        refine wpAny_handleBy_cons (codeAny_handlers_test ?_) (by intro q; cases q)
        have kind : PySem.W.Looks (model X.prog X.w) g3 (typeOf (.ref z)) cls := fun A Q E s5 k q => wpAny_typeOf_ref (k _ _ e3) (by rw [z3.1]; exact q)
        have met := PySem.W.exm_one (M := model X.prog X.w) K3.kIn kind ask
        have tst : ∀ {Q E : Value → Shared → Prop}, Q cl { s1 with heap := g3 } → wpAny (model X.prog X.w) (X.A.mark (some (.ref z))) (eval (.Name x p1) X.env) Q E { s1 with heap := g3 } := fun {Q E} q => by
          obtain ⟨hg, hdb, hm | ⟨hm, hv, hn⟩⟩ := nm
          · exact ld_glob (X := X.suite z ((z, o3) :: (X.pn ++ pins))) S3 hg hm q hdb
          · exact ld_blt (X := X.suite z ((z, o3) :: (X.pn ++ pins))) S3 hg hm hv q hn hdb
        refine tst (met.here ?_)
        cases yes with
        | false => exact ih (onNo rfl)
        | true =>
          refine codeAny_handlers_suite (HandSPX.lands_againZ fly3 fun g4 fly4 up4 => ?_)
          have K4 : Inv X pins τ G { s1 with heap := g4 } := J.landed nb fly4.1 ((up.trans up3).trans up4) hos hag
          obtain ⟨o4, f4, e4, z4, d4⟩ := fly4.there
          refine wpAny_mono ((suite z o4 cls d (X.pn ++ pins) z4 ⟨_, d4⟩).run [] _ _ G _ (K4.suite e4 d4 nz zl zf) (onYes rfl z nz)) (fun fl s6 endd => ?_) (fun _ _ q => q.elim)
          cases fl with
          | ret u =>
            obtain ⟨v6, τ6, G6, S6, r6, q6⟩ := endd
            exact ⟨_, _, _, S6.unsuite okk, r6, q6⟩
          | next =>
            obtain ⟨τ6, G6, S6, q6⟩ := endd
            exact ⟨_, _, S6.unsuite okk, q6⟩
          | brk =>
            obtain ⟨τ6, G6, S6, q6⟩ := endd
            exact ⟨_, _, S6.unsuite okk, q6⟩
          | cont =>
            obtain ⟨τ6, G6, S6, q6⟩ := endd
            exact ⟨_, _, S6.unsuite okk, q6⟩
    exact walk cs wish
  · cases fl with
    | ret u =>
      obtain ⟨v, τ, G, JJ, r, q⟩ := endd
      exact ⟨v, τ, G, JJ.ofTry okk, r, q⟩
    | next =>
      obtain ⟨τ, G, JJ, q⟩ := endd
      exact wpAny_execs_nil ⟨τ, G, JJ.ofTry okk, q⟩
    | brk =>
      obtain ⟨τ, G, JJ, q⟩ := endd
      exact ⟨τ, G, JJ.ofTry okk, q⟩
    | cont =>
      obtain ⟨τ, G, JJ, q⟩ := endd
      exact ⟨τ, G, JJ.ofTry okk, q⟩
end
/-! ### isinstance(x, (A, B)), two built-in classes -/
def rIs2 : List V → Hp → VK → Prop := fun vs H Q => ∃ (x : V) (t : Addr) (A B : String) (a b : Bool), vs = [x, .ref t] ∧ H t = some (.tup [.ty A, .ty B]) ∧ isB H x A = some a ∧ isB H x B = some b ∧ Q (.bl (a || b)) H
theorem is_2 {X : Cx} : CallR X (.builtin "isinstance") rIs2 := fun pins s σ H xs us Q I r h => by
  obtain ⟨x, t, A, B, a, b, rfl, ht, ea, eb, q⟩ := h
  obtain ⟨n, e1, e2⟩ := Option.bind_eq_some_iff.mp ea
  obtain ⟨n', e3, e4⟩ := Option.bind_eq_some_iff.mp eb
  rw [e1] at e3
  cases e3
  refine call_isiT pins s σ H _ us Q I r ⟨x, t, [.ty A, .ty B], .type n, [.type A, .type B], a || b, rfl, ht, .cons (.ty A) (.cons (.ty B) .nil), tyN_ok e1, ?_, q⟩
  have k1 : PySem.W.kitOne X.K (.type n) (.type A) = some a := kit_ty e2
  have k2 : PySem.W.kitOne X.K (.type n) (.type B) = some b := kit_ty e4
  show (match PySem.W.kitOne X.K (.type n) (.type A) with
    | some true => some true
    | some false => PySem.W.kitAny X.K (.type n) [.type B]
    | none => none) = _
  rw [k1]
  cases a with
  | true => rfl
  | false =>
    show (match PySem.W.kitOne X.K (.type n) (.type B) with
      | some true => some true
      | some false => PySem.W.kitAny X.K (.type n) []
      | none => none) = _
    rw [k2]
    cases b <;> rfl
/-- d[k] = v in a dict; pop of a key -/
theorem rpd : (∀ td ty tv D σ H, sDPut td ty tv D σ H = tv σ H fun v H1 => td σ H1 fun x H2 => ty σ H2 fun y H3 => ∃ a H4, x = .ref a ∧ DPut H3 a y v H4 ∧ D.nx σ H4) := fun _ _ _ _ _ _ => rfl
/-- x != x, the same reference -/
def rNeS : R2 := fun x y H Q => (∃ a, x = .ref a ∧ y = .ref a) ∧ Q (.bl false) H
/-! ### small facts -/
theorem isB_same {H H' : Hp} (s : Same H H') {x : V} {T : String} {b : Bool} (h : isB H x T = some b) : isB H' x T = some b := by
  obtain ⟨n, e1, e2⟩ := Option.bind_eq_some_iff.mp h
  exact Option.bind_eq_some_iff.mpr ⟨n, tyN_same s e1, e2⟩
/-- a rest by a number below 2 ^ 64, times anything -/
theorem mod_mul (i j : Int) {m : Int} (h0 : 0 < m) (h1 : m < 2 ^ 64) : Sw.MulOk i (j % m) :=
  .inl (.inr ⟨Int.lt_of_lt_of_le (by decide) (Int.emod_nonneg j (by omega)), Int.lt_trans (Int.emod_lt_of_pos j h0) h1⟩)
theorem ixN_nat {n j : Nat} (h : j < n) : ixN n (j : Int) = some j := by
  unfold ixN
  rw [if_pos (by omega), if_pos (by omega)]
  rfl
theorem take_snoc {α : Type} : ∀ {l : List α} {i : Nat} {x : α}, l[i]? = some x → l.take (i + 1) = l.take i ++ [x]
  | [], i, x, h => by simp at h
  | a :: l, 0, x, h => by
    have e : a = x := by simpa using h
    rw [e]
    rfl
  | a :: l, i + 1, x, h => by
    show a :: l.take (i + 1) = a :: l.take i ++ [x]
    rw [take_snoc (l := l) (i := i) (by simpa using h)]
    rfl
theorem drop_at {α : Type} {l : List α} {i : Nat} {x : α} (h : l[i]? = some x) : l.drop i = x :: l.drop (i + 1) := by
  obtain ⟨h1, h2⟩ := List.getElem?_eq_some_iff.mp h
  rw [← h2]
  exact List.drop_eq_getElem_cons h1
theorem map_at {ns : List Int} {i : Nat} {x : V} (h : (ns.map V.int)[i]? = some x) : ∃ n, ns[i]? = some n ∧ x = .int n := by
  rw [List.getElem?_map] at h
  obtain ⟨n, e, rfl⟩ := Option.map_eq_some_iff.mp h
  exact ⟨n, e, rfl⟩
theorem small_mul {i j : Int} (h1 : -(2 ^ 64) < j) (h2 : j < 2 ^ 64) : Sw.MulOk i j := .inl (.inr ⟨h1, h2⟩)
theorem small_mul' {i j : Int} (h1 : -(2 ^ 64) < i) (h2 : i < 2 ^ 64) : Sw.MulOk i j := .inl (.inl ⟨h1, h2⟩)
end Sw

/-! A thing beside itself, of any kind; isinstance of a caught error by several classes; dicts. -/
namespace Sw
open PySem PySem.Spec PyProof.Rows L2
def rEqA (K : Fg) : R2 := fun x y H Q => rEqD K x y H Q ∨ rEqDA x y H Q
def rNeA (K : Fg) : R2 := fun x y H Q => rNeD K x y H Q ∨ rNeDA x y H Q
theorem op_eqA {X : Cx} (hu : X.A.units + 64 < cLine) : OpR X (compareOp .Eq) (rEqA X.K) := OpR.or (op_eqD hu) (op_eq_dictA (by omega))
theorem op_neA {X : Cx} (hu : X.A.units + 64 < cLine) : OpR X (compareOp .NotEq) (rNeA X.K) := OpR.or (op_neD hu) (op_ne_dictA (by omega))
/-- isinstance(e, (C1, C2, ..)), e the caught one -/
def rIsDT (K : Fg) (D a : Addr) (cls : Value) (d : Option Addr) : List V → Hp → VK → Prop := fun xs H Q => ∃ (tp : Addr) (cs : List V) (us : List Value) (dd : Addr) (fs : List (Str × V)) (b : Bool), xs = [.ref a, .ref tp] ∧ H tp = some (.tup cs) ∧ Paired ClsV cs us ∧ cls = .ref D ∧ d = some dd ∧ H dd = some (.xd fs) ∧ PySem.W.kitAny K (.ref D) us = some b ∧ Q (.bl b) H
theorem call_isDT {X : Cx} {a D : Addr} {cls : Value} {d : Option Addr} {oe : Obj} {pn : List (Addr × Obj)} (C : ExC X.K D) (hz : Zc cls d oe) (hf : ∃ vs, oe.data = .fields vs) : CallR (X.suite a ((a, oe) :: pn)) (.builtin "isinstance") (rIsDT X.K D a cls d) := by
  intro pins s σ H xs us Q I r h
  obtain ⟨tp, cs, ws, dd, fs, b, rfl, hT, k, rfl, rfl, hd, e, q⟩ := h
  cases r with
  | cons r1 r2 =>
    cases r2 with
    | cons r3 r4 =>
      cases r4
      cases r1
      rename_i u2
      cases (show u2 = Value.ref tp from r3)
      obtain ⟨hget, _⟩ := I.pin (a, oe) (List.mem_append.mpr (.inl List.mem_cons_self))
      obtain ⟨vs, hv⟩ := hf
      obtain ⟨mA, hns, _⟩ := (show ObjOk X.prog X.w H s.heap dd (.xd fs) from I.hok dd _ hd)
      obtain ⟨od, ho, _⟩ := lookIn_ns hns
      have J : PySem.W.InstAt s.heap a oe D (some od) := ⟨hget, hz.1, by unfold PySem.W.notCls; rw [hv] <;> rfl, by rw [hz.2]; exact ho⟩
      obtain ⟨_, its, rv, o, h1, h2, n, h3⟩ := (show ObjOk X.prog X.w H s.heap tp (.tup cs) from I.hok tp _ hT)
      have e3 := ClsV.all k rv
      subst e3
      obtain ⟨oc, od2, dt, sl⟩ := o
      simp only at h2 h3
      subst h2 h3
      exact PySem.W.kia_tup (PySem.W.sw_kitE C.xf.ga C.xf.gg C.xf.exC C.xf.hdC C.cc C.gs C.tk C.mo) I.kIn J h1 e (fun z => nomatch z) fun tk => ⟨.bl b, H, I.kept (t' := tk) fun _ _ z => z, rfl, q⟩
theorem isDT_ref {K : Fg} {D a tp d : Addr} {H : Hp} {fs : List (Str × V)} {Cs : List Addr} {b : Bool} {Q : VK} (hd : H d = some (.xd fs)) (ht : H tp = some (.tup (Cs.map V.ref))) (e : PySem.W.kitAny K (.ref D) (Cs.map Value.ref) = some b) (q : Q (.bl b) H) :
    rIsDT K D a (.ref D) (some d) [.ref a, .ref tp] H Q := ⟨tp, _, _, d, fs, b, rfl, ht, (by clear ht e; induction Cs with | nil => exact .nil | cons c r ih => exact .cons (.own c) ih), rfl, rfl, hd, e, q⟩
theorem rdp : (∀ td ty σ H Q, tDPop1 td ty σ H Q = td σ H fun x H1 => ∃ a, x = .ref a ∧ IsD H1 a ∧ ty σ H1 fun y H2 => ∃ kvs k v, H2 a = some (.dK kvs) ∧ y = kV k ∧ valV kvs k = some v ∧ Q v (upd H2 a (.dK (dropK kvs k)))) := fun _ _ _ _ _ => rfl
theorem rlu : (∀ K ta σ H R, iEnum K ta σ H R = ta σ H fun vs H1 => ∃ a xs, vs = [.ref a] ∧ SqL K H1 a xs ∧ R (Ite K a) H1) ∧ (∀ te σ H Q, tLstRg te σ H Q = te σ H fun a b H1 => RgOk a b ∧ ∀ q, H1 q = none → Q (.ref q) (upd H1 q (.lst (rgV a b)))) ∧
    (∀ x vs H Q, rPopAt x vs H Q = ∃ l xs i k y, x = .ref l ∧ vs = [.int i] ∧ H l = some (.lst xs) ∧ -(2 ^ 63) ≤ i ∧ i < 2 ^ 63 ∧ seqIndex? i xs.length = some k ∧ xs[k]? = some y ∧ Q y (upd H l (.lst (xs.eraseIdx k)))) ∧
    (∀ x vs H Q, rPop x vs H Q = ∃ l xs y, x = .ref l ∧ vs = [] ∧ H l = some (.lst xs) ∧ xs[xs.length - 1]? = some y ∧ Q y (upd H l (.lst xs.dropLast))) ∧
    (∀ x y H Q, rCat x y H Q = ∃ l b xs zs, x = .ref l ∧ y = .ref b ∧ H l = some (.lst xs) ∧ H b = some (.lst zs) ∧ xs.length + zs.length ≤ sizeLine ∧ ∀ p, H p = none → Q (.ref p) (upd H p (.lst (xs ++ zs)))) ∧
    (∀ x y H Q, rRep x y H Q = ∃ l k xs, x = .ref l ∧ y = .int k ∧ H l = some (.lst xs) ∧ -(2 ^ 63) ≤ k ∧ k < 2 ^ 63 ∧ xs.length * k.toNat ≤ sizeLine ∧ ∀ p, H p = none → Q (.ref p) (upd H p (.lst (List.replicate k.toNat xs).flatten))) ∧
    (∀ K x lo hi H Q, rSlL K x lo hi H Q = ∃ a xs, x = .ref a ∧ SqL K H a xs ∧ ∀ p, H p = none → Q (.ref p) (upd H p (.lst (cutV xs lo hi)))) ∧
    (∀ K vs H Q, rSum K vs H Q = ∃ (a : Addr) (ns : List Int), vs = [V.ref a] ∧ SqL K H a (ns.map V.int) ∧ Q (.int ns.sum) H) ∧
    (∀ K vs H Q, rAll K vs H Q = ∃ (a : Addr) (bs : List Bool), vs = [V.ref a] ∧ SqL K H a (bs.map V.bl) ∧ Q (.bl (bs.all id)) H) ∧
    (∀ td ty tv D σ H, sDPut td ty tv D σ H = tv σ H fun v H1 => td σ H1 fun x H2 => ty σ H2 fun y H3 => ∃ a H4, x = .ref a ∧ DPut H3 a y v H4 ∧ D.nx σ H4) := by
  refine ⟨?_, ?_, ?_, ?_, ?_, ?_, ?_, ?_, ?_, ?_⟩ <;> intros <;> rfl
/-- sum of a list or a tuple of ints -/
def rSumQ : List V → Hp → VK → Prop := fun vs H Q => ∃ (p : Addr) (o : HO) (ns : List Int), vs = [.ref p] ∧ H p = some o ∧ seqO o = some (ns.map V.int) ∧ Q (.int ns.sum) H
theorem sum_q {X : Cx} (hc : X.calm = true) : CallR X (.builtin "sum") rSumQ := by
  intro pins s σ H vs us Q I r h
  obtain ⟨p, o, ns, rfl, ho, hs, q⟩ := h
  rcases seqO_sq (K := X.K) ho hs with l | l
  · exact cr_sum hc pins s σ H _ us Q I r ⟨p, ns, rfl, l, q⟩
  · obtain ⟨its, rv, ht, hz⟩ := I.tuple l
    rw [Vals.ref1 r]
    have hi := rv.ints
    obtain ⟨xs, e⟩ := hi.allInts.items
    have hn : numsOf (intItems xs).toList = ns := by rw [← e]; exact hi.numsOf
    rw [nums_intItems] at hn
    have ht2 : s.heap.IsTuple p its.toArray := ht
    rw [e] at ht2
    refine PySem.W.ktm_sumG (I.ok.hd hc) ht2 fun h' tk t' hk => ?_
    rw [preSum_eq, List.take_of_length_le (by simp), hn]
    exact ⟨.int _, H, I.kept hk, ⟨_, rfl⟩, q⟩
theorem rsq : (∀ vs H Q, rSumQ vs H Q = ∃ (p : Addr) (o : HO) (ns : List Int), vs = [.ref p] ∧ H p = some o ∧ seqO o = some (ns.map V.int) ∧ Q (.int ns.sum) H) := fun _ _ _ => rfl
theorem FI.enum {K : Fg} {a : Addr} {xs : List V} {i j : Nat} {tb : TS} {D : Ends} {σ : L2.St} {H : Hp} (Pv : Nat → L2.St → Hp → Prop) (h0 : Pv 0 σ H) (hq : ∀ i σ H, Pv i σ H → SqL K H a xs)
    (hs : ∀ (n : Nat) (x : V) (T : Addr) (σ : L2.St) (H : Hp), xs[n]? = some x → Pv n σ H → H T = none → tb ⟨Pv (n + 1), D.rt, D.nx, Pv (n + 1)⟩ ((σ.set i (some (.int (n : Nat)))).set j (some x)) (upd H T (.tup [.int (n : Nat), x]))) (hd : ∀ σ H, Pv xs.length σ H → D.nx σ H) :
    FI (Ite K a) (gTup K 2 (gCons (gName i) (gCons (gName j) gNil))) tb D σ H := by
  refine ⟨fun i m σ H => Pv i σ H ∧ i + m = xs.length, ⟨xs.length, h0, by omega⟩, ?_⟩
  rintro n m σ H ⟨p, hm⟩
  by_cases h : n < xs.length
  · refine .inr ⟨⟨xs, xs[n], hq _ _ _ p, by rw [List.getElem?_eq_getElem h]⟩, fun σ' H' => Pv (n + 1) σ' H', fun σ' H' p' => ⟨m - 1, by omega, p', by omega⟩, ?_⟩
    rintro v H' ⟨T, x, rfl, hT, rfl, hx⟩
    exact ⟨T, [.int (n : Nat), x], rfl, SqT.of upd_same, rfl, _, _, rfl, _, _, rfl, rfl, hs n x T σ H (hx xs (hq _ _ _ p)) p hT⟩
  · have e : n = xs.length := by omega
    subst e
    exact .inl ⟨⟨xs, hq _ _ _ p, Nat.le_refl _⟩, hd _ _ p⟩
/-- the turn of a while: what holds behind it has a smaller measure -/
def Nx (W : Nat → L2.St → Hp → Prop) (m : Nat) (tb : TS) (D : Ends) (σ : L2.St) (H : Hp) : Prop := ∃ N : L2.St → Hp → Prop, (∀ σ' H', N σ' H' → ∃ m', m' < m ∧ W m' σ' H') ∧ tb { D with nx := N, ct := N, bk := D.nx } σ H
theorem Nx.go {W : Nat → L2.St → Hp → Prop} {m : Nat} {tb : TS} {D : Ends} {σ : L2.St} {H : Hp} (h : tb { nx := fun σ' H' => ∃ m', m' < m ∧ W m' σ' H', rt := D.rt, bk := D.nx, ct := fun σ' H' => ∃ m', m' < m ∧ W m' σ' H' } σ H) : Nx W m tb D σ H := ⟨_, fun _ _ h => h, h⟩
theorem wh {c : TT} {tb : TS} {D : Ends} {σ : L2.St} {H : Hp} (W : Nat → L2.St → Hp → Prop) (m : Nat) (h0 : W m σ H) (ht : ∀ m σ H, W m σ H → c σ H fun b H1 => Br b (Nx W m tb D) D.nx σ H1) : tWhile c tb D σ H := ⟨W, ⟨m, h0⟩, ht⟩
/-! ### things that equal themselves -/
def flat : V → Bool
  | .non => true
  | .bl _ => true
  | .int _ => true
  | .str s => PyData.strOk s
  | _ => false
theorem flat_str (s : String) : flat (.str (s : Str)) = true := by
  show PyData.strOk (Str.ofString s) = true
  unfold PyData.strOk Str.ofString
  rw [cpsOfBytes_string, List.all_toArray, List.all_eq_true]
  intro n hn
  obtain ⟨c, _, rfl⟩ := List.mem_map.mp hn
  have h := c.valid
  have h2 : c.toNat = c.val.toNat := rfl
  simp only [UInt32.isValidChar, Nat.isValidChar] at h
  rw [h2]
  exact decide_eq_true (by omega)
def Nice1 (H : Hp) (v : V) : Prop := flat v = true ∨ ∃ p xs, v = .ref p ∧ (H p = some (.lst xs) ∨ H p = some (.tup xs)) ∧ (∀ x ∈ xs, flat x = true) ∧ xs.length ≤ 1000
def Nice (H : Hp) (v : V) : Prop := Nice1 H v ∨ (∃ p xs, v = .ref p ∧ H p = some (.lst xs) ∧ (∀ x ∈ xs, Nice1 H x) ∧ xs.length ≤ 1000) ∨ ∃ p, v = .ref p ∧ H p = some (.dK [])
theorem Nice1.same {H H' : Hp} (s : Same H H') {v : V} (h : Nice1 H v) : Nice1 H' v := by
  rcases h with h | ⟨p, xs, e, h, f⟩
  · exact .inl h
  · exact .inr ⟨p, xs, e, h.imp (s _ _) (s _ _), f⟩
theorem Nice.same {H H' : Hp} (s : Same H H') {v : V} (h : Nice H v) : Nice H' v := by
  rcases h with h | ⟨p, xs, e, h, f, l⟩ | ⟨p, e, h⟩
  · exact .inl (h.same s)
  · exact .inr (.inl ⟨p, xs, e, s _ _ h, fun x hx => (f x hx).same s, l⟩)
  · exact .inr (.inr ⟨p, e, s _ _ h⟩)
theorem Nice1.ty {H : Hp} {v : V} (h : Nice1 H v) : ∃ n, tyN H v = some n := by
  rcases h with h | ⟨p, xs, rfl, h | h, f⟩
  · cases v <;> first | exact ⟨_, rfl⟩ | exact Bool.noConfusion (show false = true from h)
  · exact ⟨"list", by rw [tyN, h] <;> rfl⟩
  · exact ⟨"tuple", by rw [tyN, h] <;> rfl⟩
theorem Nice.ty {H : Hp} {v : V} (h : Nice H v) : ∃ n, tyN H v = some n := by
  rcases h with h | ⟨p, xs, rfl, h, f, l⟩ | ⟨p, rfl, h⟩
  · exact h.ty
  · exact ⟨"list", by rw [tyN, h] <;> rfl⟩
  · exact ⟨"dict", by rw [tyN, h] <;> rfl⟩
theorem flat_d {K : Fg} {H : Hp} {v : V} (h : flat v = true) : ∃ d, Dp K H v d ∧ PyData.canLay0 d = true ∧ PyData.depth d ≤ 0 := by
  cases v with
  | non => exact ⟨_, .non, rfl, Nat.le_refl _⟩
  | bl b => exact ⟨_, .bl b, rfl, Nat.le_refl _⟩
  | int i => exact ⟨_, .int i, rfl, Nat.le_refl _⟩
  | str s => exact ⟨_, .str s, h, Nat.le_refl _⟩
  | _ => exact Bool.noConfusion (show false = true from h)
theorem all_d {K : Fg} {H : Hp} {n : Nat} : ∀ {xs : List V}, (∀ x ∈ xs, ∃ d, Dp K H x d ∧ PyData.canLay0 d = true ∧ PyData.depth d ≤ n) → ∃ ds, DpAll K H xs ds ∧ PyData.canLayAll0 ds = true ∧ PyData.depthAll ds ≤ n + 1
  | [], _ => ⟨[], .nil, rfl, by show 0 ≤ _; omega⟩
  | x :: r, h => by
    obtain ⟨d, h1, h2, h3⟩ := h x (by simp)
    obtain ⟨ds, k1, k2, k3⟩ := all_d (xs := r) fun y hy => h y (List.mem_cons_of_mem _ hy)
    refine ⟨d :: ds, .cons h1 k1, ?_, ?_⟩
    · show (PyData.canLay0 d && PyData.canLayAll0 ds) = true
      rw [h2, k2]
      rfl
    · simp only [PyData.depthAll]
      omega
theorem Nice1.d {K : Fg} {H : Hp} {v : V} (h : Nice1 H v) : ∃ d, Dp K H v d ∧ PyData.canLay0 d = true ∧ PyData.depth d ≤ 2 := by
  rcases h with h | ⟨p, xs, rfl, h, f, l⟩
  · obtain ⟨d, h1, h2, h3⟩ := flat_d (K := K) (H := H) h
    exact ⟨d, h1, h2, by omega⟩
  · obtain ⟨ds, k1, k2, k3⟩ := all_d (K := K) (H := H) (n := 0) fun x hx => flat_d (f x hx)
    rcases h with h | h
    · refine ⟨_, .lst (SqL.of h) k1, k2, ?_⟩
      simp only [PyData.depth]
      omega
    · refine ⟨_, .tup (SqT.of h) k1, k2, ?_⟩
      simp only [PyData.depth]
      omega
theorem Nice.d {K : Fg} {H : Hp} {v : V} (h : Nice H v) : (∃ d, Dp K H v d ∧ PyData.canLay0 d = true ∧ PyData.depth d ≤ 4) ∨ ∃ p, v = .ref p ∧ H p = some (.dK []) := by
  rcases h with h | ⟨p, xs, rfl, h, f, l⟩ | h
  · obtain ⟨d, h1, h2, h3⟩ := h.d (K := K)
    exact .inl ⟨d, h1, h2, by omega⟩
  · obtain ⟨ds, k1, k2, k3⟩ := all_d (K := K) (H := H) (n := 2) fun x hx => (f x hx).d
    refine .inl ⟨_, .lst (SqL.of h) k1, k2, ?_⟩
    simp only [PyData.depth]
    omega
  · exact .inr h
theorem shaped_of {d : PyData} (h1 : PyData.canLay0 d = true) (h2 : PyData.depth d ≤ 60) : SeqAt.shaped d = true := by
  unfold SeqAt.shaped
  rw [h1, Bool.true_and]
  exact decide_eq_true (by omega)
theorem eqA_self {K : Fg} {H : Hp} {v : V} {Q : VK} (h : (∃ d, Dp K H v d ∧ PyData.canLay0 d = true ∧ PyData.depth d ≤ 60) ∨ ∃ p ks, v = .ref p ∧ H p = some (.dK ks) ∧ ∀ x ∈ ks, valV ks x.1 = some x.2 ∧ flatB x.2 = true) (q : Q (.bl true) H) : rEqA K v v H Q := by
  rcases h with ⟨d, h1, h2, h3⟩ | ⟨p, ks, rfl, h, f⟩
  · refine .inl ⟨d, d, h1, h1, shaped_of h2 h3, shaped_of h2 h3, ?_⟩
    rw [SeqAt.eqv_refl _ h2]
    exact q
  · exact .inr ⟨p, p, ks, ks, rfl, rfl, h, h, rfl, f, q⟩
theorem neA_self {K : Fg} {H : Hp} {v : V} {Q : VK} (h : (∃ d, Dp K H v d ∧ PyData.canLay0 d = true ∧ PyData.depth d ≤ 60) ∨ ∃ p ks, v = .ref p ∧ H p = some (.dK ks) ∧ ∀ x ∈ ks, valV ks x.1 = some x.2 ∧ flatB x.2 = true) (q : Q (.bl false) H) : rNeA K v v H Q := by
  rcases h with ⟨d, h1, h2, h3⟩ | ⟨p, ks, rfl, h, f⟩
  · refine .inl ⟨d, d, h1, h1, shaped_of h2 h3, shaped_of h2 h3, ?_⟩
    rw [SeqAt.eqv_refl _ h2]
    exact q
  · exact .inr ⟨p, p, ks, ks, rfl, rfl, h, h, rfl, f, q⟩
end Sw

/-! New objects, told by what they keep: the heap behind stays a name. -/
namespace Sw
open PySem PySem.Spec PyProof.Rows L2
/-- behind the making of o at p -/
structure Al (H : Hp) (p : Addr) (o : HO) (H2 : Hp) : Prop where
  f : H p = none
  s : Same H H2
  e : H2 p = some o
theorem Al.mk' {H : Hp} {p : Addr} {o : HO} (h : H p = none) : Al H p o (upd H p o) := ⟨h, Same.new h, upd_same⟩
def tLstA (t : TA) : TE := fun σ H Q => t σ H fun xs H1 => xs.length ≤ sizeLine ∧ ∀ p H2, Al H1 p (.lst xs) H2 → Q (.ref p) H2
def tTupA (t : TA) : TE := fun σ H Q => t σ H fun xs H1 => xs.length ≤ sizeLine ∧ ∀ p H2, Al H1 p (.tup xs) H2 → Q (.ref p) H2
def tDNewA : TE := fun _ H Q => ∀ p H2, Al H p (.dK []) H2 → Q (.ref p) H2
def tLstRgA (te : L2.St → Hp → (Int → Int → Hp → Prop) → Prop) : TE := fun σ H Q => te σ H fun a b H1 => RgOk a b ∧ ∀ q H2, Al H1 q (.lst (rgV a b)) H2 → Q (.ref q) H2
def tTupRgA (te : L2.St → Hp → (Int → Int → Hp → Prop) → Prop) : TE := fun σ H Q => te σ H fun a b H1 => RgOk a b ∧ ∀ q H2, Al H1 q (.tup (rgV a b)) H2 → Q (.ref q) H2
section
variable {X : Cx} {es : List Expr} {t : TA} {pos p : Pos}
theorem pe_lstA (h : PA X es t) : PE X (.List es pos) (tLstA t) := ⟨fun pins s σ H Q I h1 => (pe_lst (pos := pos) (pa_mono h)).run pins s σ H Q I ⟨_, h1, fun xs H1 ⟨l, q⟩ => ⟨l, fun p hp => q p _ (Al.mk' hp)⟩⟩⟩
theorem pe_tupA {x1} (h : PA X es t) : PE X (.Tuple es x1 pos) (tTupA t) := ⟨fun pins s σ H Q I h1 => (pe_tup (pos := pos) (pa_mono h)).run pins s σ H Q I ⟨_, h1, fun xs H1 ⟨l, q⟩ => ⟨l, fun p hp => q p _ (Al.mk' hp)⟩⟩⟩
theorem pe_dnewA : PE X (.Dict [] [] pos) tDNewA := ⟨fun pins s σ H Q I q => (pe_dnewK (pos := pos)).run pins s σ H Q I fun p hp => q p _ (Al.mk' hp)⟩
theorem prg_mono {e : Expr} {te : L2.St → Hp → (Int → Int → Hp → Prop) → Prop} (h : PRg X e te) : PRg X e (fun σ H Q => ∃ R : Int → Int → Hp → Prop, te σ H R ∧ ∀ a b H1, R a b H1 → Q a b H1) := fun pins s σ H Q I ⟨R, h1, h2⟩ =>
  thn (h pins s σ H R I h1) fun x s' ⟨r, a, b, t, u, v, H', e1, e2, J, q⟩ => ⟨r, a, b, t, u, v, H', e1, e2, J, h2 _ _ _ q⟩
theorem pe_listRgA {e : Expr} {te : L2.St → Hp → (Int → Int → Hp → Prop) → Prop} (hc : X.calm = true) (hg : Gl X "list") (hm : X.mg "list" = none) (he : PRg X e te) (na : starEach [e] X.env = (false, eval e X.env) :: starEach [] X.env := by rfl) : PE X (.Call (.Name "list" p) [e] [] pos) (tLstRgA te) :=
  ⟨fun pins s σ H Q I h => (pe_listRg hc hg hm (prg_mono he) na).run pins s σ H Q I ⟨_, h, fun a b H1 ⟨l, q⟩ => ⟨l, fun p hp => q p _ (Al.mk' hp)⟩⟩⟩
theorem pe_tupRgA {e : Expr} {te : L2.St → Hp → (Int → Int → Hp → Prop) → Prop} (hc : X.calm = true) (hg : Gl X "tuple") (hm : X.mg "tuple" = none) (he : PRg X e te) (na : starEach [e] X.env = (false, eval e X.env) :: starEach [] X.env := by rfl) : PE X (.Call (.Name "tuple" p) [e] [] pos) (tTupRgA te) :=
  ⟨fun pins s σ H Q I h => (pe_tupRg hc hg hm (prg_mono he) na).run pins s σ H Q I ⟨_, h, fun a b H1 ⟨l, q⟩ => ⟨l, fun p hp => q p _ (Al.mk' hp)⟩⟩⟩
/-- l + m -/
def rCatAl : R2 := fun x y H Q => ∃ l b xs zs, x = .ref l ∧ y = .ref b ∧ H l = some (.lst xs) ∧ H b = some (.lst zs) ∧ xs.length + zs.length ≤ sizeLine ∧ ∀ p H2, Al H p (.lst (xs ++ zs)) H2 → Q (.ref p) H2
theorem op_catAl : OpR X (binaryOp .Add) rCatAl := fun pins s σ H x y v u Q I rx ry ⟨l, b, xs, zs, e1, e2, h1, h2, hl, q⟩ => op_cat pins s σ H x y v u Q I rx ry ⟨l, b, xs, zs, e1, e2, h1, h2, hl, fun p hp => q p _ (Al.mk' hp)⟩
/-- l * n -/
def rRepAl : R2 := fun x y H Q => ∃ l k xs, x = .ref l ∧ y = .int k ∧ H l = some (.lst xs) ∧ -(2 ^ 63) ≤ k ∧ k < 2 ^ 63 ∧ xs.length * k.toNat ≤ sizeLine ∧ ∀ p H2, Al H p (.lst (List.replicate k.toNat xs).flatten) H2 → Q (.ref p) H2
theorem op_repAl : OpR X (binaryOp .Mult) rRepAl := fun pins s σ H x y v u Q I rx ry ⟨l, k, xs, e1, e2, h1, h2, h3, hl, q⟩ => op_rep pins s σ H x y v u Q I rx ry ⟨l, k, xs, e1, e2, h1, h2, h3, hl, fun p hp => q p _ (Al.mk' hp)⟩
/-- t * n of a tuple -/
def rRepTAl (K : Fg) : R2 := fun x y H Q => ∃ l k xs, x = .ref l ∧ y = .int k ∧ SqT K H l xs ∧ xs ≠ [] ∧ 2 ≤ k ∧ k ≤ 1000 ∧ xs.length ≤ 1000 ∧ ∀ p H2, Al H p (.tup (List.replicate k.toNat xs).flatten) H2 → Q (.ref p) H2
theorem op_repTAl : OpR X (binaryOp .Mult) (rRepTAl X.K) := fun pins s σ H x y v u Q I rx ry ⟨l, k, xs, e1, e2, h1, h2, h3, h4, hl, q⟩ => op_repT pins s σ H x y v u Q I rx ry ⟨l, k, xs, e1, e2, h1, h2, h3, h4, hl, fun p hp => q p _ (Al.mk' hp)⟩
/-- xs[lo:hi] of a list -/
def rSlAl (K : Fg) : V → Option Int → Option Int → Hp → VK → Prop := fun x lo hi H Q => ∃ a xs, x = .ref a ∧ SqL K H a xs ∧ ∀ p H2, Al H p (.lst (cutV xs lo hi)) H2 → Q (.ref p) H2
theorem sl_listAl : SlR X (rSlAl X.K) := fun pins s σ H x v vl vu lo hi sl Q I rx hs pl pu ⟨a, xs, e, h, q⟩ => sl_list pins s σ H x v vl vu lo hi sl Q I rx hs pl pu ⟨a, xs, e, h, fun p hp => q p _ (Al.mk' hp)⟩
/-- list(t), tuple(l) -/
def rLstAl : List V → Hp → VK → Prop := fun vs H Q => ∃ p o xs, vs = [.ref p] ∧ H p = some o ∧ seqO o = some xs ∧ ∀ l H2, Al H l (.lst xs) H2 → Q (.ref l) H2
theorem lst_al : CallR X (.type "list") rLstAl := fun pins s σ H xs us Q I r ⟨p, o, ys, e, h1, h2, q⟩ => lst_q pins s σ H xs us Q I r ⟨p, o, ys, e, h1, h2, fun l hl => q l _ (Al.mk' hl)⟩
def rTupAl : List V → Hp → VK → Prop := fun vs H Q => ∃ p xs, vs = [.ref p] ∧ H p = some (.lst xs) ∧ ∀ l H2, Al H l (.tup xs) H2 → Q (.ref l) H2
theorem tup_al : CallR X (.type "tuple") rTupAl := fun pins s σ H xs us Q I r ⟨p, ys, e, h1, q⟩ => tup_q pins s σ H xs us Q I r ⟨p, ys, e, h1, fun l hl => q l _ (Al.mk' hl)⟩
end
theorem ral : (∀ t σ H Q, tLstA t σ H Q = t σ H fun xs H1 => xs.length ≤ sizeLine ∧ ∀ p H2, Al H1 p (.lst xs) H2 → Q (.ref p) H2) ∧ (∀ t σ H Q, tTupA t σ H Q = t σ H fun xs H1 => xs.length ≤ sizeLine ∧ ∀ p H2, Al H1 p (.tup xs) H2 → Q (.ref p) H2) ∧
    (∀ σ H Q, tDNewA σ H Q = ∀ p H2, Al H p (.dK []) H2 → Q (.ref p) H2) ∧ (∀ te σ H Q, tLstRgA te σ H Q = te σ H fun a b H1 => RgOk a b ∧ ∀ q H2, Al H1 q (.lst (rgV a b)) H2 → Q (.ref q) H2) ∧
    (∀ te σ H Q, tTupRgA te σ H Q = te σ H fun a b H1 => RgOk a b ∧ ∀ q H2, Al H1 q (.tup (rgV a b)) H2 → Q (.ref q) H2) ∧
    (∀ x y H Q, rCatAl x y H Q = ∃ l b xs zs, x = .ref l ∧ y = .ref b ∧ H l = some (.lst xs) ∧ H b = some (.lst zs) ∧ xs.length + zs.length ≤ sizeLine ∧ ∀ p H2, Al H p (.lst (xs ++ zs)) H2 → Q (.ref p) H2) ∧
    (∀ x y H Q, rRepAl x y H Q = ∃ l k xs, x = .ref l ∧ y = .int k ∧ H l = some (.lst xs) ∧ -(2 ^ 63) ≤ k ∧ k < 2 ^ 63 ∧ xs.length * k.toNat ≤ sizeLine ∧ ∀ p H2, Al H p (.lst (List.replicate k.toNat xs).flatten) H2 → Q (.ref p) H2) ∧
    (∀ K x y H Q, rRepTAl K x y H Q = ∃ l k xs, x = .ref l ∧ y = .int k ∧ SqT K H l xs ∧ xs ≠ [] ∧ 2 ≤ k ∧ k ≤ 1000 ∧ xs.length ≤ 1000 ∧ ∀ p H2, Al H p (.tup (List.replicate k.toNat xs).flatten) H2 → Q (.ref p) H2) ∧
    (∀ K x lo hi H Q, rSlAl K x lo hi H Q = ∃ a xs, x = .ref a ∧ SqL K H a xs ∧ ∀ p H2, Al H p (.lst (cutV xs lo hi)) H2 → Q (.ref p) H2) ∧
    (∀ vs H Q, rLstAl vs H Q = ∃ p o xs, vs = [.ref p] ∧ H p = some o ∧ seqO o = some xs ∧ ∀ l H2, Al H l (.lst xs) H2 → Q (.ref l) H2) ∧ (∀ vs H Q, rTupAl vs H Q = ∃ p xs, vs = [.ref p] ∧ H p = some (.lst xs) ∧ ∀ l H2, Al H l (.tup xs) H2 → Q (.ref l) H2) := by
  refine ⟨?_, ?_, ?_, ?_, ?_, ?_, ?_, ?_, ?_, ?_, ?_⟩ <;> intros <;> rfl
theorem Al.k {H H2 : Hp} {p a : Addr} {o u : HO} (x : Al H p o H2) (h : H a = some u) : H2 a = some u := x.s _ _ h
theorem Al.ne {H H2 : Hp} {p a : Addr} {o u : HO} (x : Al H p o H2) (h : H a = some u) : p ≠ a := fun e => by
  rw [← e, x.f] at h
  cases h
theorem at_mem {xs : List V} {r : Int} (h0 : 0 ≤ r) (h1 : r < (xs.length : Int)) : ∃ v, atI xs r = some v ∧ v ∈ xs := by
  obtain ⟨k, rfl⟩ : ∃ k : Nat, r = (k : Int) := ⟨r.toNat, by omega⟩
  have h2 : k < xs.length := by omega
  exact ⟨xs[k], atI_nat (List.getElem?_eq_getElem h2), List.getElem_mem h2⟩
/-- the rest of a suite kept shut -/
theorem seqI {t u : TS} {D : Ends} {σ : L2.St} {H : Hp} (h : ∀ r : TS, u = r → tSeq t r D σ H) : tSeq t u D σ H := h u rfl
theorem tst {H H1 H2 H3 H4 : Hp} {p q r t : Addr} {o1 o2 o3 o4 : HO} (a1 : Al H p o1 H1) (a2 : Al H1 q o2 H2) (a3 : Al H2 r o3 H3) (a4 : Al H3 t o4 H4) : ∃ x, H4 p = some x ∧ H4 q = some o2 := by
  exact ⟨_, (Al.k a4 (Al.k a3 (Al.k a2 (Al.e a1)))), (Al.k a4 (Al.k a3 (Al.e a2)))⟩
end Sw

/-! Classes with a base: o.m(..) where o is of one of several classes; B.m(self, ..); try .. except .. else. -/
namespace Sw
open PySem PySem.Spec PyProof.Rows L2
/-- o.m(..), o of one of the classes of a list, each with its promise -/
def Disp (P : Program) (w : World) (K : Fg) (mg : Str → Option Value) (base : Heap) (j : Nat) (m : Str) (L : List (Str × Sp)) : Prop := ∀ q ∈ L, ∃ (k : Nat) (ps : List Str), k ≤ j ∧ CalM P w K mg base k q.1 m ps q.2
theorem Disp.nil {P : Program} {w : World} {K : Fg} {mg : Str → Option Value} {base : Heap} {j : Nat} {m : Str} : Disp P w K mg base j m [] := fun _ h => by cases h
theorem Disp.cons {P : Program} {w : World} {K : Fg} {mg : Str → Option Value} {base : Heap} {j k : Nat} {C m : Str} {ps : List Str} {sp : Sp} {L : List (Str × Sp)} (c : CalM P w K mg base k C m ps sp) (hk : k ≤ j) (r : Disp P w K mg base j m L) : Disp P w K mg base j m ((C, sp) :: L) := fun q h => by
  rcases List.mem_cons.mp h with rfl | h
  · exact ⟨k, ps, hk, c⟩
  · exact r q h
def tMthD (K : Fg) (m : Str) (L : List (Str × Sp)) (E : L2.St → XK) (ta : TE) (t : TA) : TE := fun σ H Q => ta σ H fun x H1 => ∃ (a : Addr) (C : Str) (sp : Sp) (dx : Addr) (fs : List (Str × V)), x = .ref a ∧ (C, sp) ∈ L ∧ H1 a = some (.ins (He.ga K C) dx fs) ∧ fs.lookup m = none ∧ t σ H1 fun vs H2 => sp (x :: vs) H2 Q (E σ)
section
variable {X : Cx} {k j : Nat} {C m x : Str} {ps : List Str} {sp : Sp} {E : XK} {o e : Expr} {es : List Expr} {ta : TE} {t : TA} {p apos pos : Pos} {pl : Sem Bool} {W : WX} {L : List (Str × Sp)}
theorem pe_mthD {K : Fg} (hK : X.K = K) (c : Disp X.prog X.w X.K X.mg X.base j m L) (hr : Rm j X.A) (tk : Takes X W) (he : PE X o ta) (ha : PA X (e :: es) t)
    (hst : starEach (e :: es) X.env = (false, eval e X.env) :: starEach es X.env := by rfl) (hpl : (backTo pos (starEach es X.env)).any (·.1) = false := by rfl)
    (ht : eval (.Call (.Attribute o m apos) (e :: es) [] pos) X.env = (do
      let ov ← eval o X.env
      standAt apos.atName
      let (f, first) ← holding [ov] (getMethod ov m pl)
      callWith pos f first (backTo pos (starEach (e :: es) X.env)) (backToKw pos (keywordEach [] X.env))) := by rfl) :
    PE X (.Call (.Attribute o m apos) (e :: es) [] pos) (tMthD K m L (WE W) ta t) := by
  subst hK
  refine ⟨fun pins s σ H Q I h => ?_⟩
  refine PySem.W.methodCall_KW (pl := pl) (thn (he.run pins s σ H _ I h) fun u s1 ⟨x, H1, I1, rx, a, C, sp, dx, fs, ex, hL, ea, l, q⟩ => ?_) ht
  subst ex
  obtain rfl : u = Value.ref a := rx
  obtain ⟨k, ps, hk, c⟩ := c (C, sp) hL
  obtain ⟨fd, F, b⟩ := c.ex
  refine getmeth_ok I1 ea c.cls c.meth l ?_
  refine PySem.W.callWith_K (first := [.ref a]) (h₀ := X.base) I.ok.mod.kin c.meth.kp (thn (ha.run pos pins s1 σ H1 _ I1 q) fun us s2 ⟨vs, H2, I2, r, q2⟩ => ⟨I2.kIn, ?_⟩) hst hpl
  exact run_fnG (us := .ref a :: us) (vs := .ref a :: vs) F (hr.mono hk) b (passAt tk σ) I2 (.cons rfl r) q2
theorem pe_mthDP {K : Fg} (hK : X.K = K) (c : Disp X.prog X.w X.K X.mg X.base j m L) (hr : Rm j X.A) (hx : Passes (L2.CX X.prog X.w) X E) (he : PE X o ta) (ha : PA X (e :: es) t)
    (hst : starEach (e :: es) X.env = (false, eval e X.env) :: starEach es X.env := by rfl) (hpl : (backTo pos (starEach es X.env)).any (·.1) = false := by rfl)
    (ht : eval (.Call (.Attribute o m apos) (e :: es) [] pos) X.env = (do
      let ov ← eval o X.env
      standAt apos.atName
      let (f, first) ← holding [ov] (getMethod ov m pl)
      callWith pos f first (backTo pos (starEach (e :: es) X.env)) (backToKw pos (keywordEach [] X.env))) := by rfl) :
    PE X (.Call (.Attribute o m apos) (e :: es) [] pos) (tMthD K m L (fun _ => E) ta t) := by
  subst hK
  refine ⟨fun pins s σ H Q I h => ?_⟩
  refine PySem.W.methodCall_KW (pl := pl) (thn (he.run pins s σ H _ I h) fun u s1 ⟨x, H1, I1, rx, a, C, sp, dx, fs, ex, hL, ea, l, q⟩ => ?_) ht
  subst ex
  obtain rfl : u = Value.ref a := rx
  obtain ⟨k, ps, hk, c⟩ := c (C, sp) hL
  obtain ⟨fd, F, b⟩ := c.ex
  refine getmeth_ok I1 ea c.cls c.meth l ?_
  refine PySem.W.callWith_K (first := [.ref a]) (h₀ := X.base) I.ok.mod.kin c.meth.kp (thn (ha.run pos pins s1 σ H1 _ I1 q) fun us s2 ⟨vs, H2, I2, r, q2⟩ => ⟨I2.kIn, ?_⟩) hst hpl
  exact run_fnG (E := fun _ => E) (us := .ref a :: us) (vs := .ref a :: vs) F (hr.mono hk) b (fun pins H s e s' I c => hx pins σ H s e s' I c) I2 (.cons rfl r) q2
theorem pe_mthD0 {K : Fg} (hK : X.K = K) (c : Disp X.prog X.w X.K X.mg X.base j m L) (hr : Rm j X.A) (tk : Takes X W) (he : PE X o ta)
    (ht : eval (.Call (.Attribute o m apos) [] [] pos) X.env = (do
      let ov ← eval o X.env
      standAt apos.atName
      let (f, first) ← holding [ov] (getMethod ov m pl)
      callWith pos f first (backTo pos (starEach [] X.env)) (backToKw pos (keywordEach [] X.env))) := by rfl) :
    PE X (.Call (.Attribute o m apos) [] [] pos) (tMthD K m L (WE W) ta tNil) := by
  subst hK
  refine ⟨fun pins s σ H Q I h => ?_⟩
  refine PySem.W.methodCall_KW (pl := pl) (thn (he.run pins s σ H _ I h) fun u s1 ⟨x, H1, I1, rx, a, C, sp, dx, fs, ex, hL, ea, l, q⟩ => ?_) ht
  subst ex
  obtain rfl : u = Value.ref a := rx
  obtain ⟨k, ps, hk, c⟩ := c (C, sp) hL
  obtain ⟨fd, F, b⟩ := c.ex
  refine getmeth_ok I1 ea c.cls c.meth l ?_
  exact PySem.W.callWith_K0 (first := [.ref a]) I1.kIn c.meth.kp (run_fnG (us := [.ref a]) (vs := [.ref a]) F (hr.mono hk) b (passAt tk σ) I1 (.cons rfl .nil) q)
/-! ### B.m(self, ..), B a class of the program, m a def of it -/
def clfB (K : Fg) (C : Addr) (m : Str) : Bool := decide (PySem.W.specialIn K (.ref C) "__getattribute__" = some (some (.builtin "type.__getattribute__"))) && (PySem.W.readsIn K C (.type "type") && (match PySem.W.findCls K (.ref C) (.type "type") m with
  | some (.val (.ref a)) => decide (a = He.ma K C m)
  | _ => false))
structure ClF (K : Fg) (C : Addr) (m : Str) : Prop where
  sp : PySem.W.specialIn K (.ref C) "__getattribute__" = some (some (.builtin "type.__getattribute__"))
  rd : PySem.W.readsIn K C (.type "type") = true
  fc : PySem.W.findCls K (.ref C) (.type "type") m = some (.val (.ref (He.ma K C m)))
theorem clfB_ok {K : Fg} {C : Addr} {m : Str} (h : clfB K C m = true) : ClF K C m := by
  unfold clfB at h
  simp only [Bool.and_eq_true, decide_eq_true_eq] at h
  obtain ⟨h1, h2, h3⟩ := h
  refine ⟨h1, h2, ?_⟩
  split at h3
  · rename_i a q
    have e : a = He.ma K C m := of_decide_eq_true h3
    rw [q, e]
  · cases h3
theorem pe_clsM {S : Str} {p1 p2 : Pos} (c : CalM X.prog X.w X.K X.mg X.base k S m ps sp) (I0 : ClF X.K (He.ga X.K S) m) (hr : Rm j X.A) (hk : k ≤ j) (tk : Takes X W) (hg : Gl X S) (hm : X.mg S = some (.ref (He.ga X.K S))) (ha : PA X (e :: es) t)
    (hl : (p2.endLine == pos.line) = true := by rfl) (hf : methodCallForm ((e :: es).length + ([] : List Keyword).length) (backTo pos (starEach (e :: es) X.env)) (backToKw pos (keywordEach [] X.env)) = true := by rfl)
    (hdb : (S == ("__debug__" : Str)) = false := by decide)
    (he : starEach (e :: es) X.env = (false, eval e X.env) :: starEach es X.env := by rfl) (hpl : (backTo pos (starEach es X.env)).any (·.1) = false := by rfl) :
    PE X (.Call (.Attribute (.Name S p1) m p2) (e :: es) [] pos) (tCallS sp (WE W) t) := by
  obtain ⟨fd, F, b⟩ := c.ex
  refine ⟨fun pins s σ H Q I h => ?_⟩
  have hc : eval (.Call (.Attribute (.Name S p1) m p2) (e :: es) [] pos) X.env = (do
      let ov ← eval (.Name S p1) X.env
      standAt p2.atName
      let (f, first) ← holding [ov] (getMethod ov m (plainOf (.Name S p1) X.env))
      callWith pos f first (backTo pos (starEach (e :: es) X.env)) (backToKw pos (keywordEach [] X.env))) := by
    show (do let ov ← eval (.Name S p1) X.env; standAt p2.atName; methodCall (.Name S p1) m p2 pos X.env ov _ _ _) = _
    simp only [mcall_line hf hl]
  refine PySem.W.methodCall_KW (ld_glob I hg hm ?_ hdb) hc
  refine PySem.W.method_cls I.kIn I0.sp (PySem.W.cls_value I.kIn I0.rd I0.fc rfl ?_)
  refine PySem.W.callWith_K (first := []) (h₀ := X.base) I.ok.mod.kin c.meth.kp (thn (ha.run pos pins _ σ H _ (I.tok _) h) fun us s2 ⟨vs, H2, I2, r, q2⟩ => ⟨I2.kIn, ?_⟩) he hpl
  exact run_fnG F (hr.mono hk) b (passAt tk σ) I2 r q2
end
/-! ### try .. except .. else -/
section
variable {X : Cx} {n : Str} {i : Nat} {bd : List Stmt} {h1 : ExceptHandler} {hs : List ExceptHandler} {l : List (Value × Bool × (Addr → Value → Option Addr → TS))} {pos : Pos} {tb : WX → TS} {Wz : WX}
theorem ps_try_asesE {orelse : List Stmt} {u : TS} (ho : PSs X orelse u) (st : X.stack = X.env :: X.outer) (fr : X.env.frame = some X.env.locals) (nd : X.N.Nodup) (at_ : X.N[i]? = some n) (lo : X.env.kindOf n = some .local) (tk : Takes X Wz)
    (hbd : ∀ (W : WX) (pn : List (Addr × Obj)) (xe : Value → Shared → Prop), Takes (X.tr pn xe) W → PassesOwn (model X.prog X.w) X.A X.env xe → PSs (X.tr pn xe) bd (tb W)) (cs : Clauses X n (h1 :: hs) l) :
    PS X (.Try bd (h1 :: hs) orelse [] pos) (fun D σ H => tb (wAses X.K i Wz D l) { D with nx := u D } σ H) := by
  refine ⟨fun pins s σ H D I0 hyp => ?_⟩
  have okk := I0.ok
  have ffr : X.A.frames = some (X.env :: X.outer) := by rw [okk.frames, st]
  refine wpAny_Try_except (wpAny_mono ((hbd (wAses X.K i Wz D l) (X.pn ++ pins) (fun ev s1 => wpAny (model X.prog X.w) X.A (noteFrame ev X.env) (fun _ s2 => wpAny (model X.prog X.w) X.A (setFlight ev none) (fun _ s3 =>
    wpAny (model X.prog X.w) X.A (handleBy ev X.env (h1 :: hs)) (SP X pins D) X.xe s3) X.xe s2) X.xe s1) (fun ev s1 cought => ?_) PassesOwn.looking).run [] s σ H { D with nx := u D } (I0.toTry _) hyp) (fun fl s1 endd => ?_) (fun _ _ out => out))
  · obtain ⟨z, B, sI, pins2, τ, G, cls, d, rfl, JJ, nb, up, sky, nz, hos, hag, wish⟩ := cought
    have J := JJ.ofTry (X := X) (pins := pins) okk
    have skyy : Sky B (X.env :: X.outer) z (Zc cls d) X.env.locals s1.heap := by rw [← st]; exact sky
    show wpAny (model X.prog X.w) X.A (noteFrame (.ref z) X.env) _ _ _
    refine Sky.land Zc.steady ffr fr skyy fun g3 fly3 up3 => ?_
    have K3 : Inv X pins τ G { s1 with heap := g3 } := J.landed nb fly3.1 (up.trans up3) hos hag
    obtain ⟨o3, f3, e3, z3, d3⟩ := fly3.there
    have apart : z ∉ frs (X.env :: X.outer) := fun hm => by
      obtain ⟨_, o', e', no⟩ := fly3.2.2.1.mem hm
      rw [e3] at e'
      cases e'
      exact no _ d3
    have zl : z ≠ X.env.locals := fun q => apart (List.mem_filterMap.mpr ⟨X.env, List.mem_cons_self, by rw [fr, q]⟩)
    have zf : z ∉ X.fs := fun hm => by
      obtain ⟨v, hv, q⟩ := List.mem_filterMap.mp hm
      exact apart (List.mem_filterMap.mpr ⟨v, List.mem_cons_of_mem _ hv, q⟩)
    have S3 := K3.suite e3 d3 nz zl zf
    have walk : ∀ {hs' : List ExceptHandler} {l' : List (Value × Bool × (Addr → Value → Option Addr → TS))}, Clauses X n hs' l' → wAses X.K i Wz D l' cls d τ G → wpAny (model X.prog X.w) X.A (handleBy (.ref z) X.env hs') (SP X pins D) X.xe { s1 with heap := g3 } := by
      intro hs' l' hc
      induction hc with
      | nil =>
        intro wish
        refine wpAny_handleBy_nil ?_
        obtain ⟨_, _, _, o, vs, T, oT, _, ho, _, hd, hv, _⟩ := id fly3
        unfold PySem.passOn
        refine wpAny_bind (wpAny_field ho hd hv ?_)
        rw [if_neg (show ¬ ((Value.ref T == Value.none) = true) from by simp)]
        have last : wpAny (model X.prog X.w) X.A (setFlight (.ref z) X.env.frame) (fun _ s4 => wpAny (model X.prog X.w) X.A (throw (.ref z) : Sem Flow) (SP X pins D) X.xe s4) X.xe { s1 with heap := g3 } := by
          rw [fr]
          exact HandSPX.setFlight_upZ fly3 fun g4 hh4 up4 => wpAny_throw (tk _ _ ⟨z, B, sI, pins, τ, G, cls, d, rfl, J, nb, (up.trans up3).trans up4, .inr (.inr (by rw [st]; exact hh4)), nz, hos, hag, wish⟩)
        first
          | exact wpAny_bind (wpAny_pure (wpAny_bind last))
          | exact wpAny_bind last
      | @cons x cl t b bs p1 p2 hs2 l2 nm suite rest ih =>
        intro wish
        obtain ⟨yes, ask, onYes, onNo⟩ := wish
        refine wpAny_handleBy_cons (codeAny_handlers_test ?_) (by intro q; cases q)
        have kind : PySem.W.Looks (model X.prog X.w) g3 (typeOf (.ref z)) cls := fun A Q E s5 k q => wpAny_typeOf_ref (k _ _ e3) (by rw [z3.1]; exact q)
        have met := PySem.W.exm_one (M := model X.prog X.w) K3.kIn kind ask
        have tst : ∀ {Q E : Value → Shared → Prop}, Q cl { s1 with heap := g3 } → wpAny (model X.prog X.w) (X.A.mark (some (.ref z))) (eval (.Name x p1) X.env) Q E { s1 with heap := g3 } := fun {Q E} q => by
          obtain ⟨hg, hdb, hm | ⟨hm, hv, hn⟩⟩ := nm
          · exact ld_glob (X := X.suite z ((z, o3) :: (X.pn ++ pins))) S3 hg hm q hdb
          · exact ld_blt (X := X.suite z ((z, o3) :: (X.pn ++ pins))) S3 hg hm hv q hn hdb
        refine tst (met.here ?_)
        cases yes with
        | false => exact ih (onNo rfl)
        | true =>
          refine codeAny_handlers_suite_as (HandSPX.lands_againZ fly3 fun g4 fly4 up4 => ?_)
          have K4 : Inv X pins τ G { s1 with heap := g4 } := J.landed nb fly4.1 ((up.trans up3).trans up4) hos hag
          obtain ⟨o4, f4, e4, z4, d4⟩ := fly4.there
          have S4 := K4.suite e4 d4 nz zl zf
          refine store_ok (X := X.suite z ((z, o4) :: (X.pn ++ pins))) (v := .ref z) S4 nd at_ (.inl lo) rfl (fun s5 S5 => ?_) (.inr lo)
          refine wpAny_mono ((suite z o4 cls d (X.pn ++ pins) z4 ⟨_, d4⟩).run [] s5 _ G _ S5 (onYes rfl z nz)) (fun fl s6 endd => ?_) (fun _ _ q => q.elim)
          have gone : ∀ {τ6 : L2.St} {G6 : Hp} {Q : Shared → Prop}, Inv (X.suite z ((z, o4) :: (X.pn ++ pins))) [] τ6 G6 s6 → (∀ s7, Inv X pins (τ6.set i none) G6 s7 → Q s7) →
              wpAny (model X.prog X.w) X.A (do bindName X.env n .none; unbindBehindTheSuite X.env n p2) (fun _ s7 => Q s7) X.xe s6 := fun {τ6 G6 Q} S6 hq => gone_ok (S6.unsuite okk) nd at_ lo hq
          cases fl with
          | ret u =>
            obtain ⟨v6, τ6, G6, S6, r6, q6⟩ := endd
            exact gone S6 fun s7 J7 => ⟨_, _, _, J7, r6, q6⟩
          | next =>
            obtain ⟨τ6, G6, S6, q6⟩ := endd
            exact gone S6 fun s7 J7 => ⟨_, _, J7, q6⟩
          | brk =>
            obtain ⟨τ6, G6, S6, q6⟩ := endd
            exact gone S6 fun s7 J7 => ⟨_, _, J7, q6⟩
          | cont =>
            obtain ⟨τ6, G6, S6, q6⟩ := endd
            exact gone S6 fun s7 J7 => ⟨_, _, J7, q6⟩
      | @bare x cl t b bs p1 p2 hs2 l2 nm suite rest ih =>
        intro wish
        obtain ⟨yes, ask, onYes, onNo⟩ := wish
        refine wpAny_handleBy_cons (codeAny_handlers_test ?_) (by intro q; cases q)
        have kind : PySem.W.Looks (model X.prog X.w) g3 (typeOf (.ref z)) cls := fun A Q E s5 k q => wpAny_typeOf_ref (k _ _ e3) (by rw [z3.1]; exact q)
        have met := PySem.W.exm_one (M := model X.prog X.w) K3.kIn kind ask
        have tst : ∀ {Q E : Value → Shared → Prop}, Q cl { s1 with heap := g3 } → wpAny (model X.prog X.w) (X.A.mark (some (.ref z))) (eval (.Name x p1) X.env) Q E { s1 with heap := g3 } := fun {Q E} q => by
          obtain ⟨hg, hdb, hm | ⟨hm, hv, hn⟩⟩ := nm
          · exact ld_glob (X := X.suite z ((z, o3) :: (X.pn ++ pins))) S3 hg hm q hdb
          · exact ld_blt (X := X.suite z ((z, o3) :: (X.pn ++ pins))) S3 hg hm hv q hn hdb
        refine tst (met.here ?_)
        cases yes with
        | false => exact ih (onNo rfl)
        | true =>
          refine codeAny_handlers_suite (HandSPX.lands_againZ fly3 fun g4 fly4 up4 => ?_)
          have K4 : Inv X pins τ G { s1 with heap := g4 } := J.landed nb fly4.1 ((up.trans up3).trans up4) hos hag
          obtain ⟨o4, f4, e4, z4, d4⟩ := fly4.there
          refine wpAny_mono ((suite z o4 cls d (X.pn ++ pins) z4 ⟨_, d4⟩).run [] _ _ G _ (K4.suite e4 d4 nz zl zf) (onYes rfl z nz)) (fun fl s6 endd => ?_) (fun _ _ q => q.elim)
          cases fl with
          | ret u =>
            obtain ⟨v6, τ6, G6, S6, r6, q6⟩ := endd
            exact ⟨_, _, _, S6.unsuite okk, r6, q6⟩
          | next =>
            obtain ⟨τ6, G6, S6, q6⟩ := endd
            exact ⟨_, _, S6.unsuite okk, q6⟩
          | brk =>
            obtain ⟨τ6, G6, S6, q6⟩ := endd
            exact ⟨_, _, S6.unsuite okk, q6⟩
          | cont =>
            obtain ⟨τ6, G6, S6, q6⟩ := endd
            exact ⟨_, _, S6.unsuite okk, q6⟩
    exact walk cs wish
  · cases fl with
    | ret u =>
      obtain ⟨v, τ, G, JJ, r, q⟩ := endd
      exact ⟨v, τ, G, JJ.ofTry okk, r, q⟩
    | next =>
      obtain ⟨τ, G, JJ, q⟩ := endd
      exact ho.run pins s1 τ G D (JJ.ofTry okk) q
    | brk =>
      obtain ⟨τ, G, JJ, q⟩ := endd
      exact ⟨τ, G, JJ.ofTry okk, q⟩
    | cont =>
      obtain ⟨τ, G, JJ, q⟩ := endd
      exact ⟨τ, G, JJ.ofTry okk, q⟩
end
/-! ### isinstance of an instance -/
def insB (K : Fg) (C : Addr) : Bool := decide (PySem.W.findIn K (.ref C) "__class__" = some (some (.builtin "object.__class__"))) && (decide (PySem.W.specialIn K (.builtin "object.__class__") "__get__" = some (some (.builtin "getset_descriptor.__get__"))) &&
  (decide (PySem.W.takesIn K (.builtin "object.__class__") = some true) && decide (PySem.W.mroIn K C (.type "object") = some true)))
structure InsC (K : Fg) (C : Addr) : Prop where
  ha : PySem.W.findIn K (.ref C) "__class__" = some (some (.builtin "object.__class__"))
  hn : PySem.W.specialIn K (.builtin "object.__class__") "__get__" = some (some (.builtin "getset_descriptor.__get__"))
  ht : PySem.W.takesIn K (.builtin "object.__class__") = some true
  hm : PySem.W.mroIn K C (.type "object") = some true
theorem insB_ok {K : Fg} {C : Addr} (h : insB K C = true) : InsC K C := by
  unfold insB at h
  simp only [Bool.and_eq_true, decide_eq_true_eq] at h
  exact ⟨h.1, h.2.1, h.2.2.1, h.2.2.2⟩
theorem tyX_ins {K : Fg} {H : Hp} {a C dx : Addr} {fs : List (Str × V)} (e : H a = some (.ins C dx fs)) (c : Cls K C) (i : InsC K C) : TyX K H (.ref a) (.ref C) := .base (.ins e c i.ha i.hn i.ht i.hm)
theorem rmd : (∀ K m L E ta t σ H Q, tMthD K m L E ta t σ H Q = ta σ H fun x H1 => ∃ (a : Addr) (C : Str) (sp : Sp) (dx : Addr) (fs : List (Str × V)), x = .ref a ∧ (C, sp) ∈ L ∧ H1 a = some (.ins (He.ga K C) dx fs) ∧ fs.lookup m = none ∧ t σ H1 fun vs H2 => sp (x :: vs) H2 Q (E σ)) := fun _ _ _ _ _ _ _ _ _ => rfl
end Sw

/-! repr of data: lists, tuples, empty dicts, at any depth; the text by its data. -/
namespace Sw
open PySem PySem.Spec PyProof.Rows L2
/-- v is d, k deep at most, with a text of n signs at most -/
inductive Dq (K : Fg) (H : Hp) : V → PyData → Nat → Nat → Prop
  | non {k : Nat} : Dq K H .non .none k 4
  | bl {k : Nat} (b : Bool) : Dq K H (.bl b) (.bool b) k 5
  | int {k : Nat} (i : Int) : i.natAbs.log2 < 1920 → Dq K H (.int i) (.int i) k 1921
  | str {k : Nat} (x : Str) : PyData.strOk x = true → Dq K H (.str x) (.str x) k (10 * x.length + 2)
  | lst {a : Addr} {xs : List V} {ds : List PyData} {k n : Nat} : SqL K H a xs → H a ≠ none → xs.length = ds.length → (∀ (i : Nat) (x : V) (d : PyData), xs[i]? = some x → ds[i]? = some d → Dq K H x d k n) → Dq K H (.ref a) (.list ds) (k + 1) (ds.length * (n + 2) + 3)
  | tup {a : Addr} {xs : List V} {ds : List PyData} {k n : Nat} : SqT K H a xs → xs.length = ds.length → (∀ (i : Nat) (x : V) (d : PyData), xs[i]? = some x → ds[i]? = some d → Dq K H x d k n) → Dq K H (.ref a) (.tuple ds) (k + 1) (ds.length * (n + 2) + 3)
  | dic {a : Addr} {k : Nat} : H a = some (.dK []) → Dq K H (.ref a) (.dict []) (k + 1) 3
  | up {v : V} {d : PyData} {k n m : Nat} : Dq K H v d k n → n ≤ m → Dq K H v d k m
theorem Dq.same {K : Fg} {H H' : Hp} (s : Same H H') {v : V} {d : PyData} {k n : Nat} (h : Dq K H v d k n) : Dq K H' v d k n := by
  induction h with
  | non => exact .non
  | bl b => exact .bl b
  | int i h => exact .int i h
  | str x h => exact .str x h
  | lst h1 h2 h3 _ ih => exact .lst (h1.imp (fun r => r.imp (s _ _) fun ⟨o, e⟩ => ⟨o, s _ _ e⟩) id) (fun e => h2 (Option.eq_none_iff_forall_ne_some.mpr fun o z => by rw [s _ _ z] at e; cases e)) h3 ih
  | tup h1 h3 _ ih => exact .tup (h1.imp (fun r => r.imp (s _ _) fun ⟨o, e⟩ => ⟨o, s _ _ e⟩) id) h3 ih
  | dic h => exact .dic (s _ _ h)
  | up _ h ih => exact .up ih h
theorem sum_le {n : Nat} : ∀ {l : List Nat}, (∀ x ∈ l, x ≤ n) → l.sum ≤ l.length * n
  | [], _ => by simp
  | a :: r, h => by
    have h1 := h a (by simp)
    have h2 := sum_le (l := r) fun x hx => h x (List.mem_cons_of_mem _ hx)
    rw [List.sum_cons, List.length_cons, Nat.add_mul]
    omega
theorem shownAll_eq : ∀ ds : List PyData, PyData.shownAll ds = ds.map PyData.shown
  | [] => rfl
  | d :: ds => by rw [PyData.shownAll, shownAll_eq ds, List.map_cons]
theorem showableAll_of : ∀ {ds : List PyData}, (∀ d ∈ ds, d.showable = true) → PyData.showableAll ds = true
  | [], _ => rfl
  | d :: ds, h => by rw [PyData.showableAll, h d (by simp), showableAll_of (ds := ds) fun x hx => h x (List.mem_cons_of_mem _ hx)]; rfl
theorem depthAll_le {k : Nat} : ∀ {ds : List PyData}, (∀ d ∈ ds, d.depth ≤ k) → PyData.depthAll ds ≤ k
  | [], _ => Nat.zero_le _
  | d :: ds, h => by
    have h1 := h d (by simp)
    have h2 := depthAll_le (ds := ds) fun x hx => h x (List.mem_cons_of_mem _ hx)
    simp only [PyData.depthAll]
    omega
theorem mem_both {xs : List V} {ds : List PyData} (hl : xs.length = ds.length) {P : PyData → Prop} (h : ∀ (i : Nat) (x : V) (d : PyData), xs[i]? = some x → ds[i]? = some d → P d) : ∀ d ∈ ds, P d := fun d hd => by
  obtain ⟨i, hi, e⟩ := List.mem_iff_getElem.mp hd
  have hx : i < xs.length := by rw [hl]; exact hi
  exact h i xs[i] d (List.getElem?_eq_getElem hx) (by rw [List.getElem?_eq_getElem hi, e])
theorem Dq.ok {K : Fg} {H : Hp} {v : V} {d : PyData} {k n : Nat} (h : Dq K H v d k n) : d.showable = true ∧ d.depth ≤ k ∧ d.shown.length ≤ n := by
  induction h with
  | non => exact ⟨rfl, Nat.zero_le _, by decide⟩
  | bl b => exact ⟨rfl, Nat.zero_le _, by cases b <;> decide⟩
  | int i hi =>
    refine ⟨decide_eq_true hi, Nat.zero_le _, ?_⟩
    show (Str.ofString (toString i)).length ≤ _
    rw [PySem.ofString_length]
    exact int_text_length_le (by decide) hi
  | str x hx =>
    refine ⟨rfl, Nat.zero_le _, ?_⟩
    refine StrLaws.reprText_len x fun c hc => ?_
    have h1 : x.cps.toList.all (fun c => decide (c < 0x110000)) = true := by rw [Array.all_toList]; exact hx
    have h2 := of_decide_eq_true (List.all_eq_true.mp h1 c hc)
    exact Nat.lt_trans h2 (by decide)
  | lst hs ha hl _ ih =>
    have m := mem_both hl ih
    refine ⟨showableAll_of fun d hd => (m d hd).1, ?_, ?_⟩
    · have := depthAll_le fun d hd => (m d hd).2.1
      simp only [PyData.depth]
      omega
    · simp only [PyData.shown, shownAll_eq]
      refine Nat.le_trans (listText_len_le _) ?_
      have := sum_le (l := ((_ : List PyData).map PyData.shown).map (·.length)) fun x hx => by
        obtain ⟨t, ht, rfl⟩ := List.mem_map.mp hx
        obtain ⟨d, hd, rfl⟩ := List.mem_map.mp ht
        exact (m d hd).2.2
      rw [List.length_map, List.length_map] at this
      rw [List.length_map, Nat.mul_add]
      omega
  | tup hs hl _ ih =>
    have m := mem_both hl ih
    refine ⟨showableAll_of fun d hd => (m d hd).1, ?_, ?_⟩
    · have := depthAll_le fun d hd => (m d hd).2.1
      simp only [PyData.depth]
      omega
    · simp only [PyData.shown, shownAll_eq]
      refine Nat.le_trans (tupleText_len_le _) ?_
      have := sum_le (l := ((_ : List PyData).map PyData.shown).map (·.length)) fun x hx => by
        obtain ⟨t, ht, rfl⟩ := List.mem_map.mp hx
        obtain ⟨d, hd, rfl⟩ := List.mem_map.mp ht
        exact (m d hd).2.2
      rw [List.length_map, List.length_map] at this
      rw [List.length_map, Nat.mul_add]
      omega
  | dic hd => exact ⟨rfl, by simp only [PyData.depth, PyData.depthKv]; omega, by decide⟩
  | up _ hm ih => exact ⟨ih.1, ih.2.1, Nat.le_trans ih.2.2 hm⟩
theorem readsAll_of {h : Heap} {P : List Addr → Prop} (p0 : P []) (pa : ∀ a b, P a → P b → P (a ++ b)) : ∀ {us : List Value} {ds : List PyData}, us.length = ds.length → (∀ (i : Nat) (u : Value) (d : PyData), us[i]? = some u → ds[i]? = some d → ∃ as, Reads h u d as ∧ P as) → ∃ as, ReadsAll h us ds as ∧ P as
  | [], [], _, _ => ⟨[], .nil, p0⟩
  | [], _ :: _, e, _ => by cases e
  | _ :: _, [], e, _ => by cases e
  | u :: us, d :: ds, e, H => by
    obtain ⟨as, h1, n1⟩ := H 0 u d rfl rfl
    obtain ⟨bs, h2, n2⟩ := readsAll_of (us := us) (ds := ds) p0 pa (Nat.succ.inj e) fun i x y hx hy => H (i + 1) x y hx hy
    exact ⟨as ++ bs, .cons h1 h2, pa _ _ n1 n2⟩
section
variable {X : Cx} {pins : List (Addr × Obj)} {σ : L2.St} {H : Hp} {s : Shared}
theorem Dq.reads (sm : (X.K.lookup PySem.sysModules).isSome = true) (I : Inv X pins σ H s) {v : V} {d : PyData} {k n : Nat} (h : Dq X.K H v d k n) : ∀ {u : Value}, RelV v u → ∃ as, Reads s.heap u d as ∧ PySem.sysModules ∉ as := by
  have no1 : H PySem.sysModules = none := by
    obtain ⟨o, e⟩ := Option.isSome_iff_exists.mp sm
    exact (I.bs _ o (I.ok.mod.kin _ _ e)).2
  have ap : ∀ a b : List Addr, PySem.sysModules ∉ a → PySem.sysModules ∉ b → PySem.sysModules ∉ a ++ b := fun a b h1 h2 h => (List.mem_append.mp h).elim h1 h2
  have rel : ∀ {xs : List V} {its : List Value} {ds : List PyData} {k n : Nat}, xs.length = ds.length → (∀ (i : Nat) (x : V) (d : PyData), xs[i]? = some x → ds[i]? = some d → ∀ {u : Value}, RelV x u → ∃ as, Reads s.heap u d as ∧ PySem.sysModules ∉ as) → Vals xs its → ∃ as, ReadsAll s.heap its ds as ∧ PySem.sysModules ∉ as := by
    intro xs its ds k n hl ih rv
    refine readsAll_of (by simp) ap (by rw [← rv.length, hl]) fun i u d hu hd => ?_
    have hi : i < xs.length := by
      have := (List.getElem?_eq_some_iff.mp hd).1
      omega
    obtain ⟨u2, e2, r2⟩ := rv.get (List.getElem?_eq_getElem hi)
    rw [hu] at e2
    cases e2
    exact ih i xs[i] d (List.getElem?_eq_getElem hi) hd r2
  induction h with
  | non => intro u r; cases r; exact ⟨_, .none, by simp⟩
  | bl b => intro u r; cases r; exact ⟨_, .bool b, by simp⟩
  | int i _ => intro u r; obtain ⟨t, rfl⟩ := r; exact ⟨_, .int i t, by simp⟩
  | str x _ => intro u r; obtain ⟨t, rfl⟩ := r; exact ⟨_, .str x t, by simp⟩
  | @lst a xs ds k n hs ha hl _ ih =>
    intro u r
    cases r
    obtain ⟨its, rv, ⟨o, m, ho, hc, _, hd⟩, _⟩ := I.list hs
    obtain ⟨as, h1, h2⟩ := rel (k := k) (n := n) hl ih rv
    refine ⟨_, .list ho hc hd h1, fun hm => ?_⟩
    rcases List.mem_cons.mp hm with e | hm
    · rw [← e] at ha
      exact ha no1
    · exact h2 hm
  | @tup a xs ds k n hs hl _ ih =>
    intro u r
    cases r
    obtain ⟨its, rv, ⟨o, ho, hc, m, hd⟩, _⟩ := I.tuple hs
    obtain ⟨as, h1, h2⟩ := rel (k := k) (n := n) hl ih rv
    exact ⟨_, .tuple ho hc hd h1, h2⟩
  | @dic a k hd =>
    intro u r
    cases r
    obtain ⟨_, na, vs, rk, o, es, ep, h1, h2, h3, h4, h5, _⟩ := (show ObjOk X.prog X.w H s.heap a (.dK []) from I.hok a _ hd)
    cases rk
    have e0 : es.toList = [] := by
      generalize es.toList = l at h5
      cases h5
      rfl
    refine ⟨_, .dict (as := []) (bs := []) h1 h2.1 h3 (by rw [e0]; exact .nil) (by rw [e0]; exact .nil), fun hm => ?_⟩
    have e : PySem.sysModules = a := by simpa using hm
    rw [← e] at na
    exact absurd na (by decide)
  | up _ _ ih => exact ih
/-- repr(x), x data -/
def rRep (K : Fg) : List V → Hp → VK → Prop := fun vs H Q => ∃ x d k n, vs = [x] ∧ Dq K H x d k n ∧ k ≤ 50 ∧ n ≤ 2 ^ 24 ∧ Q (.str d.shown) H
theorem call_repr {X : Cx} {K : Fg} (hK : X.K = K) (sm : (K.lookup PySem.sysModules).isSome = true) (gd : X.A.guards = some []) (hu : X.A.units + 64 < cLine) : CallR X (.builtin "repr") (rRep K) := by
  subst hK
  intro pins s σ H xs us Q I r h
  obtain ⟨x, d, k, n, rfl, hd, hk, hn, q⟩ := h
  obtain ⟨h1, h2, h3⟩ := hd.ok
  have len : d.shown.length ≤ sizeLine := Nat.le_trans h3 (show n ≤ sizeLine from hn)
  cases r with
  | cons r1 r2 =>
    cases r2
    rename_i u
    obtain ⟨as, rd, nm⟩ := hd.reads sm I r1
    cases rd with
    | none => exact PySem.P.repr_of_none ⟨.str _, H, I.tok _, ⟨_, rfl⟩, q⟩
    | bool b => exact PySem.P.repr_of_bool ⟨.str _, H, I.tok _, ⟨_, rfl⟩, q⟩
    | int i t => exact PySem.P.repr_of_int (of_decide_eq_true h1) ⟨.str _, H, I.tok _, ⟨_, rfl⟩, q⟩
    | str x t => exact PySem.P.repr_of_str ⟨.str _, H, I.tok _, ⟨_, rfl⟩, q⟩ len
    | list a b c e => exact repr_of_reads' (.list a b c e) h1 (fun _ => nm) gd (by omega) (fun _ _ z => z) (fun h' u tk hk => ⟨.str _, H, I.kept (t' := tk) hk, ⟨_, rfl⟩, q⟩) len
    | tuple a b c e => exact repr_of_reads' (.tuple a b c e) h1 (fun _ => nm) gd (by omega) (fun _ _ z => z) (fun h' u tk hk => ⟨.str _, H, I.kept (t' := tk) hk, ⟨_, rfl⟩, q⟩) len
    | dict a b c e f => exact repr_of_reads' (.dict a b c e f) h1 (fun _ => nm) gd (by omega) (fun _ _ z => z) (fun h' u tk hk => ⟨.str _, H, I.kept (t' := tk) hk, ⟨_, rfl⟩, q⟩) len
/-- the two ways of a statement meet: what the rest wants is shown once -/
theorem seqJ {t u : TS} {D : Ends} {σ : L2.St} {H : Hp} (S : L2.St → Hp → Prop) (tl : ∀ σ' H', S σ' H' → u D σ' H') (h : ∀ r : L2.St → Hp → Prop, (∀ σ' H', S σ' H' → r σ' H') → t ⟨r, D.rt, D.bk, D.ct⟩ σ H) : tSeq t u D σ H := h (u D) tl
theorem rrp : (∀ K vs H Q, rRep K vs H Q = ∃ x d k n, vs = [x] ∧ Dq K H x d k n ∧ k ≤ 50 ∧ n ≤ 2 ^ 24 ∧ Q (.str d.shown) H) := fun _ _ _ _ => rfl
end
end Sw

/-! zip of tuples that may stand in the written part; tuples of the module within tuples; a def with defaults whose parameters are all written. -/
namespace Sw
open PySem PySem.Spec PyProof.Rows L2
/-! ### zip, tuples of the written part too -/
def iZipK (K : Fg) (ta : TA) : TI := fun σ H R => ta σ H fun vs H1 => ∃ a b xs ys, vs = [.ref a, .ref b] ∧ SqT K H1 a xs ∧ SqT K H1 b ys ∧ R (RZ.ItzT K a b) H1
theorem pi_zipK {X : Cx} {e e2 : Expr} {ta : TA} {p pos tpos : Pos} {elts : List Expr} {kk : Nat} (hg : Gl X "zip") (hm : X.mg "zip" = none) (ha : PA X [e, e2] ta)
    (hs : starEach [e, e2] X.env = (false, eval e X.env) :: starEach [e2] X.env := by rfl) (hpl : (backTo pos (starEach [e2] X.env)).any (·.1) = false := by rfl) :
    PI X (.Tuple elts kk tpos) (.Call (.Name "zip" p) [e, e2] [] pos) (iZipK X.K ta) := by
  refine ⟨fun pins s σ H R I h => (RZ.pi_zipA hg hm (pa_mono ha) hs hpl).run pins s σ H R I ⟨_, h, fun vs H1 q => ?_⟩⟩
  obtain ⟨a, b, xs, ys, ev, h1, h2, q⟩ := q
  exact ⟨a, b, xs, ys, ev, .inr ⟨h1, h2, q⟩⟩
theorem FI.zipK {K : Fg} {a b : Addr} {xs ys : List V} {g : TG} {tb : TS} {D : Ends} {σ : L2.St} {H : Hp} (hl : xs.length = ys.length) (Pv : Nat → L2.St → Hp → Prop) (h0 : Pv 0 σ H) (hq : ∀ i σ H, Pv i σ H → SqT K H a xs ∧ SqT K H b ys)
    (hs : ∀ (n : Nat) (x y : V) (T : Addr) (σ : L2.St) (H : Hp), xs[n]? = some x → ys[n]? = some y → Pv n σ H → H T = none → g (.ref T) σ (upd H T (.tup [x, y])) fun σ2 H2 => tb ⟨Pv (n + 1), D.rt, D.nx, Pv (n + 1)⟩ σ2 H2) (hd : ∀ σ H, Pv xs.length σ H → D.nx σ H) :
    FI (RZ.ItzT K a b) g tb D σ H := RZ.for_zipT (K := K) hl Pv h0 hq (fun n x y T σ H h1 h2 p hT => hs n x y T σ H h1 h2 p hT) hd
theorem rzk : (∀ K ta σ H R, iZipK K ta σ H R = ta σ H fun vs H1 => ∃ a b xs ys, vs = [.ref a, .ref b] ∧ SqT K H1 a xs ∧ SqT K H1 b ys ∧ R (RZ.ItzT K a b) H1) ∧
    (∀ K n t v σ H Q, gTup K n t v σ H Q = ∃ a xs, v = .ref a ∧ SqT K H a xs ∧ xs.length = n ∧ t xs σ H Q) := ⟨fun _ _ _ _ _ => rfl, fun _ _ _ _ _ _ _ => rfl⟩
/-! ### tuples of the module -/
/-- the i-th item of the sequence at a, as a place -/
def itAt (K : Fg) (a : Addr) (i : Nat) : Addr := match K.lookup a with
  | some ⟨_, _, .seq its _, _⟩ => match its[i]? with
    | some (.ref b) => b
    | _ => 0
  | _ => 0
def tupAt (K : Fg) (a : Addr) (vs : List V) : Bool := match K.lookup a with
  | some ⟨.type c, _, .seq its _, _⟩ => decide (c = "tuple") && (decide (its.size ≤ sizeLine) && He.relAll vs its.toList)
  | _ => false
theorem tupAt_ok {K : Fg} {a : Addr} {vs : List V} (h : tupAt K a vs = true) (H : Hp) : SqT K H a vs := by
  unfold tupAt at h
  split at h
  · rename_i c od its n osl q
    simp only [Bool.and_eq_true, decide_eq_true_eq] at h
    exact .inr ⟨_, its, n, q, congrArg Value.type h.1, rfl, h.2.1, He.relAll_ok h.2.2⟩
  · cases h
/-! ### a def with defaults -/
theorem fd_all {K : Fg} {x q : Str} {params : Arguments} {body : List Stmt} {scope : Scope} {dvs : List V} {kws : List (Str × V)} {f : Addr} {fd : FuncData} {ps : List Str} (F : FunD K x q params body scope dvs kws f fd) (hd : dvs ≠ [])
    (h : ∀ (T : Addr) (kV doc pm : Value) (an : Option Addr) (cdv ct : Value) (us its : List Value), us.length = ps.length → its.length = dvs.length →
      ∃ k, bindArgs (PySem.W.fnOf x q params body scope (.ref T) kV doc pm an cdv ct) ⟨us, []⟩ = seqItems? (.ref T) >>= k ∧ k (some its.toArray) = pure (ps.zip us)) : Binds K fd ps [] := by
  obtain ⟨ds, h1, h2⟩ := F.binds1 (ps := ps) ps.length dvs.length hd (by omega) fun T kV doc pm an cdv ct us its hl hi => by
    obtain ⟨k, e1, e2⟩ := h T kV doc pm an cdv ct us its hl hi
    exact ⟨k, e1, by rw [← hi, List.drop_length, List.append_nil]; exact e2⟩
  rw [List.drop_length] at h1
  cases h1
  exact h2
theorem calM_mkD {P : Program} {w : World} {K : Fg} {mg : Str → Option Value} {base : Heap} {k : Nat} {C m q : Str} {N ps : List Str} {sp : Sp} {st : Stmt} {dvs : List V} (hd : dvs ≠ [])
    (F : ∃ fd, FunD K m q (defArgs st) (defBody st) (defScope st) dvs [] (He.ma K (He.ga K C) m) fd) (cls : Cls K (He.ga K C)) (meth : Meth K (He.ga K C) m (He.ma K (He.ga K C) m)) (S : FnScope N ps (defScope st)) (len : ∀ vs H Q E, sp vs H Q E → vs.length = ps.length)
    (hb : ∀ (T : Addr) (kV doc pm : Value) (an : Option Addr) (cdv ct : Value) (us its : List Value), us.length = ps.length → its.length = dvs.length →
      ∃ k, bindArgs (PySem.W.fnOf m q (defArgs st) (defBody st) (defScope st) (.ref T) kV doc pm an cdv ct) ⟨us, []⟩ = seqItems? (.ref T) >>= k ∧ k (some its.toArray) = pure (ps.zip us))
    (hbody : ∀ (cdv : Value) (A : Around) (outer : List Env) (s : Shared) (H : Hp) (vs : List V) (Q : VK) (E : XK), Rm k (A.deeper (envOfC q (defScope st) s.heap.objs.size (He.ma K (He.ga K C) m) cdv)) → sp vs H Q E →
      ∃ t, PSs (cxOf (L2.CX P w) P w K mg base N q (defScope st) (He.ma K (He.ga K C) m) cdv A outer s H E) (defBody st) t ∧ t { nx := fun _ H' => Q .non H', rt := Q } (start N vs) H) : CalM P w K mg base (k + 1) C m ps sp := by
  obtain ⟨fd, F⟩ := F
  exact ⟨⟨fd, fnG_of F S len hbody, fd_all F hd hb⟩, cls, meth⟩
/-! ### o.m(..) within a comprehension -/
section
variable {X : Cx} {k j : Nat} {C m x : Str} {ps : List Str} {sp : Sp} {E : XK} {o e : Expr} {es : List Expr} {ta : TE} {t : TA} {p apos pos : Pos} {pl : Sem Bool}
theorem pe_mthP {K : Fg} (hK : X.K = K) (c : CalM X.prog X.w X.K X.mg X.base k C m ps sp) (hr : Rm j X.A) (hk : k ≤ j) (hx : Passes (L2.CX X.prog X.w) X E) (he : PE X o ta) (ha : PA X (e :: es) t)
    (hst : starEach (e :: es) X.env = (false, eval e X.env) :: starEach es X.env := by rfl) (hpl : (backTo pos (starEach es X.env)).any (·.1) = false := by rfl)
    (ht : eval (.Call (.Attribute o m apos) (e :: es) [] pos) X.env = (do
      let ov ← eval o X.env
      standAt apos.atName
      let (f, first) ← holding [ov] (getMethod ov m pl)
      callWith pos f first (backTo pos (starEach (e :: es) X.env)) (backToKw pos (keywordEach [] X.env))) := by rfl) :
    PE X (.Call (.Attribute o m apos) (e :: es) [] pos) (tMthS (He.ga K C) m sp (fun _ => E) ta t) := by
  subst hK
  exact pe_mth (pl := pl) c hr hk hx he ha hst hpl ht
theorem pe_mth0P {K : Fg} (hK : X.K = K) (c : CalM X.prog X.w X.K X.mg X.base k C m ps sp) (hr : Rm j X.A) (hk : k ≤ j) (hx : Passes (L2.CX X.prog X.w) X E) (he : PE X o ta)
    (ht : eval (.Call (.Attribute o m apos) [] [] pos) X.env = (do
      let ov ← eval o X.env
      standAt apos.atName
      let (f, first) ← holding [ov] (getMethod ov m pl)
      callWith pos f first (backTo pos (starEach [] X.env)) (backToKw pos (keywordEach [] X.env))) := by rfl) :
    PE X (.Call (.Attribute o m apos) [] [] pos) (tMthS (He.ga K C) m sp (fun _ => E) ta tNil) := by
  subst hK
  exact pe_mth0 (pl := pl) c hr hk hx he ht
end
/-! ### promises of more arguments -/
def sp5 (f : V → V → V → V → V → Hp → VK → XK → Prop) : Sp := fun vs H Q E => ∃ a b c d e, vs = [a, b, c, d, e] ∧ f a b c d e H Q E
def sp6 (f : V → V → V → V → V → V → Hp → VK → XK → Prop) : Sp := fun vs H Q E => ∃ a b c d e g, vs = [a, b, c, d, e, g] ∧ f a b c d e g H Q E
theorem len5 (f : V → V → V → V → V → Hp → VK → XK → Prop) {x y z u v : Str} (vs : List V) (H : Hp) (Q : VK) (E : XK) (h : sp5 f vs H Q E) : vs.length = [x, y, z, u, v].length := by obtain ⟨a, b, c, d, e, rfl, _⟩ := h; rfl
theorem len6 (f : V → V → V → V → V → V → Hp → VK → XK → Prop) {x y z u v w : Str} (vs : List V) (H : Hp) (Q : VK) (E : XK) (h : sp6 f vs H Q E) : vs.length = [x, y, z, u, v, w].length := by obtain ⟨a, b, c, d, e, g, rfl, _⟩ := h; rfl
theorem rsp5 : (∀ f a b c d e H Q E, sp5 f [a, b, c, d, e] H Q E = f a b c d e H Q E) ∧ (∀ f a b c d e g H Q E, sp6 f [a, b, c, d, e, g] H Q E = f a b c d e g H Q E) := by
  refine ⟨fun f a b c d e H Q E => propext ⟨fun ⟨_, _, _, _, _, z, h⟩ => ?_, fun h => ⟨_, _, _, _, _, rfl, h⟩⟩, fun f a b c d e g H Q E => propext ⟨fun ⟨_, _, _, _, _, _, z, h⟩ => ?_, fun h => ⟨_, _, _, _, _, _, rfl, h⟩⟩⟩ <;> (cases z; exact h)
end Sw

/-! Defs that may be called while an error is handled too (within an except suite): nothing is known of what is handled. -/
namespace Sw
open PySem PySem.Spec PyProof.Rows L2
structure RmW (k : Nat) (A : Around) : Prop where
  dp : A.depth + 3 * k + 5 < recursionLimit
  un : A.units + 16 * k + 200 < cLine
  gd : A.guards = some []
theorem RmW.mono {j k : Nat} {A : Around} (q : RmW k A) (h : j ≤ k) : RmW j A := ⟨by have := q.dp; omega, by have := q.un; omega, q.gd⟩
theorem RmW.deeper {k : Nat} {A : Around} (q : RmW (k + 1) A) (env : Env) : RmW k (A.deeper env) := ⟨by have := q.dp; show A.depth + 1 + 3 * k + 5 < _; omega, by have := q.un; show A.units + 3 + 16 * k + 200 < _; omega, q.gd⟩
theorem RmW.units {k : Nat} {A : Around} (q : RmW k A) : A.units + 64 < cLine := by have := q.un; omega
theorem RmW.depth {k : Nat} {A : Around} (q : RmW k A) : A.depth < recursionLimit := by have := q.dp; omega
theorem Rm.w {k : Nat} {A : Around} (q : Rm k A) : RmW k A := ⟨q.r.dp, q.r.un, q.gd⟩
theorem Rm.wm {k : Nat} {A : Around} (q : Rm k A) (h : Option Value) : RmW k (A.mark h) := ⟨q.r.dp, q.r.un, q.gd⟩
theorem RmW.wm {k : Nat} {A : Around} (q : RmW k A) (h : Option Value) : RmW k (A.mark h) := ⟨q.dp, q.un, q.gd⟩
structure FnW (P : Program) (w : World) (K : Fg) (mg : Str → Option Value) (base : Heap) (k : Nat) (f : Addr) (fd : FuncData) (ps : List Str) (sp : Sp) : Prop where
  n : ∀ vs H Q E, sp vs H Q E → vs.length = ps.length
  go : ∀ (A : Around) (o : List Env) (s : Shared) (H : Hp) (ar : Args) (us : List Value) (vs : List V) (Q : VK) (E : XK), RmW k A → Env0 P w K mg base A o s H → BindsTo s fd ar (ps.zip us) → Vals vs us → sp vs H Q E →
    codeAny (model P w) A (.call (.ref f) ar) (CR (L2.CX P w) o P w H s Q E) s
section
variable {P : Program} {w : World} {K : Fg} {mg : Str → Option Value} {base : Heap} {k j : Nat} {f : Addr} {fd : FuncData} {ps : List Str} {sp sp' : Sp}
theorem FnW.g (F : FnW P w K mg base k f fd ps sp) : FnG P w K mg base k f fd ps sp := ⟨F.n, fun A o s H ar us vs Q E m e b r q => F.go A o s H ar us vs Q E m.w e b r q⟩
/-- the context of such a body: not calm -/
def cxW (P : Program) (w : World) (K : Fg) (mg : Str → Option Value) (base : Heap) (N : List Str) (qual : Str) (scope : Scope) (f : Addr) (cd : Value) (A : Around) (o : List Env) (s : Shared) (H : Hp) (E : XK) : Cx :=
  { cxOf (L2.CX P w) P w K mg base N qual scope f cd A o s H E with calm := false }
theorem fnW_of {x qual : Str} {params : Arguments} {body : List Stmt} {scope : Scope} {dvs : List V} {kws : List (Str × V)} {N : List Str} (D : FunD K x qual params body scope dvs kws f fd) (S : FnScope N ps scope) (n : ∀ vs H Q E, sp vs H Q E → vs.length = ps.length)
    (hb : ∀ (cdv : Value) (A : Around) (o : List Env) (s : Shared) (H : Hp) (vs : List V) (Q : VK) (E : XK), RmW k (A.deeper (envOfC qual scope s.heap.objs.size f cdv)) → sp vs H Q E →
      ∃ t, PSs (cxW P w K mg base N qual scope f cdv A o s H E) body t ∧ t { nx := fun _ H' => Q .non H', rt := Q } (start N vs) H) : FnW P w K mg base (k + 1) f fd ps sp := by
  obtain ⟨oc, od, dV, kV, doc, pm, an, cdv, ct, osl, rfl, lk, hcd, _, _⟩ := D.ex
  refine ⟨n, ?_⟩
  intro A o s H ar us vs Q E m e b r q
  have vl := n vs H Q E q
  have old : ∀ b o, base.get? b = some o → s.heap.get? b = some o := fun b o z => (e.bs b o z).1
  have kIn : K.In s.heap := e.mod.kin.keeps old
  have nl : s.heap.NoLimit := e.mod.nolimit.keeps old
  have kinds : ∀ y ∈ ps.zip us, scope.names.lookup y.1 = some .local ∨ (scope.names.lookup y.1 = some .cell ∧ ((cellsFrom (s.heap.objs.size + 1) scope.names []).lookup y.1).isSome = true) := by
    rintro ⟨y, u⟩ my
    exact (S.par y (List.of_mem_zip my).1).imp id fun z => ⟨z, PySem.W.cellsFrom_some _ _ _ (.inl z)⟩
  refine codeAny_call_function m.depth (kIn _ _ lk) rfl S.co S.gen rfl (PySem.W.codeRec_of kIn hcd) (b _ _ _ _ (wpAny_newFunctionEnv_cells S.kind kinds fun env ee s1 x => ?_))
  subst ee
  obtain ⟨t, pt, qt⟩ := hb cdv A o s H vs Q E (m.deeper _) q
  have e0 : Env0 P w K mg base { A with handled := none } o s H := ⟨e.frames, e.mod, e.bs, e.bsz, e.funs, e.frf, e.hok, e.bare⟩
  have I0 := inv_start (CX := L2.CX P w) (E := E) S (A := { A with handled := none }) rfl e0 vl r x
  have I : Inv (cxW P w K mg base N qual scope f cdv A o s H E) [] (start N vs) H s1 := by
    have k := I0.ok
    exact ⟨⟨k.mod, k.kind, k.glob, k.blt, k.above, k.inj, k.has, k.cab, (fun z => absurd (show false = true from z) Bool.false_ne_true), k.frames, k.stk, k.exf, k.bs, k.bsz, k.noex, k.exfs, k.funs, k.frf⟩, I0.os, I0.bare, I0.base, I0.loc, I0.cell, I0.free, I0.freeC, I0.pin, I0.hok, I0.len⟩
  refine ⟨nl.keeps x.toInCall.keep, codeAny_func (wpAny_mono (pt.run [] s1 (start N vs) H _ I qt) ?_ fun _ _ z => z)⟩
  intro fl s2 z
  have ends : ∀ {σ2 : L2.St} {H2 : Hp} {v : V} {u : Value}, Inv (cxW P w K mg base N qual scope f cdv A o s H E) [] σ2 H2 s2 → RelV v u → Q v H2 → CE o P w H s Q u s2 := by
    intro σ2 H2 v u J rv qv
    exact ⟨v, H2, J.os, J.bare, J.base, J.hok, rv, qv⟩
  rcases fl with _ | _ | _ | u
  all_goals first
    | (obtain ⟨σ2, H2, J, qv⟩ := z; first | exact False.elim qv | exact ends (v := .non) (u := .none) J rfl qv)
    | (obtain ⟨v, σ2, H2, J, rv, qv⟩ := z; exact ends J rv qv)
end
structure CalW (P : Program) (w : World) (K : Fg) (mg : Str → Option Value) (base : Heap) (k : Nat) (x : Str) (ps : List Str) (sp : Sp) : Prop where
  ex : ∃ fd : FuncData, FnW P w K mg base k (He.ga K x) fd ps sp ∧ Binds K fd ps []
  at_ : mg x = some (.ref (He.ga K x))
  kp : PySem.W.keepIn K (.ref (He.ga K x)) = true
theorem CalW.cal {P : Program} {w : World} {K : Fg} {mg : Str → Option Value} {base : Heap} {k : Nat} {x : Str} {ps : List Str} {sp : Sp} (c : CalW P w K mg base k x ps sp) : Cal P w K mg base k x ps sp := by
  obtain ⟨⟨fd, F, b⟩, a, kp⟩ := c
  exact ⟨⟨fd, F.g, b⟩, a, kp⟩
theorem calW_mk {P : Program} {w : World} {K : Fg} {mg : Str → Option Value} {base : Heap} {k : Nat} {x : Str} {N ps : List Str} {sp : Sp} {st : Stmt}
    (F : ∃ fd, FunD K x x (defArgs st) (defBody st) (defScope st) [] [] (He.ga K x) fd) (hm : mg x = some (.ref (He.ga K x))) (S : FnScope N ps (defScope st)) (len : ∀ vs H Q E, sp vs H Q E → vs.length = ps.length)
    (hb : ∀ (kV doc pm : Value) (an : Option Addr) (cdv ct : Value) (us : List Value), us.length = ps.length → bindArgs (PySem.W.fnOf x x (defArgs st) (defBody st) (defScope st) .none kV doc pm an cdv ct) ⟨us, []⟩ = pure (ps.zip us))
    (hbody : ∀ (cdv : Value) (A : Around) (outer : List Env) (s : Shared) (H : Hp) (vs : List V) (Q : VK) (E : XK), RmW k (A.deeper (envOfC x (defScope st) s.heap.objs.size (He.ga K x) cdv)) → sp vs H Q E →
      ∃ t, PSs (cxW P w K mg base N x (defScope st) (He.ga K x) cdv A outer s H E) (defBody st) t ∧ t { nx := fun _ H' => Q .non H', rt := Q } (start N vs) H) : CalW P w K mg base (k + 1) x ps sp := by
  obtain ⟨fd, F⟩ := F
  exact ⟨⟨fd, fnW_of F S len hbody, F.bindsN hb⟩, hm, F.kp⟩
theorem run_fnW {X : Cx} {k : Nat} {f : Addr} {fd : FuncData} {ps : List Str} {sp : Sp} {E : L2.St → XK} {pins : List (Addr × Obj)} {σ : L2.St} {H : Hp} {s : Shared} {Q : VK} {us : List Value} {vs : List V}
    (F : FnW X.prog X.w X.K X.mg X.base k f fd ps sp) (m : RmW k X.A) (hb : Binds X.K fd ps []) (hx : PassesAt (L2.CX X.prog X.w) X σ (E σ)) (I : Inv X pins σ H s) (r : Vals vs us) (q : sp vs H Q (E σ)) :
    wpAny (model X.prog X.w) X.A (call (.ref f) us) (EP X pins σ Q) X.xe s := by
  have ul : us.length = ps.length := r.length.symm.trans (F.n _ _ _ _ q)
  have bd : BindsTo s fd ⟨us, []⟩ (ps.zip us) := by simpa using hb s us I.kIn (by simpa using ul)
  refine wpAny_call (codeAny_mono (F.go X.A X.stack s H ⟨us, []⟩ us vs Q (E σ) m I.env0 bd r q) ?_)
  rintro (e | (_ | _ | _ | u)) s2 z <;> first | exact z.elim | exact hx pins H s e s2 I z | exact I.after z
theorem pe_calW {X : Cx} {k j : Nat} {x : Str} {ps : List Str} {sp : Sp} {E : XK} {p pos : Pos} {e : Expr} {es : List Expr} {t : TA} (c : CalW X.prog X.w X.K X.mg X.base k x ps sp) (hr : RmW j X.A) (hk : k ≤ j) (hx : Passes (L2.CX X.prog X.w) X E) (hg : Gl X x) (ha : PA X (e :: es) t)
    (hd : (x == ("__debug__" : Str)) = false := by decide) (he : starEach (e :: es) X.env = (false, eval e X.env) :: starEach es X.env := by rfl) (hpl : (backTo pos (starEach es X.env)).any (·.1) = false := by rfl) :
    PE X (.Call (.Name x p) (e :: es) [] pos) (tCallS sp (fun _ => E) t) := by
  obtain ⟨fd, F, b⟩ := c.ex
  refine ⟨fun pins s σ H Q I h => wpAny_Call_Name_kw (ld_glob I hg c.at_ ?_ hd)⟩
  refine PySem.W.callWith_K (h₀ := X.base) I.ok.mod.kin c.kp (thn (ha.run pos pins s σ H _ I h) fun us s1 ⟨vs, H1, I1, r, q⟩ => ⟨I1.kIn, ?_⟩) he hpl
  exact run_fnW (E := fun _ => E) F (hr.mono hk) b (fun pins H s e s' I c => hx pins σ H s e s' I c) I1 r q
end Sw

/-! t[::-1] and t * 1 of a tuple. -/
namespace Sw
open PySem PySem.Spec PyProof.Rows L2
section
variable {prog : Program} {w : World} {A : Around} {E : Value → Shared → Prop} {s : Shared}
theorem part_any {v : Value} {o : Option Int} {Q : Option Int → Shared → Prop} (p : IsPart v o) (h : Q o s) : wpAny (model prog w) A (Builtin.Slice.slicePartIndex v) Q E s := HT.slicePart_ p h
theorem applied_rev {sl : Addr} {vl vu vs : Value} {n : Nat} {Q : Int × Int × Nat → Shared → Prop} (hs : s.heap.IsSliceOf sl vl vu vs) (pl : IsPart vl none) (pu : IsPart vu none) (ps : IsPart vs (some (-1)))
    (h : Q ((n : Int) - 1, -1, n) s) : wpAny (model prog w) A (Builtin.Slice.sliceApplied (.ref sl) (pure (n : Int))) Q E s := by
  obtain ⟨os, hos, hcs, hds⟩ := id hs
  unfold Builtin.Slice.sliceApplied Builtin.Slice.sliceFields
  refine wpAny_bind (wpAny_bind (wpAny_field hos hds (x := vl) rfl (wpAny_bind (wpAny_field hos hds (x := vu) rfl (wpAny_bind (wpAny_field hos hds (x := vs) rfl (wpAny_pure ?_)))))))
  refine wpAny_bind (part_any ps ?_)
  show wpAny _ _ (if ((-1 : Int) == 0) = true then _ else _) _ _ s
  rw [if_neg (by decide)]
  refine wpAny_bind (part_any pl (wpAny_bind (part_any pu (wpAny_bind (wpAny_pure ?_)))))
  show wpAny _ _ (match Builtin.Slice.sliceAdjust none none (-1) (n : Int) with | (lo, hi) => pure (lo, (-1 : Int), Builtin.Slice.slicePlaces lo hi (-1))) _ _ s
  have e : Builtin.Slice.sliceAdjust none none (-1) (n : Int) = ((n : Int) - 1, -1) := by
    unfold Builtin.Slice.sliceAdjust
    simp
  rw [e]
  show wpAny _ _ (pure ((n : Int) - 1, (-1 : Int), Builtin.Slice.slicePlaces ((n : Int) - 1) (-1) (-1))) _ _ s
  have e2 : Builtin.Slice.slicePlaces ((n : Int) - 1) (-1) (-1) = n := by
    unfold Builtin.Slice.slicePlaces
    simp
    try omega
  rw [e2]
  exact wpAny_pure h
theorem pick_rev (xs : Array Value) : ((List.range xs.size).filterMap fun (k : Nat) => xs[((xs.size : Int) - 1 + (k : Int) * (-1)).toNat]?).toArray = xs.toList.reverse.toArray := by
  congr 1
  have gen : ∀ l : List Nat, (∀ k ∈ l, k < xs.size) → l.filterMap (fun (k : Nat) => xs[((xs.size : Int) - 1 + (k : Int) * (-1)).toNat]?) = l.map fun k => xs.toList.reverse.getD k .none := by
    intro l
    induction l with
    | nil => intro _; rfl
    | cons k r ih =>
      intro hm
      have hk : k < xs.size := hm k (by simp)
      have e0 : ((xs.size : Int) - 1 + (k : Int) * (-1)).toNat = xs.size - 1 - k := by omega
      have e1 : xs[((xs.size : Int) - 1 + (k : Int) * (-1)).toNat]? = some (xs.toList.reverse.getD k .none) := by
        rw [e0, ← Array.getElem?_toList, List.getD_eq_getElem?_getD, List.getElem?_reverse (by simpa using hk), Array.length_toList, List.getElem?_eq_getElem (by rw [Array.length_toList]; omega)]
        rfl
      rw [List.filterMap_cons, e1, ih fun x hx => hm x (List.mem_cons_of_mem _ hx), List.map_cons]
  have e := gen (List.range xs.size) fun k hk => List.mem_range.mp hk
  rw [e]
  refine List.ext_getElem (by simp) fun i h1 h2 => ?_
  rw [List.getElem_map, List.getElem_range, List.getD_eq_getElem?_getD, List.getElem?_eq_getElem h2]
  rfl
theorem getItem_tuple_rev {t sl : Addr} {items : Array Value} {vl vu vs : Value} {Q : Value → Shared → Prop} (ht : IsTup s.heap t items) (hs : s.heap.IsSliceOf sl vl vu vs) (pl : IsPart vl none) (pu : IsPart vu none) (ps : IsPart vs (some (-1)))
    (h : Q (.ref s.heap.objs.size) { s with heap := s.heap.push { cls := .type "tuple", data := .seq items.toList.reverse.toArray } }) (hsz : items.size ≤ sizeLine) : wpAny (model prog w) A (getItem (.ref t) (.ref sl)) Q E s := by
  have hr : sizeOk (.seq items.toList.reverse.toArray) := by
    show items.toList.reverse.toArray.size ≤ sizeLine
    rw [List.size_toArray, List.length_reverse, Array.length_toList]
    exact hsz
  obtain ⟨os, hos, hcs, hds⟩ := id hs
  have hTs : s.TypeIs (.ref sl) "slice" := ⟨os, hos, hcs⟩
  unfold getItem
  try with_reducible refine wpAny_holding ?_
  first | refine wpAny_bind (wpAny_pure ?_) | skip
  refine wpAny_bind (wpAny_sequenceKey ht.typeIs (by decide) ?_)
  refine wpAny_bind (wpAny_callSpecial?_slot (name := Str.ofString "__getitem__") ht.typeIs PyProof.Rows.slot_tuple_getitem
    (wpAny_call_entry PyProof.Rows.slot_tuple_getitem ht.typeIs entry_tuple_getitem ?_ (args_tuple_getitem _ _)))
  show wpAny _ _ (Builtin.Tuple.tupleItemsOf (.ref t) >>= _) _ _ s
  refine wpAny_bind (tupleItemsOf_ ht ?_)
  refine wpAny_bind (wpAny_typeOf hTs ?_)
  rw [if_pos (by decide)]
  refine wpAny_bind (applied_rev hs pl pu ps ?_)
  have hno : ¬ ((((items.size : Int) - 1) == 0 && (-1 : Int) == 1 && items.size == items.size) = true) := by
    intro q
    rw [Bool.and_eq_true, Bool.and_eq_true] at q
    exact absurd (eq_of_beq q.1.2) (by decide)
  show wpAny _ _ (if (((items.size : Int) - 1) == 0 && (-1 : Int) == 1 && items.size == items.size) = true then _ else _) _ _ s
  rw [if_neg hno, pick_rev]
  first
    | exact wpAny_bind (m := Builtin.Tuple.tupleExact _) (wpAny_newObj_type (wpAny_pure ⟨_, rfl, wpAny_pure h⟩) hr)
    | exact wpAny_bind (m := Builtin.Tuple.tupleExact _) (wpAny_newObj_type (wpAny_bind (wpAny_pure (wpAny_pure ⟨_, rfl, wpAny_pure h⟩))) hr)
    | exact wpAny_bind (wpAny_bind (m := Builtin.Tuple.tupleExact _) (wpAny_newObj_type (wpAny_pure (wpAny_pure ⟨_, rfl, wpAny_pure h⟩)) hr))
    | exact wpAny_bind (wpAny_bind (m := Builtin.Tuple.tupleExact _) (wpAny_newObj_type (wpAny_pure ⟨_, rfl, wpAny_pure h⟩) hr))
end
/-- t[::-1], a new tuple -/
def tRevT (K : Fg) (te : TE) : TE := fun σ H Q => te σ H fun x H1 => ∃ a xs, x = .ref a ∧ SqT K H1 a xs ∧ ∀ p H2, Al H1 p (.tup xs.reverse) H2 → Q (.ref p) H2
theorem pe_revT {X : Cx} {e : Expr} {te : TE} {k : Nat} {p1 p2 p3 pos : Pos} (he : PE X e te) : PE X (.Subscript e (.Slice none none (some (.UnaryOp .USub (.Constant (.int 1) k p1) p2)) p3) pos) (tRevT X.K te) := by
  refine ⟨fun pins s σ H Q I h => Subscript_ (thn (he.run pins s σ H _ I h) fun v s1 ⟨x, H1, I1, r1, q1⟩ => ?_)⟩
  obtain ⟨a, xs, ex, hx, q⟩ := q1
  subst ex
  cases r1
  have hst : PO X (some (.UnaryOp .USub (.Constant (.int 1) k p1) p2)) (tPart (tUn (rU fun i => .int (-i)) (tC (.int 1)))) := po_some (pe_un un_neg pe_int)
  refine wpAny_Slice (thn (po_none.run pins s1 σ H1 (fun o H2 => o = none ∧ H2 = H1) I1 ⟨rfl, rfl⟩) fun vl s2 ⟨l, H2, I2, pl, el, e2⟩ => ?_)
  subst el e2
  refine thn (po_none.run pins s2 σ H2 (fun o H3 => o = none ∧ H3 = H2) I2 ⟨rfl, rfl⟩) fun vu s3 ⟨u, H3, I3, pu, eu, e3⟩ => ?_
  subst eu e3
  refine thn (hst.run pins s3 σ H3 (fun o H4 => o = some (-1) ∧ H4 = H3) I3 ⟨1, rfl, -1, rfl, rfl, rfl⟩) fun vs s4 ⟨o, H4, I4, ps, eo, e4⟩ => ?_
  subst eo e4
  have I5 : Inv X pins σ H4 { s4 with heap := s4.heap.push { cls := .type "slice", data := .fields #[vl, vu, vs] } } := I4.kept (t' := s4.toks) fun b ob q => Heap.get?_push_of_some _ q
  obtain ⟨its, r, ht, hz⟩ := I5.tuple hx
  have hlen : its.toArray.size = xs.length := by rw [List.size_toArray]; exact r.length.symm
  show wpAny (model X.prog X.w) X.A (subscriptTail e (.Slice none none (some (.UnaryOp .USub (.Constant (.int 1) k p1) p2)) p3) (.ref a) (.ref s4.heap.objs.size)) (EP X pins σ Q) X.xe { s4 with heap := s4.heap.push { cls := .type "slice", data := .fields #[vl, vu, vs] } }
  refine tail_any (ops := [.ref a, .ref s4.heap.objs.size]) ht.typeIs (PyProof.Rows.slot_tuple_getitem.lookup) ?_ (by with_unfolding_all rfl)
  refine getItem_tuple_rev ht (Heap.IsSliceOf.new _ vl vu vs) pl pu ps ?_ (by rw [hlen]; exact hz)
  refine ⟨.ref _, _, I5.laid (t' := s4.toks) (o := .tup xs.reverse) (fun b ob q => Heap.get?_push_of_some _ q) (Nat.le_refl _) ?_, rfl, q _ _ (Al.mk' (I5.hok.fresh (Nat.le_refl _)))⟩
  exact ⟨by rw [List.length_reverse]; exact hz, _, r.reverse, IsTup.new _ _⟩
/-! ### t * n, n at least 1 -/
theorem tuple_mul1 (l : Addr) (items : Array Value) (n : Nat) (dd : Option Addr) (sl : Array (Option Value)) (u : Tok) :
    Meets (Builtin.«tuple.__mul__» ⟨[.ref l, .int 1 u], []⟩) (fun _ R s => s.heap.get? l = some { cls := .type "tuple", dict := dd, data := .seq items n, slots := sl } ∧ R (.ok (.ret (Value.ref l))) s) :=
  .of_wp fun prog w A R s h => by
    obtain ⟨hp, g, d, tk, os⟩ := s
    obtain ⟨hl, h⟩ := h
    have f1 := AutoSeq1.idx_int
    have c1 : (items.isEmpty || (1 : Int) == 1) = true := by simp
    wp_walk using wpAny_loadPart' hl
    exact ⟨_, rfl, h⟩
def rRep1 (K : Fg) : R2 := fun x y H Q => ∃ l xs, x = .ref l ∧ y = .int 1 ∧ SqT K H l xs ∧ Q (.ref l) H
theorem op_rep1 {X : Cx} : OpR X (binaryOp .Mult) (rRep1 X.K) := by
  intro pins s σ H x y v u Q I rx ry h
  obtain ⟨l, xs, rfl, rfl, hT, q⟩ := h
  cases rx
  obtain ⟨t, rfl⟩ := ry
  obtain ⟨its, r, ⟨⟨cls, dd, data, sl⟩, ho, hc, n, hd⟩, hs⟩ := I.tuple hT
  simp only at hc hd
  subst hc hd
  exact wpAny_binaryOp_repeat_ref (T := "tuple") (U := "int") (by decide) ⟨_, ho, rfl⟩ (fun s' => typeIs_int s' 1 t) noFill_tuple_mul F.fills_int_mul F.slot_int_rmul repeat_tuple F.slot_int_index.lookup
    (call_meets F.slot_int_rmul (typeIs_int s 1 t) F.entry_int_rmul (F.args_int_rmul_2 _ _) (int_rmul_tuple 1 t l its.toArray n dd sl)
      ⟨ho, rfl, ⟨_, ho, rfl⟩, call_meets F.slot_tuple_mul ⟨_, ho, rfl⟩ F.entry_tuple_mul (F.args_tuple_mul_2 _ _) (tuple_mul1 l its.toArray n dd sl t) ⟨ho, ⟨.ref l, H, I, rfl, q⟩⟩⟩)
/-- t * n, t not empty, n at least 1 -/
def rRepP (K : Fg) : R2 := fun x y H Q => rRep1 K x y H Q ∨ rRepTAl K x y H Q
theorem op_repP {X : Cx} : OpR X (binaryOp .Mult) (rRepP X.K) := OpR.or op_rep1 op_repTAl
theorem rrt : (∀ K te σ H Q, tRevT K te σ H Q = te σ H fun x H1 => ∃ a xs, x = .ref a ∧ SqT K H1 a xs ∧ ∀ p H2, Al H1 p (.tup xs.reverse) H2 → Q (.ref p) H2) := fun _ _ _ _ _ => rfl
/-- t + u, t[lo:hi] of tuples of the heap: the heap behind stays a name -/
def rCatP : R2 := fun x y H Q => ∃ a b xs ys, x = .ref a ∧ y = .ref b ∧ H a = some (.tup xs) ∧ H b = some (.tup ys) ∧ xs.length + ys.length ≤ sizeLine ∧ ∀ p H2, Same H H2 → H2 p = some (.tup (xs ++ ys)) → Q (.ref p) H2
theorem op_catP {X : Cx} : OpR X (binaryOp .Add) rCatP := fun pins s σ H x y v u Q I rx ry ⟨a, b, xs, ys, e1, e2, h1, h2, hl, q⟩ =>
  op_catA pins s σ H x y v u Q I rx ry ⟨a, b, xs, ys, e1, e2, SqT.of h1, SqT.of h2, hl, fun e => q b H (fun _ _ e => e) (by rw [e]; exact h2), fun _ e => q a H (fun _ _ e => e) (by rw [e, List.append_nil]; exact h1), fun _ _ p hp => q p _ (Same.new hp) upd_same⟩
def rSlP : V → Option Int → Option Int → Hp → VK → Prop := fun x lo hi H Q => ∃ a xs, x = .ref a ∧ H a = some (.tup xs) ∧ ∀ p H2, Same H H2 → H2 p = some (.tup (cutV xs lo hi)) → Q (.ref p) H2
theorem sl_tupP {X : Cx} : SlR X rSlP := fun pins s σ H x v vl vu lo hi sl Q I rx hs pl pu ⟨a, xs, e, h, q⟩ =>
  sl_tupA pins s σ H x v vl vu lo hi sl Q I rx hs pl pu ⟨a, xs, e, SqT.of h, fun z => q a H (fun _ _ e => e) (by
    unfold cutV
    rw [z.1, z.2, List.drop_zero, Nat.sub_zero, List.take_length]
    exact h), fun _ p hp => q p _ (Same.new hp) upd_same⟩
theorem rtp : (∀ x y H Q, rCatP x y H Q = ∃ a b xs ys, x = .ref a ∧ y = .ref b ∧ H a = some (.tup xs) ∧ H b = some (.tup ys) ∧ xs.length + ys.length ≤ sizeLine ∧ ∀ p H2, Same H H2 → H2 p = some (.tup (xs ++ ys)) → Q (.ref p) H2) ∧
    (∀ x lo hi H Q, rSlP x lo hi H Q = ∃ a xs, x = .ref a ∧ H a = some (.tup xs) ∧ ∀ p H2, Same H H2 → H2 p = some (.tup (cutV xs lo hi)) → Q (.ref p) H2) := ⟨fun _ _ _ _ => rfl, fun _ _ _ _ _ => rfl⟩
/-- a comprehension over zip -/
theorem LC.zip {K : Fg} {a b : Addr} {oa ob : HO} {xs ys : List V} {g : TG} {tt : TT} {te : TE} {vs : List Nat} {σ : L2.St} {H1 : Hp} {Q : VK} (hx : seqO oa = some xs) (hy : seqO ob = some ys) (ht : isT ob = isT oa) (hl : xs.length = ys.length) (Pv : Addr → Nat → Hp → Prop)
    (h0 : ∀ D, H1 D = none → Pv D 0 (upd H1 D (.lst []))) (hq : ∀ D i H, H1 D = none → Pv D i H → H a = some oa ∧ H b = some ob)
    (hs : ∀ D i x y T H, H1 D = none → xs[i]? = some x → ys[i]? = some y → Pv D i H → H T = none → g (.ref T) (wipe σ vs) (upd H T (.tup [x, y])) fun σ2 H2 => wipe σ2 vs = wipe σ vs ∧ tt σ2 H2 fun b H3 =>
      Be b (fun H3 => te σ2 H3 fun y H4 => ∃ acc, H4 D = some (.lst acc) ∧ acc.length < sizeLine ∧ Pv D (i + 1) (upd H4 D (.lst (acc ++ [y])))) (Pv D (i + 1)) H3)
    (hd : ∀ D H, H1 D = none → Pv D xs.length H → Q (.ref D) H) : LC (ItZ K a b oa) g tt te vs σ Q H1 := fun D nD => by
  refine ⟨fun i m H => Pv D i H ∧ i + m = xs.length, ⟨xs.length, h0 D nD, by omega⟩, ?_⟩
  rintro i m H ⟨p, hm⟩
  obtain ⟨qa, qb⟩ := hq D i H nD p
  unfold ItZ
  cases t : isT oa with
  | true =>
    rw [if_pos rfl]
    have sx := seqO_T (K := K) qa hx t
    have sy := seqO_T (K := K) qb hy (ht.trans t)
    by_cases h : i < xs.length
    · refine .inr ⟨⟨xs, ys, xs[i], ys[i], sx, sy, List.getElem?_eq_getElem h, List.getElem?_eq_getElem (by omega)⟩, fun H' => Pv D (i + 1) H', fun H' p' => ⟨m - 1, by omega, p', by omega⟩, ?_⟩
      rintro v H' ⟨T, x, y, rfl, hT, rfl, h1, h2⟩
      exact hs D i x y T H nD (h1 xs sx) (h2 ys sy) p hT
    · have e : i = xs.length := by omega
      subst e
      exact .inl ⟨⟨xs, ys, sx, sy, .inl (Nat.le_refl _)⟩, hd D H nD p⟩
  | false =>
    rw [if_neg (by decide)]
    have sx := seqO_L (K := K) qa hx t
    have sy := seqO_L (K := K) qb hy (ht.trans t)
    by_cases h : i < xs.length
    · refine .inr ⟨⟨xs, ys, xs[i], ys[i], sx, sy, List.getElem?_eq_getElem h, List.getElem?_eq_getElem (by omega)⟩, fun H' => Pv D (i + 1) H', fun H' p' => ⟨m - 1, by omega, p', by omega⟩, ?_⟩
      rintro v H' ⟨T, x, y, rfl, hT, rfl, h1, h2⟩
      exact hs D i x y T H nD (h1 xs sx) (h2 ys sy) p hT
    · have e : i = xs.length := by omega
      subst e
      exact .inl ⟨⟨xs, ys, sx, sy, .inl (Nat.le_refl _)⟩, hd D H nD p⟩
end Sw

namespace Law
open PySem PySem.Spec PyProof.Rows L2 Sw
def top (i : Nat) : Stmt := PySem.Challenge.pw_splitwide_k68_whole_stretches_that_meet.main.body.getD i (.Pass ⟨0, 0, 0, 0⟩)
abbrev s_is_whole : Stmt := top 8
abbrev nm_is_whole : List Str := ["thing"]
theorem sc_is_whole : FnScope nm_is_whole ["thing"] (defScope s_is_whole) := ⟨rfl, rfl, rfl, by decide +kernel, rfl, by decide +kernel, by decide +kernel⟩
abbrev s_is_within : Stmt := top 9
abbrev nm_is_within : List Str := ["thing", "low", "high"]
theorem sc_is_within : FnScope nm_is_within ["thing", "low", "high"] (defScope s_is_within) := ⟨rfl, rfl, rfl, by decide +kernel, rfl, by decide +kernel, by decide +kernel⟩
abbrev s_is_part : Stmt := top 11
abbrev nm_is_part : List Str := ["machine", "thing"]
theorem sc_is_part : FnScope nm_is_part ["machine", "thing"] (defScope s_is_part) := ⟨rfl, rfl, rfl, by decide +kernel, rfl, by decide +kernel, by decide +kernel⟩
abbrev s_need_part : Stmt := top 12
abbrev nm_need_part : List Str := ["machine", "thing"]
theorem sc_need_part : FnScope nm_need_part ["machine", "thing"] (defScope s_need_part) := ⟨rfl, rfl, rfl, by decide +kernel, rfl, by decide +kernel, by decide +kernel⟩
abbrev s_first_unlike : Stmt := top 13
abbrev nm_first_unlike : List Str := ["one", "other", "at"]
theorem sc_first_unlike : FnScope nm_first_unlike ["one", "other"] (defScope s_first_unlike) := ⟨rfl, rfl, rfl, by decide +kernel, rfl, by decide +kernel, by decide +kernel⟩
abbrev s_meeting : Stmt := top 14
abbrev nm_meeting : List Str := ["machine", "one", "other", "first", "behind"]
theorem sc_meeting : FnScope nm_meeting ["machine", "one", "other"] (defScope s_meeting) := ⟨rfl, rfl, rfl, by decide +kernel, rfl, by decide +kernel, by decide +kernel⟩
abbrev s_need_much : Stmt := top 18
abbrev nm_need_much : List Str := ["thing"]
theorem sc_need_much : FnScope nm_need_much ["thing"] (defScope s_need_much) := ⟨rfl, rfl, rfl, by decide +kernel, rfl, by decide +kernel, by decide +kernel⟩
abbrev s_need_odd : Stmt := top 19
abbrev nm_need_odd : List Str := ["thing"]
theorem sc_need_odd : FnScope nm_need_odd ["thing"] (defScope s_need_odd) := ⟨rfl, rfl, rfl, by decide +kernel, rfl, by decide +kernel, by decide +kernel⟩
abbrev s_need_far : Stmt := top 20
abbrev nm_need_far : List Str := ["thing"]
theorem sc_need_far : FnScope nm_need_far ["thing"] (defScope s_need_far) := ⟨rfl, rfl, rfl, by decide +kernel, rfl, by decide +kernel, by decide +kernel⟩
abbrev s_need_step : Stmt := top 31
abbrev nm_need_step : List Str := ["thing"]
theorem sc_need_step : FnScope nm_need_step ["thing"] (defScope s_need_step) := ⟨rfl, rfl, rfl, by decide +kernel, rfl, by decide +kernel, by decide +kernel⟩
abbrev s__law_cell_at : Stmt := top 39
abbrev nm__law_cell_at : List Str := ["script", "k"]
theorem sc__law_cell_at : FnScope nm__law_cell_at ["script", "k"] (defScope s__law_cell_at) := ⟨rfl, rfl, rfl, by decide +kernel, rfl, by decide +kernel, by decide +kernel⟩
abbrev s__law_box : Stmt := top 40
abbrev nm__law_box : List Str := ["cell"]
theorem sc__law_box : FnScope nm__law_box ["cell"] (defScope s__law_box) := ⟨rfl, rfl, rfl, by decide +kernel, rfl, by decide +kernel, by decide +kernel⟩
abbrev s__law_take : Stmt := top 41
abbrev nm__law_take : List Str := ["box", "many", "number"]
theorem sc__law_take : FnScope nm__law_take ["box", "many"] (defScope s__law_take) := ⟨rfl, rfl, rfl, by decide +kernel, rfl, by decide +kernel, by decide +kernel⟩
abbrev s__law_is_whole : Stmt := top 42
abbrev nm__law_is_whole : List Str := ["thing"]
theorem sc__law_is_whole : FnScope nm__law_is_whole ["thing"] (defScope s__law_is_whole) := ⟨rfl, rfl, rfl, by decide +kernel, rfl, by decide +kernel, by decide +kernel⟩
abbrev s__law_step : Stmt := top 43
abbrev nm__law_step : List Str := ["box", "word", "number"]
theorem sc__law_step : FnScope nm__law_step ["box"] (defScope s__law_step) := ⟨rfl, rfl, rfl, by decide +kernel, rfl, by decide +kernel, by decide +kernel⟩
abbrev s__law_machine : Stmt := top 44
abbrev nm__law_machine : List Str := ["box", "depth", "bits", "place_bits", "seed_bits", "k"]
theorem sc__law_machine : FnScope nm__law_machine ["box"] (defScope s__law_machine) := ⟨rfl, rfl, rfl, by decide +kernel, rfl, by decide +kernel, by decide +kernel⟩
abbrev s__law_made : Stmt := top 45
abbrev nm__law_made : List Str := ["m", "steps", "word", "number"]
theorem sc__law_made : FnScope nm__law_made ["m"] (defScope s__law_made) := ⟨rfl, rfl, rfl, by decide +kernel, rfl, by decide +kernel, by decide +kernel⟩
abbrev s__law_onward : Stmt := top 46
abbrev nm__law_onward : List Str := ["steps", "number", "width", "states", "word", "by", "far"]
theorem sc__law_onward : FnScope nm__law_onward ["steps", "number", "width"] (defScope s__law_onward) := ⟨rfl, rfl, rfl, by decide +kernel, rfl, by decide +kernel, by decide +kernel⟩
abbrev s__law_state_by : Stmt := top 47
abbrev nm__law_state_by : List Str := ["m", "seed", "digits", "place", "number", "digit"]
theorem sc__law_state_by : FnScope nm__law_state_by ["m", "seed", "digits", "place"] (defScope s__law_state_by) := ⟨rfl, rfl, rfl, by decide +kernel, rfl, by decide +kernel, by decide +kernel⟩
abbrev s__law_state : Stmt := top 48
abbrev nm__law_state : List Str := ["m", "seed", "path", "place", "digits", "child"]
theorem sc__law_state : FnScope nm__law_state ["m", "seed", "path", "place"] (defScope s__law_state) := ⟨rfl, rfl, rfl, by decide +kernel, rfl, by decide +kernel, by decide +kernel⟩
abbrev s__law_seed : Stmt := top 49
abbrev nm__law_seed : List Str := ["box", "m"]
theorem sc__law_seed : FnScope nm__law_seed ["box", "m"] (defScope s__law_seed) := ⟨rfl, rfl, rfl, by decide +kernel, rfl, by decide +kernel, by decide +kernel⟩
abbrev s__law_path : Stmt := top 50
abbrev nm__law_path : List Str := ["box", "m", "parts", "k"]
theorem sc__law_path : FnScope nm__law_path ["box", "m"] (defScope s__law_path) := ⟨rfl, rfl, rfl, by decide +kernel, rfl, by decide +kernel, by decide +kernel⟩
abbrev s__law_same : Stmt := top 51
abbrev nm__law_same : List Str := ["found", "due", "k"]
theorem sc__law_same : FnScope nm__law_same ["found", "due"] (defScope s__law_same) := ⟨rfl, rfl, rfl, by decide +kernel, rfl, by decide +kernel, by decide +kernel⟩
abbrev s__law_stretch : Stmt := top 52
abbrev nm__law_stretch : List Str := ["box", "m", "length", "place", "many"]
theorem sc__law_stretch : FnScope nm__law_stretch ["box", "m"] (defScope s__law_stretch) := ⟨rfl, rfl, rfl, by decide +kernel, rfl, by decide +kernel, by decide +kernel⟩
abbrev s__law_no_stretch : Stmt := top 53
abbrev nm__law_no_stretch : List Str := ["box", "m", "good", "seed", "path", "place", "many", "length", "parts", "some"]
theorem sc__law_no_stretch : FnScope nm__law_no_stretch ["box", "m", "good"] (defScope s__law_no_stretch) := ⟨rfl, rfl, rfl, by decide +kernel, rfl, by decide +kernel, by decide +kernel⟩
abbrev s__law_near : Stmt := top 54
abbrev nm__law_near : List Str := ["box", "m", "one", "seed", "path", "place", "many", "length", "other", "way", "parts", "start"]
theorem sc__law_near : FnScope nm__law_near ["box", "m", "one"] (defScope s__law_near) := ⟨rfl, rfl, rfl, by decide +kernel, rfl, by decide +kernel, by decide +kernel⟩
abbrev s__law_meeting : Stmt := top 55
abbrev nm__law_meeting : List Str := ["m", "one", "other", "digits", "others", "unlike", "both", "child", "k", "at"]
theorem sc__law_meeting : FnScope nm__law_meeting ["m", "one", "other"] (defScope s__law_meeting) := ⟨rfl, rfl, rfl, by decide +kernel, rfl, by decide +kernel, by decide +kernel⟩
abbrev s__law_numbers : Stmt := top 56
abbrev nm__law_numbers : List Str := ["m", "stretch", "seed", "path", "place", "many", "at"]
theorem sc__law_numbers : FnScope nm__law_numbers ["m", "stretch"] (defScope s__law_numbers) := ⟨rfl, rfl, rfl, by decide +kernel, rfl, by decide +kernel, by decide +kernel⟩
abbrev s__law_very : Stmt := top 57
abbrev nm__law_very : List Str := ["found", "thing", "grown"]
theorem sc__law_very : FnScope nm__law_very ["found", "thing"] (defScope s__law_very) := ⟨rfl, rfl, rfl, by decide +kernel, rfl, by decide +kernel, by decide +kernel⟩
abbrev s__law_refused : Stmt := top 58
abbrev nm__law_refused : List Str := ["machine", "one", "other", "bad", "e"]
theorem sc__law_refused : FnScope nm__law_refused ["machine", "one", "other", "bad"] (defScope s__law_refused) := ⟨rfl, rfl, rfl, by decide +kernel, rfl, by decide +kernel, by decide +kernel⟩
abbrev s__law_told_right : Stmt := top 59
abbrev nm__law_told_right : List Str := ["m", "machine", "one", "other", "told", "numbers", "others", "both", "number"]
theorem sc__law_told_right : FnScope nm__law_told_right ["m", "machine", "one", "other"] (defScope s__law_told_right) := ⟨rfl, rfl, rfl, by decide +kernel, rfl, by decide +kernel, by decide +kernel⟩
abbrev s_law : Stmt := top 60
abbrev nm_law : List Str := ["script", "k", "box", "m", "machine", "turn", "one", "other", "bad", "worse"]
theorem sc_law : FnScope nm_law ["script"] (defScope s_law) := ⟨rfl, rfl, rfl, by decide +kernel, rfl, by decide +kernel, by decide +kernel⟩
abbrev s_sinit_Plus : Stmt := inClass (top 21) 0
abbrev nm_sinit_Plus : List Str := ["self", "much"]
theorem sc_sinit_Plus : FnScope nm_sinit_Plus ["self", "much"] (defScope s_sinit_Plus) := ⟨rfl, rfl, rfl, by decide +kernel, rfl, by decide +kernel, by decide +kernel⟩
abbrev s_Plus_init : Stmt := inClass (top 22) 0
abbrev nm_Plus_init : List Str := ["self", "n"]
theorem sc_Plus_init : FnScope nm_Plus_init ["self", "n"] (defScope s_Plus_init) := ⟨rfl, rfl, rfl, by decide +kernel, rfl, by decide +kernel, by decide +kernel⟩
abbrev s_Plus_levels : Stmt := inClass (top 21) 5
abbrev nm_Plus_levels : List Str := ["self"]
theorem sc_Plus_levels : FnScope nm_Plus_levels ["self"] (defScope s_Plus_levels) := ⟨rfl, rfl, rfl, by decide +kernel, rfl, by decide +kernel, by decide +kernel⟩
abbrev s_sinit_Times : Stmt := inClass (top 21) 0
abbrev nm_sinit_Times : List Str := ["self", "much"]
theorem sc_sinit_Times : FnScope nm_sinit_Times ["self", "much"] (defScope s_sinit_Times) := ⟨rfl, rfl, rfl, by decide +kernel, rfl, by decide +kernel, by decide +kernel⟩
abbrev s_Times_init : Stmt := inClass (top 23) 0
abbrev nm_Times_init : List Str := ["self", "n"]
theorem sc_Times_init : FnScope nm_Times_init ["self", "n"] (defScope s_Times_init) := ⟨rfl, rfl, rfl, by decide +kernel, rfl, by decide +kernel, by decide +kernel⟩
abbrev s_Times_levels : Stmt := inClass (top 21) 5
abbrev nm_Times_levels : List Str := ["self"]
theorem sc_Times_levels : FnScope nm_Times_levels ["self"] (defScope s_Times_levels) := ⟨rfl, rfl, rfl, by decide +kernel, rfl, by decide +kernel, by decide +kernel⟩
abbrev s_sinit_Cross : Stmt := inClass (top 21) 0
abbrev nm_sinit_Cross : List Str := ["self", "much"]
theorem sc_sinit_Cross : FnScope nm_sinit_Cross ["self", "much"] (defScope s_sinit_Cross) := ⟨rfl, rfl, rfl, by decide +kernel, rfl, by decide +kernel, by decide +kernel⟩
abbrev s_Cross_init : Stmt := inClass (top 24) 0
abbrev nm_Cross_init : List Str := ["self", "n"]
theorem sc_Cross_init : FnScope nm_Cross_init ["self", "n"] (defScope s_Cross_init) := ⟨rfl, rfl, rfl, by decide +kernel, rfl, by decide +kernel, by decide +kernel⟩
abbrev s_Cross_levels : Stmt := inClass (top 21) 5
abbrev nm_Cross_levels : List Str := ["self"]
theorem sc_Cross_levels : FnScope nm_Cross_levels ["self"] (defScope s_Cross_levels) := ⟨rfl, rfl, rfl, by decide +kernel, rfl, by decide +kernel, by decide +kernel⟩
abbrev s_sinit_Fold : Stmt := inClass (top 21) 0
abbrev nm_sinit_Fold : List Str := ["self", "much"]
theorem sc_sinit_Fold : FnScope nm_sinit_Fold ["self", "much"] (defScope s_sinit_Fold) := ⟨rfl, rfl, rfl, by decide +kernel, rfl, by decide +kernel, by decide +kernel⟩
abbrev s_Fold_init : Stmt := inClass (top 25) 0
abbrev nm_Fold_init : List Str := ["self", "k"]
theorem sc_Fold_init : FnScope nm_Fold_init ["self", "k"] (defScope s_Fold_init) := ⟨rfl, rfl, rfl, by decide +kernel, rfl, by decide +kernel, by decide +kernel⟩
abbrev s_Fold_levels : Stmt := inClass (top 21) 5
abbrev nm_Fold_levels : List Str := ["self"]
theorem sc_Fold_levels : FnScope nm_Fold_levels ["self"] (defScope s_Fold_levels) := ⟨rfl, rfl, rfl, by decide +kernel, rfl, by decide +kernel, by decide +kernel⟩
abbrev s_sinit_Rise : Stmt := inClass (top 21) 0
abbrev nm_sinit_Rise : List Str := ["self", "much"]
theorem sc_sinit_Rise : FnScope nm_sinit_Rise ["self", "much"] (defScope s_sinit_Rise) := ⟨rfl, rfl, rfl, by decide +kernel, rfl, by decide +kernel, by decide +kernel⟩
abbrev s_Rise_init : Stmt := inClass (top 26) 0
abbrev nm_Rise_init : List Str := ["self", "k"]
theorem sc_Rise_init : FnScope nm_Rise_init ["self", "k"] (defScope s_Rise_init) := ⟨rfl, rfl, rfl, by decide +kernel, rfl, by decide +kernel, by decide +kernel⟩
abbrev s_Rise_levels : Stmt := inClass (top 21) 5
abbrev nm_Rise_levels : List Str := ["self"]
theorem sc_Rise_levels : FnScope nm_Rise_levels ["self"] (defScope s_Rise_levels) := ⟨rfl, rfl, rfl, by decide +kernel, rfl, by decide +kernel, by decide +kernel⟩
abbrev s_sinit_Turn : Stmt := inClass (top 21) 0
abbrev nm_sinit_Turn : List Str := ["self", "much"]
theorem sc_sinit_Turn : FnScope nm_sinit_Turn ["self", "much"] (defScope s_sinit_Turn) := ⟨rfl, rfl, rfl, by decide +kernel, rfl, by decide +kernel, by decide +kernel⟩
abbrev s_Turn_init : Stmt := inClass (top 27) 0
abbrev nm_Turn_init : List Str := ["self", "k"]
theorem sc_Turn_init : FnScope nm_Turn_init ["self", "k"] (defScope s_Turn_init) := ⟨rfl, rfl, rfl, by decide +kernel, rfl, by decide +kernel, by decide +kernel⟩
abbrev s_Turn_levels : Stmt := inClass (top 21) 5
abbrev nm_Turn_levels : List Str := ["self"]
theorem sc_Turn_levels : FnScope nm_Turn_levels ["self"] (defScope s_Turn_levels) := ⟨rfl, rfl, rfl, by decide +kernel, rfl, by decide +kernel, by decide +kernel⟩
abbrev s_sinit_Chain : Stmt := inClass (top 21) 0
abbrev nm_sinit_Chain : List Str := ["self", "much"]
theorem sc_sinit_Chain : FnScope nm_sinit_Chain ["self", "much"] (defScope s_sinit_Chain) := ⟨rfl, rfl, rfl, by decide +kernel, rfl, by decide +kernel, by decide +kernel⟩
abbrev s_Chain_init : Stmt := inClass (top 32) 0
abbrev nm_Chain_init : List Str := ["self", "steps", "step"]
theorem sc_Chain_init : FnScope nm_Chain_init ["self", "steps"] (defScope s_Chain_init) := ⟨rfl, rfl, rfl, by decide +kernel, rfl, by decide +kernel, by decide +kernel⟩
abbrev s_Machine_init : Stmt := inClass (top 37) 0
abbrev nm_Machine_init : List Str := ["self", "seed_bits", "part_bits", "depth", "place_bits", "steps", "size", "low", "high", "width"]
theorem sc_Machine_init : FnScope nm_Machine_init ["self", "seed_bits", "part_bits", "depth", "place_bits", "steps"] (defScope s_Machine_init) := ⟨rfl, rfl, rfl, by decide +kernel, rfl, by decide +kernel, by decide +kernel⟩
abbrev s_Machine_seeds : Stmt := inClass (top 37) 2
abbrev nm_Machine_seeds : List Str := ["self"]
theorem sc_Machine_seeds : FnScope nm_Machine_seeds ["self"] (defScope s_Machine_seeds) := ⟨rfl, rfl, rfl, by decide +kernel, rfl, by decide +kernel, by decide +kernel⟩
abbrev s_Machine_parts : Stmt := inClass (top 37) 3
abbrev nm_Machine_parts : List Str := ["self"]
theorem sc_Machine_parts : FnScope nm_Machine_parts ["self"] (defScope s_Machine_parts) := ⟨rfl, rfl, rfl, by decide +kernel, rfl, by decide +kernel, by decide +kernel⟩
abbrev s_Machine_length : Stmt := inClass (top 37) 4
abbrev nm_Machine_length : List Str := ["self"]
theorem sc_Machine_length : FnScope nm_Machine_length ["self"] (defScope s_Machine_length) := ⟨rfl, rfl, rfl, by decide +kernel, rfl, by decide +kernel, by decide +kernel⟩
abbrev s_Machine_is_path : Stmt := inClass (top 37) 6
abbrev nm_Machine_is_path : List Str := ["self", "thing", "child"]
theorem sc_Machine_is_path : FnScope nm_Machine_is_path ["self", "thing"] (defScope s_Machine_is_path) := ⟨rfl, rfl, rfl, by decide +kernel, rfl, by decide +kernel, by decide +kernel⟩
abbrev s_NoNumber_init : Stmt := inClass (top 3) 0
abbrev s_NoStep_init : Stmt := inClass (top 4) 0
abbrev s_NoMachine_init : Stmt := inClass (top 5) 0
abbrev s_NoRow_init : Stmt := inClass (top 6) 0
def fn : List He.DefD := [⟨("is_whole", none), "is_whole", "is_whole", defArgs s_is_whole, defBody s_is_whole, defScope s_is_whole, [], []⟩,
  ⟨("is_within", none), "is_within", "is_within", defArgs s_is_within, defBody s_is_within, defScope s_is_within, [], []⟩,
  ⟨("Machine", some "seeds"), "seeds", "Machine.seeds", defArgs s_Machine_seeds, defBody s_Machine_seeds, defScope s_Machine_seeds, [], []⟩,
  ⟨("Machine", some "parts"), "parts", "Machine.parts", defArgs s_Machine_parts, defBody s_Machine_parts, defScope s_Machine_parts, [], []⟩,
  ⟨("Machine", some "is_path"), "is_path", "Machine.is_path", defArgs s_Machine_is_path, defBody s_Machine_is_path, defScope s_Machine_is_path, [], []⟩,
  ⟨("Machine", some "length"), "length", "Machine.length", defArgs s_Machine_length, defBody s_Machine_length, defScope s_Machine_length, [], []⟩,
  ⟨("is_part", none), "is_part", "is_part", defArgs s_is_part, defBody s_is_part, defScope s_is_part, [], []⟩,
  ⟨("need_part", none), "need_part", "need_part", defArgs s_need_part, defBody s_need_part, defScope s_need_part, [], []⟩,
  ⟨("first_unlike", none), "first_unlike", "first_unlike", defArgs s_first_unlike, defBody s_first_unlike, defScope s_first_unlike, [], []⟩,
  ⟨("meeting", none), "meeting", "meeting", defArgs s_meeting, defBody s_meeting, defScope s_meeting, [], []⟩,
  ⟨("need_much", none), "need_much", "need_much", defArgs s_need_much, defBody s_need_much, defScope s_need_much, [], []⟩,
  ⟨("need_odd", none), "need_odd", "need_odd", defArgs s_need_odd, defBody s_need_odd, defScope s_need_odd, [], []⟩,
  ⟨("need_far", none), "need_far", "need_far", defArgs s_need_far, defBody s_need_far, defScope s_need_far, [], []⟩,
  ⟨("Step", some "levels"), "levels", "Step.levels", defArgs s_Cross_levels, defBody s_Cross_levels, defScope s_Cross_levels, [], []⟩,
  ⟨("need_step", none), "need_step", "need_step", defArgs s_need_step, defBody s_need_step, defScope s_need_step, [], []⟩,
  ⟨("_law_cell_at", none), "_law_cell_at", "_law_cell_at", defArgs s__law_cell_at, defBody s__law_cell_at, defScope s__law_cell_at, [], []⟩,
  ⟨("_law_box", none), "_law_box", "_law_box", defArgs s__law_box, defBody s__law_box, defScope s__law_box, [], []⟩,
  ⟨("_law_take", none), "_law_take", "_law_take", defArgs s__law_take, defBody s__law_take, defScope s__law_take, [], []⟩,
  ⟨("_law_is_whole", none), "_law_is_whole", "_law_is_whole", defArgs s__law_is_whole, defBody s__law_is_whole, defScope s__law_is_whole, [], []⟩,
  ⟨("_law_step", none), "_law_step", "_law_step", defArgs s__law_step, defBody s__law_step, defScope s__law_step, [], []⟩,
  ⟨("_law_machine", none), "_law_machine", "_law_machine", defArgs s__law_machine, defBody s__law_machine, defScope s__law_machine, [], []⟩,
  ⟨("Step", some "__init__"), "__init__", "Step.__init__", defArgs s_sinit_Plus, defBody s_sinit_Plus, defScope s_sinit_Plus, [], []⟩,
  ⟨("Plus", some "__init__"), "__init__", "Plus.__init__", defArgs s_Plus_init, defBody s_Plus_init, defScope s_Plus_init, [], []⟩,
  ⟨("Times", some "__init__"), "__init__", "Times.__init__", defArgs s_Times_init, defBody s_Times_init, defScope s_Times_init, [], []⟩,
  ⟨("Cross", some "__init__"), "__init__", "Cross.__init__", defArgs s_Cross_init, defBody s_Cross_init, defScope s_Cross_init, [], []⟩,
  ⟨("Fold", some "__init__"), "__init__", "Fold.__init__", defArgs s_Fold_init, defBody s_Fold_init, defScope s_Fold_init, [], []⟩,
  ⟨("Rise", some "__init__"), "__init__", "Rise.__init__", defArgs s_Rise_init, defBody s_Rise_init, defScope s_Rise_init, [], []⟩,
  ⟨("Turn", some "__init__"), "__init__", "Turn.__init__", defArgs s_Turn_init, defBody s_Turn_init, defScope s_Turn_init, [], []⟩,
  ⟨("Chain", some "__init__"), "__init__", "Chain.__init__", defArgs s_Chain_init, defBody s_Chain_init, defScope s_Chain_init, [], []⟩,
  ⟨("Machine", some "__init__"), "__init__", "Machine.__init__", defArgs s_Machine_init, defBody s_Machine_init, defScope s_Machine_init, [.non], []⟩,
  ⟨("_law_made", none), "_law_made", "_law_made", defArgs s__law_made, defBody s__law_made, defScope s__law_made, [], []⟩,
  ⟨("_law_onward", none), "_law_onward", "_law_onward", defArgs s__law_onward, defBody s__law_onward, defScope s__law_onward, [], []⟩,
  ⟨("_law_state_by", none), "_law_state_by", "_law_state_by", defArgs s__law_state_by, defBody s__law_state_by, defScope s__law_state_by, [], []⟩,
  ⟨("_law_state", none), "_law_state", "_law_state", defArgs s__law_state, defBody s__law_state, defScope s__law_state, [], []⟩,
  ⟨("_law_seed", none), "_law_seed", "_law_seed", defArgs s__law_seed, defBody s__law_seed, defScope s__law_seed, [], []⟩,
  ⟨("_law_path", none), "_law_path", "_law_path", defArgs s__law_path, defBody s__law_path, defScope s__law_path, [], []⟩,
  ⟨("_law_same", none), "_law_same", "_law_same", defArgs s__law_same, defBody s__law_same, defScope s__law_same, [], []⟩,
  ⟨("_law_stretch", none), "_law_stretch", "_law_stretch", defArgs s__law_stretch, defBody s__law_stretch, defScope s__law_stretch, [], []⟩,
  ⟨("_law_no_stretch", none), "_law_no_stretch", "_law_no_stretch", defArgs s__law_no_stretch, defBody s__law_no_stretch, defScope s__law_no_stretch, [], []⟩,
  ⟨("_law_near", none), "_law_near", "_law_near", defArgs s__law_near, defBody s__law_near, defScope s__law_near, [], []⟩,
  ⟨("_law_meeting", none), "_law_meeting", "_law_meeting", defArgs s__law_meeting, defBody s__law_meeting, defScope s__law_meeting, [], []⟩,
  ⟨("_law_numbers", none), "_law_numbers", "_law_numbers", defArgs s__law_numbers, defBody s__law_numbers, defScope s__law_numbers, [], []⟩,
  ⟨("_law_very", none), "_law_very", "_law_very", defArgs s__law_very, defBody s__law_very, defScope s__law_very, [], []⟩,
  ⟨("_law_refused", none), "_law_refused", "_law_refused", defArgs s__law_refused, defBody s__law_refused, defScope s__law_refused, [], []⟩,
  ⟨("_law_told_right", none), "_law_told_right", "_law_told_right", defArgs s__law_told_right, defBody s__law_told_right, defScope s__law_told_right, [], []⟩,
  ⟨("law", none), "law", "law", defArgs s_law, defBody s_law, defScope s_law, [], []⟩,
  ⟨("NoNumber", some "__init__"), "__init__", "NoNumber.__init__", defArgs s_NoNumber_init, defBody s_NoNumber_init, defScope s_NoNumber_init, [], []⟩,
  ⟨("NoStep", some "__init__"), "__init__", "NoStep.__init__", defArgs s_NoStep_init, defBody s_NoStep_init, defScope s_NoStep_init, [], []⟩,
  ⟨("NoMachine", some "__init__"), "__init__", "NoMachine.__init__", defArgs s_NoMachine_init, defBody s_NoMachine_init, defScope s_NoMachine_init, [], []⟩,
  ⟨("NoRow", some "__init__"), "__init__", "NoRow.__init__", defArgs s_NoRow_init, defBody s_NoRow_init, defScope s_NoRow_init, [], []⟩]
def fa : List He.Fa := [.glo "is_whole", .glo "is_within", .glo "is_part", .glo "need_part", .glo "first_unlike", .glo "meeting", .glo "need_much", .glo "need_odd", .glo "need_far", .glo "need_step", .glo "_law_cell_at", .glo "_law_box", .glo "_law_take", .glo "_law_is_whole", .glo "_law_step", .glo "_law_machine", .glo "_law_made", .glo "_law_onward", .glo "_law_state_by", .glo "_law_state", .glo "_law_seed", .glo "_law_path", .glo "_law_same", .glo "_law_stretch", .glo "_law_no_stretch", .glo "_law_near", .glo "_law_meeting", .glo "_law_numbers", .glo "_law_very", .glo "_law_refused", .glo "_law_told_right", .glo "law", .glo "SeedError", .glo "NoNumber", .glo "NoStep", .glo "NoMachine", .glo "NoRow", .glo "Step", .glo "Plus", .glo "Times", .glo "Cross", .glo "Fold", .glo "Rise", .glo "Turn", .glo "Chain", .glo "Machine", .free "all", .free "bool", .free "int", .free "isinstance", .free "len", .free "list", .free "max", .free "min", .free "range", .free "repr", .free "str", .free "tuple", .free "zip", .noat "NoNumber" "found", .noat "NoStep" "found", .noat "NoMachine" "found", .noat "NoRow" "found", .meth "NoNumber" "__init__", .meth "NoStep" "__init__", .meth "NoMachine" "__init__", .meth "NoRow" "__init__", .cls "Chain", .cls "Cross", .cls "Fold", .cls "Machine", .cls "Plus", .cls "Rise", .cls "Step", .cls "Times", .cls "Turn", .mkr "Chain", .mkr "Cross", .mkr "Fold", .mkr "Machine", .mkr "Plus", .mkr "Rise", .mkr "Times", .mkr "Turn", .noat "Chain" "inners", .noat "Chain" "much", .noat "Cross" "much", .noat "Fold" "much", .noat "Machine" "depth", .noat "Machine" "kept_steps", .noat "Machine" "part_bits", .noat "Machine" "place_bits", .noat "Machine" "row", .noat "Machine" "seed_bits", .noat "Machine" "width", .noat "Plus" "much", .noat "Rise" "much", .noat "Times" "much", .noat "Turn" "much", .meth "Machine" "seeds", .meth "Machine" "parts", .meth "Machine" "is_path", .meth "Machine" "length", .meth "Cross" "levels", .meth "Times" "levels", .meth "Rise" "levels", .meth "Plus" "levels", .meth "Turn" "levels", .meth "Fold" "levels", .meth "Step" "__init__", .meth "Plus" "__init__", .meth "Step" "__init__", .meth "Times" "__init__", .meth "Step" "__init__", .meth "Cross" "__init__", .meth "Step" "__init__", .meth "Fold" "__init__", .meth "Step" "__init__", .meth "Rise" "__init__", .meth "Step" "__init__", .meth "Turn" "__init__", .meth "Step" "__init__", .meth "Chain" "__init__", .meth "Machine" "__init__", .int "LEAST_WIDTH" 4, .int "MOST_FAR" 63, .int "MOST_LEVELS" 4, .int "MOST_MUCH" 18446744073709551615, .int "MOST_STEPS" 12, .int "MOST_WIDTH" 64, .glo "BOUNDS"]
def fp (K : Fg) : Bool := (fa.all fun f => f.ok K) && allB [exB K (He.ga K "NoNumber"), exB K (He.ga K "NoStep"), exB K (He.ga K "NoMachine"), exB K (He.ga K "NoRow"), iniB K (He.ga K "SeedError"), clfB K (He.ga K "Step") "__init__", decide (He.ma K (He.ga K "Cross") "levels" = He.ma K (He.ga K "Step") "levels"), decide (He.ma K (He.ga K "Times") "levels" = He.ma K (He.ga K "Step") "levels"), decide (He.ma K (He.ga K "Rise") "levels" = He.ma K (He.ga K "Step") "levels"), decide (He.ma K (He.ga K "Plus") "levels" = He.ma K (He.ga K "Step") "levels"), decide (He.ma K (He.ga K "Turn") "levels" = He.ma K (He.ga K "Step") "levels"), decide (He.ma K (He.ga K "Fold") "levels" = He.ma K (He.ga K "Step") "levels"), insB K (He.ga K "Plus"), insB K (He.ga K "Times"), insB K (He.ga K "Cross"), insB K (He.ga K "Fold"), insB K (He.ga K "Rise"), insB K (He.ga K "Turn"), (K.lookup PySem.sysModules).isSome, decide (PySem.W.kitOne K (.ref (He.ga K "Plus")) (.ref (He.ga K "Step")) = some true), decide (PySem.W.kitOne K (.ref (He.ga K "Times")) (.ref (He.ga K "Step")) = some true), decide (PySem.W.kitOne K (.ref (He.ga K "Cross")) (.ref (He.ga K "Step")) = some true), decide (PySem.W.kitOne K (.ref (He.ga K "Fold")) (.ref (He.ga K "Step")) = some true), decide (PySem.W.kitOne K (.ref (He.ga K "Rise")) (.ref (He.ga K "Step")) = some true), decide (PySem.W.kitOne K (.ref (He.ga K "Turn")) (.ref (He.ga K "Step")) = some true), decide (PySem.W.kitOne K (.ref (He.ga K "NoRow")) (.ref (He.ga K "SeedError")) = some true), decide (PySem.W.exmOne K (.ref (He.ga K "NoRow")) (.ref (He.ga K "NoRow")) = some true), tupAt K (He.ga K "BOUNDS") [V.ref (itAt K (He.ga K "BOUNDS") 0), V.ref (itAt K (He.ga K "BOUNDS") 1), V.ref (itAt K (He.ga K "BOUNDS") 2), V.ref (itAt K (He.ga K "BOUNDS") 3)], tupAt K (itAt K (He.ga K "BOUNDS") 0) [V.int 0, V.int 32], tupAt K (itAt K (He.ga K "BOUNDS") 1) [V.int 1, V.int 5], tupAt K (itAt K (He.ga K "BOUNDS") 2) [V.int 0, V.int 6], tupAt K (itAt K (He.ga K "BOUNDS") 3) [V.int 1, V.int 16]]
def ts : List He.Tab := []
structure Tx (K : Fg) (mg : Str → Option Value) (w : World) : Prop where
  g_is_whole : mg "is_whole" = some (.ref (He.ga K "is_whole"))
  F_is_whole : ∃ fd, FunD K "is_whole" "is_whole" (defArgs s_is_whole) (defBody s_is_whole) (defScope s_is_whole) [] [] (He.ga K "is_whole") fd
  g_is_within : mg "is_within" = some (.ref (He.ga K "is_within"))
  F_is_within : ∃ fd, FunD K "is_within" "is_within" (defArgs s_is_within) (defBody s_is_within) (defScope s_is_within) [] [] (He.ga K "is_within") fd
  F_Machine_seeds : ∃ fd, FunD K "seeds" "Machine.seeds" (defArgs s_Machine_seeds) (defBody s_Machine_seeds) (defScope s_Machine_seeds) [] [] (He.ma K (He.ga K "Machine") "seeds") fd
  M_Machine_seeds : Meth K (He.ga K "Machine") "seeds" (He.ma K (He.ga K "Machine") "seeds")
  F_Machine_parts : ∃ fd, FunD K "parts" "Machine.parts" (defArgs s_Machine_parts) (defBody s_Machine_parts) (defScope s_Machine_parts) [] [] (He.ma K (He.ga K "Machine") "parts") fd
  M_Machine_parts : Meth K (He.ga K "Machine") "parts" (He.ma K (He.ga K "Machine") "parts")
  F_Machine_is_path : ∃ fd, FunD K "is_path" "Machine.is_path" (defArgs s_Machine_is_path) (defBody s_Machine_is_path) (defScope s_Machine_is_path) [] [] (He.ma K (He.ga K "Machine") "is_path") fd
  M_Machine_is_path : Meth K (He.ga K "Machine") "is_path" (He.ma K (He.ga K "Machine") "is_path")
  F_Machine_length : ∃ fd, FunD K "length" "Machine.length" (defArgs s_Machine_length) (defBody s_Machine_length) (defScope s_Machine_length) [] [] (He.ma K (He.ga K "Machine") "length") fd
  M_Machine_length : Meth K (He.ga K "Machine") "length" (He.ma K (He.ga K "Machine") "length")
  g_is_part : mg "is_part" = some (.ref (He.ga K "is_part"))
  F_is_part : ∃ fd, FunD K "is_part" "is_part" (defArgs s_is_part) (defBody s_is_part) (defScope s_is_part) [] [] (He.ga K "is_part") fd
  g_need_part : mg "need_part" = some (.ref (He.ga K "need_part"))
  F_need_part : ∃ fd, FunD K "need_part" "need_part" (defArgs s_need_part) (defBody s_need_part) (defScope s_need_part) [] [] (He.ga K "need_part") fd
  g_first_unlike : mg "first_unlike" = some (.ref (He.ga K "first_unlike"))
  F_first_unlike : ∃ fd, FunD K "first_unlike" "first_unlike" (defArgs s_first_unlike) (defBody s_first_unlike) (defScope s_first_unlike) [] [] (He.ga K "first_unlike") fd
  g_meeting : mg "meeting" = some (.ref (He.ga K "meeting"))
  F_meeting : ∃ fd, FunD K "meeting" "meeting" (defArgs s_meeting) (defBody s_meeting) (defScope s_meeting) [] [] (He.ga K "meeting") fd
  g_need_much : mg "need_much" = some (.ref (He.ga K "need_much"))
  F_need_much : ∃ fd, FunD K "need_much" "need_much" (defArgs s_need_much) (defBody s_need_much) (defScope s_need_much) [] [] (He.ga K "need_much") fd
  g_need_odd : mg "need_odd" = some (.ref (He.ga K "need_odd"))
  F_need_odd : ∃ fd, FunD K "need_odd" "need_odd" (defArgs s_need_odd) (defBody s_need_odd) (defScope s_need_odd) [] [] (He.ga K "need_odd") fd
  g_need_far : mg "need_far" = some (.ref (He.ga K "need_far"))
  F_need_far : ∃ fd, FunD K "need_far" "need_far" (defArgs s_need_far) (defBody s_need_far) (defScope s_need_far) [] [] (He.ga K "need_far") fd
  F_Cross_levels : ∃ fd, FunD K "levels" "Step.levels" (defArgs s_Cross_levels) (defBody s_Cross_levels) (defScope s_Cross_levels) [] [] (He.ma K (He.ga K "Cross") "levels") fd
  M_Cross_levels : Meth K (He.ga K "Cross") "levels" (He.ma K (He.ga K "Cross") "levels")
  F_Times_levels : ∃ fd, FunD K "levels" "Step.levels" (defArgs s_Times_levels) (defBody s_Times_levels) (defScope s_Times_levels) [] [] (He.ma K (He.ga K "Times") "levels") fd
  M_Times_levels : Meth K (He.ga K "Times") "levels" (He.ma K (He.ga K "Times") "levels")
  F_Rise_levels : ∃ fd, FunD K "levels" "Step.levels" (defArgs s_Rise_levels) (defBody s_Rise_levels) (defScope s_Rise_levels) [] [] (He.ma K (He.ga K "Rise") "levels") fd
  M_Rise_levels : Meth K (He.ga K "Rise") "levels" (He.ma K (He.ga K "Rise") "levels")
  F_Plus_levels : ∃ fd, FunD K "levels" "Step.levels" (defArgs s_Plus_levels) (defBody s_Plus_levels) (defScope s_Plus_levels) [] [] (He.ma K (He.ga K "Plus") "levels") fd
  M_Plus_levels : Meth K (He.ga K "Plus") "levels" (He.ma K (He.ga K "Plus") "levels")
  F_Turn_levels : ∃ fd, FunD K "levels" "Step.levels" (defArgs s_Turn_levels) (defBody s_Turn_levels) (defScope s_Turn_levels) [] [] (He.ma K (He.ga K "Turn") "levels") fd
  M_Turn_levels : Meth K (He.ga K "Turn") "levels" (He.ma K (He.ga K "Turn") "levels")
  F_Fold_levels : ∃ fd, FunD K "levels" "Step.levels" (defArgs s_Fold_levels) (defBody s_Fold_levels) (defScope s_Fold_levels) [] [] (He.ma K (He.ga K "Fold") "levels") fd
  M_Fold_levels : Meth K (He.ga K "Fold") "levels" (He.ma K (He.ga K "Fold") "levels")
  g_need_step : mg "need_step" = some (.ref (He.ga K "need_step"))
  F_need_step : ∃ fd, FunD K "need_step" "need_step" (defArgs s_need_step) (defBody s_need_step) (defScope s_need_step) [] [] (He.ga K "need_step") fd
  g__law_cell_at : mg "_law_cell_at" = some (.ref (He.ga K "_law_cell_at"))
  F__law_cell_at : ∃ fd, FunD K "_law_cell_at" "_law_cell_at" (defArgs s__law_cell_at) (defBody s__law_cell_at) (defScope s__law_cell_at) [] [] (He.ga K "_law_cell_at") fd
  g__law_box : mg "_law_box" = some (.ref (He.ga K "_law_box"))
  F__law_box : ∃ fd, FunD K "_law_box" "_law_box" (defArgs s__law_box) (defBody s__law_box) (defScope s__law_box) [] [] (He.ga K "_law_box") fd
  g__law_take : mg "_law_take" = some (.ref (He.ga K "_law_take"))
  F__law_take : ∃ fd, FunD K "_law_take" "_law_take" (defArgs s__law_take) (defBody s__law_take) (defScope s__law_take) [] [] (He.ga K "_law_take") fd
  g__law_is_whole : mg "_law_is_whole" = some (.ref (He.ga K "_law_is_whole"))
  F__law_is_whole : ∃ fd, FunD K "_law_is_whole" "_law_is_whole" (defArgs s__law_is_whole) (defBody s__law_is_whole) (defScope s__law_is_whole) [] [] (He.ga K "_law_is_whole") fd
  g__law_step : mg "_law_step" = some (.ref (He.ga K "_law_step"))
  F__law_step : ∃ fd, FunD K "_law_step" "_law_step" (defArgs s__law_step) (defBody s__law_step) (defScope s__law_step) [] [] (He.ga K "_law_step") fd
  g__law_machine : mg "_law_machine" = some (.ref (He.ga K "_law_machine"))
  F__law_machine : ∃ fd, FunD K "_law_machine" "_law_machine" (defArgs s__law_machine) (defBody s__law_machine) (defScope s__law_machine) [] [] (He.ga K "_law_machine") fd
  F_sinit_Plus : ∃ fd, FunD K "__init__" "Step.__init__" (defArgs s_sinit_Plus) (defBody s_sinit_Plus) (defScope s_sinit_Plus) [] [] (He.ma K (He.ga K "Step") "__init__") fd
  M_sinit_Plus : Meth K (He.ga K "Step") "__init__" (He.ma K (He.ga K "Step") "__init__")
  F_Plus_init : ∃ fd, FunD K "__init__" "Plus.__init__" (defArgs s_Plus_init) (defBody s_Plus_init) (defScope s_Plus_init) [] [] (He.ma K (He.ga K "Plus") "__init__") fd
  M_Plus_init : Meth K (He.ga K "Plus") "__init__" (He.ma K (He.ga K "Plus") "__init__")
  F_sinit_Times : ∃ fd, FunD K "__init__" "Step.__init__" (defArgs s_sinit_Times) (defBody s_sinit_Times) (defScope s_sinit_Times) [] [] (He.ma K (He.ga K "Step") "__init__") fd
  M_sinit_Times : Meth K (He.ga K "Step") "__init__" (He.ma K (He.ga K "Step") "__init__")
  F_Times_init : ∃ fd, FunD K "__init__" "Times.__init__" (defArgs s_Times_init) (defBody s_Times_init) (defScope s_Times_init) [] [] (He.ma K (He.ga K "Times") "__init__") fd
  M_Times_init : Meth K (He.ga K "Times") "__init__" (He.ma K (He.ga K "Times") "__init__")
  F_sinit_Cross : ∃ fd, FunD K "__init__" "Step.__init__" (defArgs s_sinit_Cross) (defBody s_sinit_Cross) (defScope s_sinit_Cross) [] [] (He.ma K (He.ga K "Step") "__init__") fd
  M_sinit_Cross : Meth K (He.ga K "Step") "__init__" (He.ma K (He.ga K "Step") "__init__")
  F_Cross_init : ∃ fd, FunD K "__init__" "Cross.__init__" (defArgs s_Cross_init) (defBody s_Cross_init) (defScope s_Cross_init) [] [] (He.ma K (He.ga K "Cross") "__init__") fd
  M_Cross_init : Meth K (He.ga K "Cross") "__init__" (He.ma K (He.ga K "Cross") "__init__")
  F_sinit_Fold : ∃ fd, FunD K "__init__" "Step.__init__" (defArgs s_sinit_Fold) (defBody s_sinit_Fold) (defScope s_sinit_Fold) [] [] (He.ma K (He.ga K "Step") "__init__") fd
  M_sinit_Fold : Meth K (He.ga K "Step") "__init__" (He.ma K (He.ga K "Step") "__init__")
  F_Fold_init : ∃ fd, FunD K "__init__" "Fold.__init__" (defArgs s_Fold_init) (defBody s_Fold_init) (defScope s_Fold_init) [] [] (He.ma K (He.ga K "Fold") "__init__") fd
  M_Fold_init : Meth K (He.ga K "Fold") "__init__" (He.ma K (He.ga K "Fold") "__init__")
  F_sinit_Rise : ∃ fd, FunD K "__init__" "Step.__init__" (defArgs s_sinit_Rise) (defBody s_sinit_Rise) (defScope s_sinit_Rise) [] [] (He.ma K (He.ga K "Step") "__init__") fd
  M_sinit_Rise : Meth K (He.ga K "Step") "__init__" (He.ma K (He.ga K "Step") "__init__")
  F_Rise_init : ∃ fd, FunD K "__init__" "Rise.__init__" (defArgs s_Rise_init) (defBody s_Rise_init) (defScope s_Rise_init) [] [] (He.ma K (He.ga K "Rise") "__init__") fd
  M_Rise_init : Meth K (He.ga K "Rise") "__init__" (He.ma K (He.ga K "Rise") "__init__")
  F_sinit_Turn : ∃ fd, FunD K "__init__" "Step.__init__" (defArgs s_sinit_Turn) (defBody s_sinit_Turn) (defScope s_sinit_Turn) [] [] (He.ma K (He.ga K "Step") "__init__") fd
  M_sinit_Turn : Meth K (He.ga K "Step") "__init__" (He.ma K (He.ga K "Step") "__init__")
  F_Turn_init : ∃ fd, FunD K "__init__" "Turn.__init__" (defArgs s_Turn_init) (defBody s_Turn_init) (defScope s_Turn_init) [] [] (He.ma K (He.ga K "Turn") "__init__") fd
  M_Turn_init : Meth K (He.ga K "Turn") "__init__" (He.ma K (He.ga K "Turn") "__init__")
  F_sinit_Chain : ∃ fd, FunD K "__init__" "Step.__init__" (defArgs s_sinit_Chain) (defBody s_sinit_Chain) (defScope s_sinit_Chain) [] [] (He.ma K (He.ga K "Step") "__init__") fd
  M_sinit_Chain : Meth K (He.ga K "Step") "__init__" (He.ma K (He.ga K "Step") "__init__")
  F_Chain_init : ∃ fd, FunD K "__init__" "Chain.__init__" (defArgs s_Chain_init) (defBody s_Chain_init) (defScope s_Chain_init) [] [] (He.ma K (He.ga K "Chain") "__init__") fd
  M_Chain_init : Meth K (He.ga K "Chain") "__init__" (He.ma K (He.ga K "Chain") "__init__")
  F_Machine_init : ∃ fd, FunD K "__init__" "Machine.__init__" (defArgs s_Machine_init) (defBody s_Machine_init) (defScope s_Machine_init) [V.non] [] (He.ma K (He.ga K "Machine") "__init__") fd
  M_Machine_init : Meth K (He.ga K "Machine") "__init__" (He.ma K (He.ga K "Machine") "__init__")
  g__law_made : mg "_law_made" = some (.ref (He.ga K "_law_made"))
  F__law_made : ∃ fd, FunD K "_law_made" "_law_made" (defArgs s__law_made) (defBody s__law_made) (defScope s__law_made) [] [] (He.ga K "_law_made") fd
  g__law_onward : mg "_law_onward" = some (.ref (He.ga K "_law_onward"))
  F__law_onward : ∃ fd, FunD K "_law_onward" "_law_onward" (defArgs s__law_onward) (defBody s__law_onward) (defScope s__law_onward) [] [] (He.ga K "_law_onward") fd
  g__law_state_by : mg "_law_state_by" = some (.ref (He.ga K "_law_state_by"))
  F__law_state_by : ∃ fd, FunD K "_law_state_by" "_law_state_by" (defArgs s__law_state_by) (defBody s__law_state_by) (defScope s__law_state_by) [] [] (He.ga K "_law_state_by") fd
  g__law_state : mg "_law_state" = some (.ref (He.ga K "_law_state"))
  F__law_state : ∃ fd, FunD K "_law_state" "_law_state" (defArgs s__law_state) (defBody s__law_state) (defScope s__law_state) [] [] (He.ga K "_law_state") fd
  g__law_seed : mg "_law_seed" = some (.ref (He.ga K "_law_seed"))
  F__law_seed : ∃ fd, FunD K "_law_seed" "_law_seed" (defArgs s__law_seed) (defBody s__law_seed) (defScope s__law_seed) [] [] (He.ga K "_law_seed") fd
  g__law_path : mg "_law_path" = some (.ref (He.ga K "_law_path"))
  F__law_path : ∃ fd, FunD K "_law_path" "_law_path" (defArgs s__law_path) (defBody s__law_path) (defScope s__law_path) [] [] (He.ga K "_law_path") fd
  g__law_same : mg "_law_same" = some (.ref (He.ga K "_law_same"))
  F__law_same : ∃ fd, FunD K "_law_same" "_law_same" (defArgs s__law_same) (defBody s__law_same) (defScope s__law_same) [] [] (He.ga K "_law_same") fd
  g__law_stretch : mg "_law_stretch" = some (.ref (He.ga K "_law_stretch"))
  F__law_stretch : ∃ fd, FunD K "_law_stretch" "_law_stretch" (defArgs s__law_stretch) (defBody s__law_stretch) (defScope s__law_stretch) [] [] (He.ga K "_law_stretch") fd
  g__law_no_stretch : mg "_law_no_stretch" = some (.ref (He.ga K "_law_no_stretch"))
  F__law_no_stretch : ∃ fd, FunD K "_law_no_stretch" "_law_no_stretch" (defArgs s__law_no_stretch) (defBody s__law_no_stretch) (defScope s__law_no_stretch) [] [] (He.ga K "_law_no_stretch") fd
  g__law_near : mg "_law_near" = some (.ref (He.ga K "_law_near"))
  F__law_near : ∃ fd, FunD K "_law_near" "_law_near" (defArgs s__law_near) (defBody s__law_near) (defScope s__law_near) [] [] (He.ga K "_law_near") fd
  g__law_meeting : mg "_law_meeting" = some (.ref (He.ga K "_law_meeting"))
  F__law_meeting : ∃ fd, FunD K "_law_meeting" "_law_meeting" (defArgs s__law_meeting) (defBody s__law_meeting) (defScope s__law_meeting) [] [] (He.ga K "_law_meeting") fd
  g__law_numbers : mg "_law_numbers" = some (.ref (He.ga K "_law_numbers"))
  F__law_numbers : ∃ fd, FunD K "_law_numbers" "_law_numbers" (defArgs s__law_numbers) (defBody s__law_numbers) (defScope s__law_numbers) [] [] (He.ga K "_law_numbers") fd
  g__law_very : mg "_law_very" = some (.ref (He.ga K "_law_very"))
  F__law_very : ∃ fd, FunD K "_law_very" "_law_very" (defArgs s__law_very) (defBody s__law_very) (defScope s__law_very) [] [] (He.ga K "_law_very") fd
  g__law_refused : mg "_law_refused" = some (.ref (He.ga K "_law_refused"))
  F__law_refused : ∃ fd, FunD K "_law_refused" "_law_refused" (defArgs s__law_refused) (defBody s__law_refused) (defScope s__law_refused) [] [] (He.ga K "_law_refused") fd
  g__law_told_right : mg "_law_told_right" = some (.ref (He.ga K "_law_told_right"))
  F__law_told_right : ∃ fd, FunD K "_law_told_right" "_law_told_right" (defArgs s__law_told_right) (defBody s__law_told_right) (defScope s__law_told_right) [] [] (He.ga K "_law_told_right") fd
  g_law : mg "law" = some (.ref (He.ga K "law"))
  F_law : ∃ fd, FunD K "law" "law" (defArgs s_law) (defBody s_law) (defScope s_law) [] [] (He.ga K "law") fd
  g_SeedError : mg "SeedError" = some (.ref (He.ga K "SeedError"))
  g_NoNumber : mg "NoNumber" = some (.ref (He.ga K "NoNumber"))
  g_NoStep : mg "NoStep" = some (.ref (He.ga K "NoStep"))
  g_NoMachine : mg "NoMachine" = some (.ref (He.ga K "NoMachine"))
  g_NoRow : mg "NoRow" = some (.ref (He.ga K "NoRow"))
  g_Step : mg "Step" = some (.ref (He.ga K "Step"))
  g_Plus : mg "Plus" = some (.ref (He.ga K "Plus"))
  g_Times : mg "Times" = some (.ref (He.ga K "Times"))
  g_Cross : mg "Cross" = some (.ref (He.ga K "Cross"))
  g_Fold : mg "Fold" = some (.ref (He.ga K "Fold"))
  g_Rise : mg "Rise" = some (.ref (He.ga K "Rise"))
  g_Turn : mg "Turn" = some (.ref (He.ga K "Turn"))
  g_Chain : mg "Chain" = some (.ref (He.ga K "Chain"))
  g_Machine : mg "Machine" = some (.ref (He.ga K "Machine"))
  n_all : mg "all" = none
  n_bool : mg "bool" = none
  n_int : mg "int" = none
  n_isinstance : mg "isinstance" = none
  n_len : mg "len" = none
  n_list : mg "list" = none
  n_max : mg "max" = none
  n_min : mg "min" = none
  n_range : mg "range" = none
  n_repr : mg "repr" = none
  n_str : mg "str" = none
  n_tuple : mg "tuple" = none
  n_zip : mg "zip" = none
  cls_Chain : Cls K (He.ga K "Chain")
  mk_Chain : Mk K (He.ga K "Chain") (He.ma K (He.ga K "Chain") "__init__")
  cls_Cross : Cls K (He.ga K "Cross")
  mk_Cross : Mk K (He.ga K "Cross") (He.ma K (He.ga K "Cross") "__init__")
  cls_Fold : Cls K (He.ga K "Fold")
  mk_Fold : Mk K (He.ga K "Fold") (He.ma K (He.ga K "Fold") "__init__")
  cls_Machine : Cls K (He.ga K "Machine")
  mk_Machine : Mk K (He.ga K "Machine") (He.ma K (He.ga K "Machine") "__init__")
  cls_Plus : Cls K (He.ga K "Plus")
  mk_Plus : Mk K (He.ga K "Plus") (He.ma K (He.ga K "Plus") "__init__")
  cls_Rise : Cls K (He.ga K "Rise")
  mk_Rise : Mk K (He.ga K "Rise") (He.ma K (He.ga K "Rise") "__init__")
  cls_Step : Cls K (He.ga K "Step")
  cls_Times : Cls K (He.ga K "Times")
  mk_Times : Mk K (He.ga K "Times") (He.ma K (He.ga K "Times") "__init__")
  cls_Turn : Cls K (He.ga K "Turn")
  mk_Turn : Mk K (He.ga K "Turn") (He.ma K (He.ga K "Turn") "__init__")
  na_Chain_inners : NoAttr K (He.ga K "Chain") "inners"
  na_Chain_much : NoAttr K (He.ga K "Chain") "much"
  na_Cross_much : NoAttr K (He.ga K "Cross") "much"
  na_Fold_much : NoAttr K (He.ga K "Fold") "much"
  na_Machine_depth : NoAttr K (He.ga K "Machine") "depth"
  na_Machine_kept_steps : NoAttr K (He.ga K "Machine") "kept_steps"
  na_Machine_part_bits : NoAttr K (He.ga K "Machine") "part_bits"
  na_Machine_place_bits : NoAttr K (He.ga K "Machine") "place_bits"
  na_Machine_row : NoAttr K (He.ga K "Machine") "row"
  na_Machine_seed_bits : NoAttr K (He.ga K "Machine") "seed_bits"
  na_Machine_width : NoAttr K (He.ga K "Machine") "width"
  na_Plus_much : NoAttr K (He.ga K "Plus") "much"
  na_Rise_much : NoAttr K (He.ga K "Rise") "much"
  na_Times_much : NoAttr K (He.ga K "Times") "much"
  na_Turn_much : NoAttr K (He.ga K "Turn") "much"
  k_LEAST_WIDTH : ∃ t, mg "LEAST_WIDTH" = some (.int 4 t)
  k_MOST_FAR : ∃ t, mg "MOST_FAR" = some (.int 63 t)
  k_MOST_LEVELS : ∃ t, mg "MOST_LEVELS" = some (.int 4 t)
  k_MOST_MUCH : ∃ t, mg "MOST_MUCH" = some (.int 18446744073709551615 t)
  k_MOST_STEPS : ∃ t, mg "MOST_STEPS" = some (.int 12 t)
  k_MOST_WIDTH : ∃ t, mg "MOST_WIDTH" = some (.int 64 t)
  g_BOUNDS : mg "BOUNDS" = some (.ref (He.ga K "BOUNDS"))
  q_BOUNDS : ∀ H : Hp, SqT K H (He.ga K "BOUNDS") [V.ref (itAt K (He.ga K "BOUNDS") 0), V.ref (itAt K (He.ga K "BOUNDS") 1), V.ref (itAt K (He.ga K "BOUNDS") 2), V.ref (itAt K (He.ga K "BOUNDS") 3)]
  q_BOUNDS_0 : ∀ H : Hp, SqT K H (itAt K (He.ga K "BOUNDS") 0) [V.int 0, V.int 32]
  q_BOUNDS_1 : ∀ H : Hp, SqT K H (itAt K (He.ga K "BOUNDS") 1) [V.int 1, V.int 5]
  q_BOUNDS_2 : ∀ H : Hp, SqT K H (itAt K (He.ga K "BOUNDS") 2) [V.int 0, V.int 6]
  q_BOUNDS_3 : ∀ H : Hp, SqT K H (itAt K (He.ga K "BOUNDS") 3) [V.int 1, V.int 16]
  x_NoNumber : ExC K (He.ga K "NoNumber")
  a_NoNumber_found : PySem.W.findIn K (.ref (He.ga K "NoNumber")) "found" = some none
  m_NoNumber : Meth K (He.ga K "NoNumber") "__init__" (He.ma K (He.ga K "NoNumber") "__init__")
  I_NoNumber : ∃ fd, FunD K "__init__" "NoNumber.__init__" (defArgs s_NoNumber_init) (defBody s_NoNumber_init) (defScope s_NoNumber_init) [] [] (He.ma K (He.ga K "NoNumber") "__init__") fd
  x_NoStep : ExC K (He.ga K "NoStep")
  a_NoStep_found : PySem.W.findIn K (.ref (He.ga K "NoStep")) "found" = some none
  m_NoStep : Meth K (He.ga K "NoStep") "__init__" (He.ma K (He.ga K "NoStep") "__init__")
  I_NoStep : ∃ fd, FunD K "__init__" "NoStep.__init__" (defArgs s_NoStep_init) (defBody s_NoStep_init) (defScope s_NoStep_init) [] [] (He.ma K (He.ga K "NoStep") "__init__") fd
  x_NoMachine : ExC K (He.ga K "NoMachine")
  a_NoMachine_found : PySem.W.findIn K (.ref (He.ga K "NoMachine")) "found" = some none
  m_NoMachine : Meth K (He.ga K "NoMachine") "__init__" (He.ma K (He.ga K "NoMachine") "__init__")
  I_NoMachine : ∃ fd, FunD K "__init__" "NoMachine.__init__" (defArgs s_NoMachine_init) (defBody s_NoMachine_init) (defScope s_NoMachine_init) [] [] (He.ma K (He.ga K "NoMachine") "__init__") fd
  x_NoRow : ExC K (He.ga K "NoRow")
  a_NoRow_found : PySem.W.findIn K (.ref (He.ga K "NoRow")) "found" = some none
  m_NoRow : Meth K (He.ga K "NoRow") "__init__" (He.ma K (He.ga K "NoRow") "__init__")
  I_NoRow : ∃ fd, FunD K "__init__" "NoRow.__init__" (defArgs s_NoRow_init) (defBody s_NoRow_init) (defScope s_NoRow_init) [] [] (He.ma K (He.ga K "NoRow") "__init__") fd
  i0 : IniC K (He.ga K "SeedError")
  cf_Step_init : ClF K (He.ga K "Step") "__init__"
  ins_Plus : InsC K (He.ga K "Plus")
  ins_Times : InsC K (He.ga K "Times")
  ins_Cross : InsC K (He.ga K "Cross")
  ins_Fold : InsC K (He.ga K "Fold")
  ins_Rise : InsC K (He.ga K "Rise")
  ins_Turn : InsC K (He.ga K "Turn")
  sm : (K.lookup PySem.sysModules).isSome = true
  kit_Plus_Step : PySem.W.kitOne K (.ref (He.ga K "Plus")) (.ref (He.ga K "Step")) = some true
  kit_Times_Step : PySem.W.kitOne K (.ref (He.ga K "Times")) (.ref (He.ga K "Step")) = some true
  kit_Cross_Step : PySem.W.kitOne K (.ref (He.ga K "Cross")) (.ref (He.ga K "Step")) = some true
  kit_Fold_Step : PySem.W.kitOne K (.ref (He.ga K "Fold")) (.ref (He.ga K "Step")) = some true
  kit_Rise_Step : PySem.W.kitOne K (.ref (He.ga K "Rise")) (.ref (He.ga K "Step")) = some true
  kit_Turn_Step : PySem.W.kitOne K (.ref (He.ga K "Turn")) (.ref (He.ga K "Step")) = some true
  kit_NoRow_SeedError : PySem.W.kitOne K (.ref (He.ga K "NoRow")) (.ref (He.ga K "SeedError")) = some true
  exm_NoRow_NoRow : PySem.W.exmOne K (.ref (He.ga K "NoRow")) (.ref (He.ga K "NoRow")) = some true
theorem tx_mk {K : Fg} {h : Heap} {mg : Str → Option Value} {w : World} (X : K.In h) (G : h.Ns mainGlobals mg) (ct : sayT fp fn ts w K) : Tx K mg w := by
  have c := ct.bas
  obtain ⟨p1, p2⟩ := He.ba (show ((fa.all fun f => f.ok K) && allB [exB K (He.ga K "NoNumber"), exB K (He.ga K "NoStep"), exB K (He.ga K "NoMachine"), exB K (He.ga K "NoRow"), iniB K (He.ga K "SeedError"), clfB K (He.ga K "Step") "__init__", decide (He.ma K (He.ga K "Cross") "levels" = He.ma K (He.ga K "Step") "levels"), decide (He.ma K (He.ga K "Times") "levels" = He.ma K (He.ga K "Step") "levels"), decide (He.ma K (He.ga K "Rise") "levels" = He.ma K (He.ga K "Step") "levels"), decide (He.ma K (He.ga K "Plus") "levels" = He.ma K (He.ga K "Step") "levels"), decide (He.ma K (He.ga K "Turn") "levels" = He.ma K (He.ga K "Step") "levels"), decide (He.ma K (He.ga K "Fold") "levels" = He.ma K (He.ga K "Step") "levels"), insB K (He.ga K "Plus"), insB K (He.ga K "Times"), insB K (He.ga K "Cross"), insB K (He.ga K "Fold"), insB K (He.ga K "Rise"), insB K (He.ga K "Turn"), (K.lookup PySem.sysModules).isSome, decide (PySem.W.kitOne K (.ref (He.ga K "Plus")) (.ref (He.ga K "Step")) = some true), decide (PySem.W.kitOne K (.ref (He.ga K "Times")) (.ref (He.ga K "Step")) = some true), decide (PySem.W.kitOne K (.ref (He.ga K "Cross")) (.ref (He.ga K "Step")) = some true), decide (PySem.W.kitOne K (.ref (He.ga K "Fold")) (.ref (He.ga K "Step")) = some true), decide (PySem.W.kitOne K (.ref (He.ga K "Rise")) (.ref (He.ga K "Step")) = some true), decide (PySem.W.kitOne K (.ref (He.ga K "Turn")) (.ref (He.ga K "Step")) = some true), decide (PySem.W.kitOne K (.ref (He.ga K "NoRow")) (.ref (He.ga K "SeedError")) = some true), decide (PySem.W.exmOne K (.ref (He.ga K "NoRow")) (.ref (He.ga K "NoRow")) = some true), tupAt K (He.ga K "BOUNDS") [V.ref (itAt K (He.ga K "BOUNDS") 0), V.ref (itAt K (He.ga K "BOUNDS") 1), V.ref (itAt K (He.ga K "BOUNDS") 2), V.ref (itAt K (He.ga K "BOUNDS") 3)], tupAt K (itAt K (He.ga K "BOUNDS") 0) [V.int 0, V.int 32], tupAt K (itAt K (He.ga K "BOUNDS") 1) [V.int 1, V.int 5], tupAt K (itAt K (He.ga K "BOUNDS") 2) [V.int 0, V.int 6], tupAt K (itAt K (He.ga K "BOUNDS") 3) [V.int 1, V.int 16]]) = true from c.p)
  have fc : ∀ (i : Nat) {f : He.Fa}, fa[i]? = some f → f.ok K = true := fun i f e => List.all_eq_true.mp p1 f (List.mem_of_getElem? e)
  have ec : ∀ (i : Nat) {b : Bool}, ([exB K (He.ga K "NoNumber"), exB K (He.ga K "NoStep"), exB K (He.ga K "NoMachine"), exB K (He.ga K "NoRow"), iniB K (He.ga K "SeedError"), clfB K (He.ga K "Step") "__init__", decide (He.ma K (He.ga K "Cross") "levels" = He.ma K (He.ga K "Step") "levels"), decide (He.ma K (He.ga K "Times") "levels" = He.ma K (He.ga K "Step") "levels"), decide (He.ma K (He.ga K "Rise") "levels" = He.ma K (He.ga K "Step") "levels"), decide (He.ma K (He.ga K "Plus") "levels" = He.ma K (He.ga K "Step") "levels"), decide (He.ma K (He.ga K "Turn") "levels" = He.ma K (He.ga K "Step") "levels"), decide (He.ma K (He.ga K "Fold") "levels" = He.ma K (He.ga K "Step") "levels"), insB K (He.ga K "Plus"), insB K (He.ga K "Times"), insB K (He.ga K "Cross"), insB K (He.ga K "Fold"), insB K (He.ga K "Rise"), insB K (He.ga K "Turn"), (K.lookup PySem.sysModules).isSome, decide (PySem.W.kitOne K (.ref (He.ga K "Plus")) (.ref (He.ga K "Step")) = some true), decide (PySem.W.kitOne K (.ref (He.ga K "Times")) (.ref (He.ga K "Step")) = some true), decide (PySem.W.kitOne K (.ref (He.ga K "Cross")) (.ref (He.ga K "Step")) = some true), decide (PySem.W.kitOne K (.ref (He.ga K "Fold")) (.ref (He.ga K "Step")) = some true), decide (PySem.W.kitOne K (.ref (He.ga K "Rise")) (.ref (He.ga K "Step")) = some true), decide (PySem.W.kitOne K (.ref (He.ga K "Turn")) (.ref (He.ga K "Step")) = some true), decide (PySem.W.kitOne K (.ref (He.ga K "NoRow")) (.ref (He.ga K "SeedError")) = some true), decide (PySem.W.exmOne K (.ref (He.ga K "NoRow")) (.ref (He.ga K "NoRow")) = some true), tupAt K (He.ga K "BOUNDS") [V.ref (itAt K (He.ga K "BOUNDS") 0), V.ref (itAt K (He.ga K "BOUNDS") 1), V.ref (itAt K (He.ga K "BOUNDS") 2), V.ref (itAt K (He.ga K "BOUNDS") 3)], tupAt K (itAt K (He.ga K "BOUNDS") 0) [V.int 0, V.int 32], tupAt K (itAt K (He.ga K "BOUNDS") 1) [V.int 1, V.int 5], tupAt K (itAt K (He.ga K "BOUNDS") 2) [V.int 0, V.int 6], tupAt K (itAt K (He.ga K "BOUNDS") 3) [V.int 1, V.int 16]] : List Bool)[i]? = some b → b = true := fun i b e => allB_ok p2 i e
  exact {
    cls_Chain := He.cls_ok (fc 67 rfl)
    mk_Chain := He.mkr_ok (fc 76 rfl)
    cls_Cross := He.cls_ok (fc 68 rfl)
    mk_Cross := He.mkr_ok (fc 77 rfl)
    cls_Fold := He.cls_ok (fc 69 rfl)
    mk_Fold := He.mkr_ok (fc 78 rfl)
    cls_Machine := He.cls_ok (fc 70 rfl)
    mk_Machine := He.mkr_ok (fc 79 rfl)
    cls_Plus := He.cls_ok (fc 71 rfl)
    mk_Plus := He.mkr_ok (fc 80 rfl)
    cls_Rise := He.cls_ok (fc 72 rfl)
    mk_Rise := He.mkr_ok (fc 81 rfl)
    cls_Step := He.cls_ok (fc 73 rfl)
    cls_Times := He.cls_ok (fc 74 rfl)
    mk_Times := He.mkr_ok (fc 82 rfl)
    cls_Turn := He.cls_ok (fc 75 rfl)
    mk_Turn := He.mkr_ok (fc 83 rfl)
    na_Chain_inners := He.noat_ok (fc 84 rfl)
    na_Chain_much := He.noat_ok (fc 85 rfl)
    na_Cross_much := He.noat_ok (fc 86 rfl)
    na_Fold_much := He.noat_ok (fc 87 rfl)
    na_Machine_depth := He.noat_ok (fc 88 rfl)
    na_Machine_kept_steps := He.noat_ok (fc 89 rfl)
    na_Machine_part_bits := He.noat_ok (fc 90 rfl)
    na_Machine_place_bits := He.noat_ok (fc 91 rfl)
    na_Machine_row := He.noat_ok (fc 92 rfl)
    na_Machine_seed_bits := He.noat_ok (fc 93 rfl)
    na_Machine_width := He.noat_ok (fc 94 rfl)
    na_Plus_much := He.noat_ok (fc 95 rfl)
    na_Rise_much := He.noat_ok (fc 96 rfl)
    na_Times_much := He.noat_ok (fc 97 rfl)
    na_Turn_much := He.noat_ok (fc 98 rfl)
    k_LEAST_WIDTH := He.int_ok X G (fc 124 rfl)
    k_MOST_FAR := He.int_ok X G (fc 125 rfl)
    k_MOST_LEVELS := He.int_ok X G (fc 126 rfl)
    k_MOST_MUCH := He.int_ok X G (fc 127 rfl)
    k_MOST_STEPS := He.int_ok X G (fc 128 rfl)
    k_MOST_WIDTH := He.int_ok X G (fc 129 rfl)
    g_BOUNDS := He.glo_ok X G (fc 130 rfl)
    q_BOUNDS := fun H => tupAt_ok (ec 27 rfl) H
    q_BOUNDS_0 := fun H => tupAt_ok (ec 28 rfl) H
    q_BOUNDS_1 := fun H => tupAt_ok (ec 29 rfl) H
    q_BOUNDS_2 := fun H => tupAt_ok (ec 30 rfl) H
    q_BOUNDS_3 := fun H => tupAt_ok (ec 31 rfl) H
    g_is_whole := He.glo_ok X G (fc 0 rfl)
    F_is_whole := c.def_ 0 rfl
    g_is_within := He.glo_ok X G (fc 1 rfl)
    F_is_within := c.def_ 1 rfl
    F_Machine_seeds := c.def_ 2 rfl
    M_Machine_seeds := He.meth_ok (fc 99 rfl)
    F_Machine_parts := c.def_ 3 rfl
    M_Machine_parts := He.meth_ok (fc 100 rfl)
    F_Machine_is_path := c.def_ 4 rfl
    M_Machine_is_path := He.meth_ok (fc 101 rfl)
    F_Machine_length := c.def_ 5 rfl
    M_Machine_length := He.meth_ok (fc 102 rfl)
    g_is_part := He.glo_ok X G (fc 2 rfl)
    F_is_part := c.def_ 6 rfl
    g_need_part := He.glo_ok X G (fc 3 rfl)
    F_need_part := c.def_ 7 rfl
    g_first_unlike := He.glo_ok X G (fc 4 rfl)
    F_first_unlike := c.def_ 8 rfl
    g_meeting := He.glo_ok X G (fc 5 rfl)
    F_meeting := c.def_ 9 rfl
    g_need_much := He.glo_ok X G (fc 6 rfl)
    F_need_much := c.def_ 10 rfl
    g_need_odd := He.glo_ok X G (fc 7 rfl)
    F_need_odd := c.def_ 11 rfl
    g_need_far := He.glo_ok X G (fc 8 rfl)
    F_need_far := c.def_ 12 rfl
    F_Cross_levels := by
      have e : He.ma K (He.ga K "Cross") "levels" = He.ma K (He.ga K "Step") "levels" := of_decide_eq_true (ec 6 rfl)
      rw [e]
      exact c.def_ 13 rfl
    M_Cross_levels := He.meth_ok (fc 103 rfl)
    F_Times_levels := by
      have e : He.ma K (He.ga K "Times") "levels" = He.ma K (He.ga K "Step") "levels" := of_decide_eq_true (ec 7 rfl)
      rw [e]
      exact c.def_ 13 rfl
    M_Times_levels := He.meth_ok (fc 104 rfl)
    F_Rise_levels := by
      have e : He.ma K (He.ga K "Rise") "levels" = He.ma K (He.ga K "Step") "levels" := of_decide_eq_true (ec 8 rfl)
      rw [e]
      exact c.def_ 13 rfl
    M_Rise_levels := He.meth_ok (fc 105 rfl)
    F_Plus_levels := by
      have e : He.ma K (He.ga K "Plus") "levels" = He.ma K (He.ga K "Step") "levels" := of_decide_eq_true (ec 9 rfl)
      rw [e]
      exact c.def_ 13 rfl
    M_Plus_levels := He.meth_ok (fc 106 rfl)
    F_Turn_levels := by
      have e : He.ma K (He.ga K "Turn") "levels" = He.ma K (He.ga K "Step") "levels" := of_decide_eq_true (ec 10 rfl)
      rw [e]
      exact c.def_ 13 rfl
    M_Turn_levels := He.meth_ok (fc 107 rfl)
    F_Fold_levels := by
      have e : He.ma K (He.ga K "Fold") "levels" = He.ma K (He.ga K "Step") "levels" := of_decide_eq_true (ec 11 rfl)
      rw [e]
      exact c.def_ 13 rfl
    M_Fold_levels := He.meth_ok (fc 108 rfl)
    g_need_step := He.glo_ok X G (fc 9 rfl)
    F_need_step := c.def_ 14 rfl
    g__law_cell_at := He.glo_ok X G (fc 10 rfl)
    F__law_cell_at := c.def_ 15 rfl
    g__law_box := He.glo_ok X G (fc 11 rfl)
    F__law_box := c.def_ 16 rfl
    g__law_take := He.glo_ok X G (fc 12 rfl)
    F__law_take := c.def_ 17 rfl
    g__law_is_whole := He.glo_ok X G (fc 13 rfl)
    F__law_is_whole := c.def_ 18 rfl
    g__law_step := He.glo_ok X G (fc 14 rfl)
    F__law_step := c.def_ 19 rfl
    g__law_machine := He.glo_ok X G (fc 15 rfl)
    F__law_machine := c.def_ 20 rfl
    F_sinit_Plus := c.def_ 21 rfl
    M_sinit_Plus := He.meth_ok (fc 121 rfl)
    F_Plus_init := c.def_ 22 rfl
    M_Plus_init := He.meth_ok (fc 110 rfl)
    F_sinit_Times := c.def_ 21 rfl
    M_sinit_Times := He.meth_ok (fc 121 rfl)
    F_Times_init := c.def_ 23 rfl
    M_Times_init := He.meth_ok (fc 112 rfl)
    F_sinit_Cross := c.def_ 21 rfl
    M_sinit_Cross := He.meth_ok (fc 121 rfl)
    F_Cross_init := c.def_ 24 rfl
    M_Cross_init := He.meth_ok (fc 114 rfl)
    F_sinit_Fold := c.def_ 21 rfl
    M_sinit_Fold := He.meth_ok (fc 121 rfl)
    F_Fold_init := c.def_ 25 rfl
    M_Fold_init := He.meth_ok (fc 116 rfl)
    F_sinit_Rise := c.def_ 21 rfl
    M_sinit_Rise := He.meth_ok (fc 121 rfl)
    F_Rise_init := c.def_ 26 rfl
    M_Rise_init := He.meth_ok (fc 118 rfl)
    F_sinit_Turn := c.def_ 21 rfl
    M_sinit_Turn := He.meth_ok (fc 121 rfl)
    F_Turn_init := c.def_ 27 rfl
    M_Turn_init := He.meth_ok (fc 120 rfl)
    F_sinit_Chain := c.def_ 21 rfl
    M_sinit_Chain := He.meth_ok (fc 121 rfl)
    F_Chain_init := c.def_ 28 rfl
    M_Chain_init := He.meth_ok (fc 122 rfl)
    F_Machine_init := c.def_ 29 rfl
    M_Machine_init := He.meth_ok (fc 123 rfl)
    g__law_made := He.glo_ok X G (fc 16 rfl)
    F__law_made := c.def_ 30 rfl
    g__law_onward := He.glo_ok X G (fc 17 rfl)
    F__law_onward := c.def_ 31 rfl
    g__law_state_by := He.glo_ok X G (fc 18 rfl)
    F__law_state_by := c.def_ 32 rfl
    g__law_state := He.glo_ok X G (fc 19 rfl)
    F__law_state := c.def_ 33 rfl
    g__law_seed := He.glo_ok X G (fc 20 rfl)
    F__law_seed := c.def_ 34 rfl
    g__law_path := He.glo_ok X G (fc 21 rfl)
    F__law_path := c.def_ 35 rfl
    g__law_same := He.glo_ok X G (fc 22 rfl)
    F__law_same := c.def_ 36 rfl
    g__law_stretch := He.glo_ok X G (fc 23 rfl)
    F__law_stretch := c.def_ 37 rfl
    g__law_no_stretch := He.glo_ok X G (fc 24 rfl)
    F__law_no_stretch := c.def_ 38 rfl
    g__law_near := He.glo_ok X G (fc 25 rfl)
    F__law_near := c.def_ 39 rfl
    g__law_meeting := He.glo_ok X G (fc 26 rfl)
    F__law_meeting := c.def_ 40 rfl
    g__law_numbers := He.glo_ok X G (fc 27 rfl)
    F__law_numbers := c.def_ 41 rfl
    g__law_very := He.glo_ok X G (fc 28 rfl)
    F__law_very := c.def_ 42 rfl
    g__law_refused := He.glo_ok X G (fc 29 rfl)
    F__law_refused := c.def_ 43 rfl
    g__law_told_right := He.glo_ok X G (fc 30 rfl)
    F__law_told_right := c.def_ 44 rfl
    g_law := He.glo_ok X G (fc 31 rfl)
    F_law := c.def_ 45 rfl
    g_SeedError := He.glo_ok X G (fc 32 rfl)
    g_NoNumber := He.glo_ok X G (fc 33 rfl)
    g_NoStep := He.glo_ok X G (fc 34 rfl)
    g_NoMachine := He.glo_ok X G (fc 35 rfl)
    g_NoRow := He.glo_ok X G (fc 36 rfl)
    g_Step := He.glo_ok X G (fc 37 rfl)
    g_Plus := He.glo_ok X G (fc 38 rfl)
    g_Times := He.glo_ok X G (fc 39 rfl)
    g_Cross := He.glo_ok X G (fc 40 rfl)
    g_Fold := He.glo_ok X G (fc 41 rfl)
    g_Rise := He.glo_ok X G (fc 42 rfl)
    g_Turn := He.glo_ok X G (fc 43 rfl)
    g_Chain := He.glo_ok X G (fc 44 rfl)
    g_Machine := He.glo_ok X G (fc 45 rfl)
    n_all := He.free_ok X G (fc 46 rfl)
    n_bool := He.free_ok X G (fc 47 rfl)
    n_int := He.free_ok X G (fc 48 rfl)
    n_isinstance := He.free_ok X G (fc 49 rfl)
    n_len := He.free_ok X G (fc 50 rfl)
    n_list := He.free_ok X G (fc 51 rfl)
    n_max := He.free_ok X G (fc 52 rfl)
    n_min := He.free_ok X G (fc 53 rfl)
    n_range := He.free_ok X G (fc 54 rfl)
    n_repr := He.free_ok X G (fc 55 rfl)
    n_str := He.free_ok X G (fc 56 rfl)
    n_tuple := He.free_ok X G (fc 57 rfl)
    n_zip := He.free_ok X G (fc 58 rfl)
    x_NoNumber := exB_ok (ec 0 rfl)
    a_NoNumber_found := He.noat_ok (fc 59 rfl)
    m_NoNumber := He.meth_ok (fc 63 rfl)
    I_NoNumber := c.def_ 46 rfl
    x_NoStep := exB_ok (ec 1 rfl)
    a_NoStep_found := He.noat_ok (fc 60 rfl)
    m_NoStep := He.meth_ok (fc 64 rfl)
    I_NoStep := c.def_ 47 rfl
    x_NoMachine := exB_ok (ec 2 rfl)
    a_NoMachine_found := He.noat_ok (fc 61 rfl)
    m_NoMachine := He.meth_ok (fc 65 rfl)
    I_NoMachine := c.def_ 48 rfl
    x_NoRow := exB_ok (ec 3 rfl)
    a_NoRow_found := He.noat_ok (fc 62 rfl)
    m_NoRow := He.meth_ok (fc 66 rfl)
    I_NoRow := c.def_ 49 rfl
    i0 := iniB_ok (ec 4 rfl)
    cf_Step_init := clfB_ok (ec 5 rfl)
    ins_Plus := insB_ok (ec 12 rfl)
    ins_Times := insB_ok (ec 13 rfl)
    ins_Cross := insB_ok (ec 14 rfl)
    ins_Fold := insB_ok (ec 15 rfl)
    ins_Rise := insB_ok (ec 16 rfl)
    ins_Turn := insB_ok (ec 17 rfl)
    sm := ec 18 rfl
    kit_Plus_Step := of_decide_eq_true (ec 19 rfl)
    kit_Times_Step := of_decide_eq_true (ec 20 rfl)
    kit_Cross_Step := of_decide_eq_true (ec 21 rfl)
    kit_Fold_Step := of_decide_eq_true (ec 22 rfl)
    kit_Rise_Step := of_decide_eq_true (ec 23 rfl)
    kit_Turn_Step := of_decide_eq_true (ec 24 rfl)
    kit_NoRow_SeedError := of_decide_eq_true (ec 25 rfl)
    exm_NoRow_NoRow := of_decide_eq_true (ec 26 rfl)
  }
theorem ex_NoNumber {P : Program} {w : World} {K : Fg} {mg : Str → Option Value} {base : Heap} (T : Tx K mg w) : Exn P w K mg base "NoNumber" "found" := by
  obtain ⟨fd, F⟩ := T.I_NoNumber
  exact exn_mk T.g_NoNumber T.x_NoNumber T.a_NoNumber_found T.m_NoNumber F ⟨rfl, rfl, rfl, by decide +kernel, rfl, by decide +kernel, by decide +kernel⟩ rfl rfl rfl rfl (by decide) (by decide) rfl T.i0 T.g_SeedError (fun _ _ _ _ _ _ us hl => match us, hl with | [_, _], _ => rfl)
theorem ex_NoStep {P : Program} {w : World} {K : Fg} {mg : Str → Option Value} {base : Heap} (T : Tx K mg w) : Exn P w K mg base "NoStep" "found" := by
  obtain ⟨fd, F⟩ := T.I_NoStep
  exact exn_mk T.g_NoStep T.x_NoStep T.a_NoStep_found T.m_NoStep F ⟨rfl, rfl, rfl, by decide +kernel, rfl, by decide +kernel, by decide +kernel⟩ rfl rfl rfl rfl (by decide) (by decide) rfl T.i0 T.g_SeedError (fun _ _ _ _ _ _ us hl => match us, hl with | [_, _], _ => rfl)
theorem ex_NoMachine {P : Program} {w : World} {K : Fg} {mg : Str → Option Value} {base : Heap} (T : Tx K mg w) : Exn P w K mg base "NoMachine" "found" := by
  obtain ⟨fd, F⟩ := T.I_NoMachine
  exact exn_mk T.g_NoMachine T.x_NoMachine T.a_NoMachine_found T.m_NoMachine F ⟨rfl, rfl, rfl, by decide +kernel, rfl, by decide +kernel, by decide +kernel⟩ rfl rfl rfl rfl (by decide) (by decide) rfl T.i0 T.g_SeedError (fun _ _ _ _ _ _ us hl => match us, hl with | [_, _], _ => rfl)
theorem ex_NoRow {P : Program} {w : World} {K : Fg} {mg : Str → Option Value} {base : Heap} (T : Tx K mg w) : Exn P w K mg base "NoRow" "found" := by
  obtain ⟨fd, F⟩ := T.I_NoRow
  exact exn_mk T.g_NoRow T.x_NoRow T.a_NoRow_found T.m_NoRow F ⟨rfl, rfl, rfl, by decide +kernel, rfl, by decide +kernel, by decide +kernel⟩ rfl rfl rfl rfl (by decide) (by decide) rfl T.i0 T.g_SeedError (fun _ _ _ _ _ _ us hl => match us, hl with | [_, _], _ => rfl)
/-! ### the box, the heap without it -/
def Well (H : Hp) (p : Addr) : Prop := ∃ x0 x1 x2 : Int, H p = some (.lst [.int x0, .int x1, .int x2])
def wo (p : Addr) (H : Hp) : Hp := fun a => if a = p then none else H a
theorem wo_same {p : Addr} {H : Hp} : Same (wo p H) H := fun a o e => by
  unfold wo at e
  split at e
  · cases e
  · exact e
theorem wo_at {p a : Addr} {H : Hp} (n : a ≠ p) : wo p H a = H a := by
  unfold wo
  rw [if_neg n]
def Wl (p : Addr) (H H' : Hp) : Prop := Well H' p ∧ Same (wo p H) (wo p H')
theorem Wl.refl {p : Addr} {H : Hp} (h : Well H p) : Wl p H H := ⟨h, fun _ _ e => e⟩
theorem Wl.trans {p : Addr} {H H1 H2 : Hp} (a : Wl p H H1) (b : Wl p H1 H2) : Wl p H H2 := ⟨b.1, Same.trans a.2 b.2⟩
theorem Well.same {H H' : Hp} {p : Addr} (s : Same H H') (h : Well H p) : Well H' p := by
  obtain ⟨x0, x1, x2, e⟩ := h
  exact ⟨x0, x1, x2, s _ _ e⟩
theorem Wl.of_same {p : Addr} {H H' : Hp} (h : Well H p) (s : Same H H') : Wl p H H' := by
  refine ⟨Well.same s h, fun a o z => ?_⟩
  unfold wo at z ⊢
  split at z
  · cases z
  · rename_i n
    rw [if_neg n]
    exact s _ _ z
theorem Wl.at {p a : Addr} {H H' : Hp} {o : HO} (w : Wl p H H') (n : a ≠ p) (e : H a = some o) : H' a = some o := wo_same _ _ (w.2 a o (by rw [wo_at n]; exact e))
theorem Wl.mut {p q : Addr} {H H1 : Hp} {o : HO} (w : Wl p H H1) (n : q ≠ p) (f : H q = none) : Wl p H (upd H1 q o) := by
  obtain ⟨⟨x0, x1, x2, e⟩, s⟩ := w
  refine ⟨⟨x0, x1, x2, by rw [upd_ne n.symm]; exact e⟩, fun a u h => ?_⟩
  have h2 := s a u h
  unfold wo at h h2 ⊢
  split at h
  · cases h
  · rename_i k
    rw [if_neg k] at h2 ⊢
    rw [upd_ne (ne_of_none h f)]
    exact h2
theorem Wl.draw {p : Addr} {H1 H2 : Hp} (h : Well H2 p) (e : ∀ a, a ≠ p → H2 a = H1 a) : Wl p H1 H2 := ⟨h, fun a o k => by
  unfold wo at k ⊢
  split at k
  · cases k
  · rename_i n
    rw [if_neg n, e a n]
    exact k⟩
/-- a list or a tuple at a place -/
def Sq (H : Hp) (v : V) (xs : List V) : Prop := ∃ p o, v = .ref p ∧ H p = some o ∧ seqO o = some xs
theorem Sq.same {H H' : Hp} (s : Same H H') {v : V} {xs : List V} (h : Sq H v xs) : Sq H' v xs := by
  obtain ⟨p, o, e, h, k⟩ := h
  exact ⟨p, o, e, s _ _ h, k⟩
def TyA (H : Hp) (x : V) : Prop := ∃ n, tyN H x = some n
theorem TyA.same {H H' : Hp} (s : Same H H') {v : V} (h : TyA H v) : TyA H' v := h.imp fun _ e => tyN_same s e
def All2 {α β : Type} (R : α → β → Prop) : List α → List β → Prop
  | [], [] => True
  | a :: r, b :: s => R a b ∧ All2 R r s
  | _, _ => False
theorem All2.imp {α β : Type} {R S : α → β → Prop} (h : ∀ a b, R a b → S a b) : ∀ {l : List α} {m : List β}, All2 R l m → All2 S l m
  | [], [], _ => True.intro
  | _ :: _, _ :: _, ⟨x, y⟩ => ⟨h _ _ x, All2.imp h y⟩
  | [], _ :: _, x => x
  | _ :: _, [], x => x
theorem All2.snoc {α β : Type} {R : α → β → Prop} {a : α} {b : β} (h : R a b) : ∀ {l : List α} {m : List β}, All2 R l m → All2 R (l ++ [a]) (m ++ [b])
  | [], [], _ => ⟨h, True.intro⟩
  | _ :: _, _ :: _, ⟨x, y⟩ => ⟨x, All2.snoc h y⟩
  | [], _ :: _, x => x.elim
  | _ :: _, [], x => x.elim
theorem All2.len {α β : Type} {R : α → β → Prop} : ∀ {l : List α} {m : List β}, All2 R l m → l.length = m.length
  | [], [], _ => rfl
  | _ :: _, _ :: _, ⟨_, y⟩ => congrArg (· + 1) (All2.len y)
  | [], _ :: _, x => x.elim
  | _ :: _, [], x => x.elim
theorem newW {p d : Addr} {H1 : Hp} {o : HO} (b : Well H1 p) (hd : H1 d = none) : d ≠ p ∧ Wl p H1 (upd H1 d o) := ⟨by
  obtain ⟨_, _, _, e⟩ := b
  exact (ne_of_none e hd).symm, Wl.of_same b (Same.new hd)⟩
theorem All2.at {α β : Type} {R : α → β → Prop} : ∀ {l : List α} {m : List β} {i : Nat}, All2 R l m → i < l.length → ∃ a b, l[i]? = some a ∧ m[i]? = some b ∧ R a b
  | a :: _, b :: _, 0, ⟨x, _⟩, _ => ⟨a, b, rfl, rfl, x⟩
  | _ :: _, _ :: _, i + 1, ⟨_, y⟩, h => All2.at (i := i) y (by simp at h; omega)
  | [], [], _, _, h => absurd h (by simp)
def away (a : Addr) (H : Hp) : Hp := fun b => if b = a then none else H b
theorem away_same {a : Addr} {H : Hp} : Same (away a H) H := fun b o e => by
  unfold away at e
  split at e
  · cases e
  · exact e
theorem away_upd {a : Addr} {H : Hp} {o : HO} : Same (away a H) (upd H a o) := fun b u e => by
  unfold away at e
  split at e
  · cases e
  · rename_i n
    rw [upd_ne n]
    exact e
theorem away_ne {a b : Addr} {H : Hp} {o : HO} (h : away a H b = some o) : b ≠ a := fun e => by
  unfold away at h
  rw [if_pos e] at h
  cases h
theorem wo_mono {p : Addr} {H H' : Hp} (s : Same H H') : Same (wo p H) (wo p H') := fun a o e => by
  unfold wo at e ⊢
  split at e
  · cases e
  · rename_i n
    rw [if_neg n]
    exact s _ _ e
theorem mkS {H H' : Hp} {x dx : Addr} {o1 o2 : HO} (hx : H x = none) (hd : H dx = none) (k : ∀ b o, b ≠ x → upd (upd H dx o1) x o2 b = some o → H' b = some o) : Same H H' := fun a o e => k a o (ne_of_none e hx) (by
  rw [upd_ne (ne_of_none e hx), upd_ne (ne_of_none e hd)]
  exact e)
theorem mkA {H : Hp} {x dx : Addr} {o1 o2 : HO} (hx : H x = none) (hd : H dx = none) : Same H (away x (upd (upd H dx o1) x o2)) := fun a o e => by
  unfold away
  rw [if_neg (ne_of_none e hx), upd_ne (ne_of_none e hx), upd_ne (ne_of_none e hd)]
  exact e
theorem mkN {H : Hp} {pf x dx : Addr} {o1 o2 u : HO} (hpf : H pf = some u) (hx : H x = none) (hd : H dx = none) : pf ≠ x ∧ upd (upd H dx o1) x o2 pf ≠ none := by
  have n1 := ne_of_none hpf hx
  refine ⟨n1, ?_⟩
  rw [upd_ne n1, upd_ne (ne_of_none hpf hd), hpf]
  nofun
theorem alW {p d : Addr} {H H2 : Hp} {o : HO} (b : Well H p) (al : Al H d o H2) : d ≠ p ∧ Wl p H H2 ∧ wo p H2 d = some o := by
  have nd : d ≠ p := by
    obtain ⟨_, _, _, e⟩ := b
    exact al.ne e
  exact ⟨nd, Wl.of_same b al.s, by rw [wo_at nd]; exact al.e⟩
theorem sql_same {K : Fg} {H H' : Hp} {a : Addr} {xs : List V} (s : Same H H') (h : SqL K H a xs) : SqL K H' a xs := h.imp (fun r => r.imp (s _ _) fun ⟨o, e⟩ => ⟨o, s _ _ e⟩) id
theorem wlist {p : Addr} {H H' : Hp} (w : Wl p H H') : ∃ l, H' p = some (.lst l) := by
  obtain ⟨_, _, _, e⟩ := w.1
  exact ⟨_, e⟩
theorem Wl.new {p : Addr} {H H1 H2 : Hp} (w : Wl p H H1) (s : Same H1 H2) : Wl p H H2 := Wl.trans w (Wl.of_same w.1 s)
theorem Wl.ds {p : Addr} {H H1 H2 : Hp} (w : Wl p H H1) (h : Well H2 p) (e : ∀ a, a ≠ p → H2 a = H1 a) : Wl p H H2 := Wl.trans w (Wl.draw h e)
/-! ### data -/
/-- comparable data -/
def Cd (K : Fg) (H : Hp) (x : V) (d : PyData) : Prop := Dp K H x d ∧ PyData.canLay0 d = true ∧ PyData.depth d ≤ 40
def CD (K : Fg) (H : Hp) (x : V) : Prop := TyA H x ∧ ∃ d, Cd K H x d
/-! ### machines -/
structure Mc where
  sb : Nat
  pb : Nat
  dp : Nat
  lb : Nat
def Mc.wd (m : Mc) : Nat := m.sb + m.pb * m.dp + m.lb
def Mc.ok (m : Mc) : Prop := m.sb ≤ 32 ∧ 1 ≤ m.pb ∧ m.pb ≤ 5 ∧ m.dp ≤ 6 ∧ 1 ≤ m.lb ∧ m.lb ≤ 16 ∧ 4 ≤ m.wd ∧ m.wd ≤ 64
def Mc.seeds (m : Mc) : Int := 2 ^ m.sb
def Mc.parts (m : Mc) : Int := 2 ^ m.pb - 1
def Mc.len (m : Mc) : Int := 2 ^ m.lb
def ObM (K : Fg) (H : Hp) (m : Mc) (v : V) : Prop := ∃ a dx x y, v = .ref a ∧ H a = some (.ins (He.ga K "Machine") dx [("seed_bits", .int (m.sb : Nat)), ("part_bits", .int (m.pb : Nat)), ("depth", .int (m.dp : Nat)), ("place_bits", .int (m.lb : Nat)), ("width", .int (m.wd : Nat)), ("row", x), ("kept_steps", y)])
theorem ObM.same {K : Fg} {H H' : Hp} {m : Mc} {v : V} (s : Same H H') (h : ObM K H m v) : ObM K H' m v := let ⟨a, dx, x, y, e, h⟩ := h; ⟨a, dx, x, y, e, s _ _ h⟩
inductive Sk
  | plus
  | times
  | cross
  | fold
  | rise
  | turn
def Sk.nm : Sk → Str
  | .plus => "plus"
  | .times => "times"
  | .cross => "cross"
  | .fold => "fold"
  | .rise => "rise"
  | .turn => "turn"
def Sk.cl : Sk → Str
  | .plus => "Plus"
  | .times => "Times"
  | .cross => "Cross"
  | .fold => "Fold"
  | .rise => "Rise"
  | .turn => "Turn"
def stOk (k : Sk) (z : Int) : Prop := match k with
  | .plus => 0 ≤ z ∧ z ≤ 2 ^ 64 - 1
  | .cross => 0 ≤ z ∧ z ≤ 2 ^ 64 - 1
  | .times => 0 ≤ z ∧ z ≤ 2 ^ 64 - 1 ∧ z % 2 = 1
  | _ => 1 ≤ z ∧ z ≤ 63
/-- a step's object -/
def ObS (K : Fg) (H : Hp) (s : Sk × Int) (v : V) : Prop := ∃ a dx, v = .ref a ∧ H a = some (.ins (He.ga K s.1.cl) dx [("much", .int s.2)])
theorem ObS.same {K : Fg} {H H' : Hp} {s : Sk × Int} {v : V} (t : Same H H') (h : ObS K H s v) : ObS K H' s v := let ⟨a, dx, e, h⟩ := h; ⟨a, dx, e, t _ _ h⟩
/-- a step as the law tells it -/
def StT (H : Hp) (s : Sk × Int) (v : V) : Prop := ∃ p, v = .ref p ∧ H p = some (.tup [.str s.1.nm, .int s.2])
theorem StT.same {H H' : Hp} {s : Sk × Int} {v : V} (t : Same H H') (h : StT H s v) : StT H' s v := let ⟨a, e, h⟩ := h; ⟨a, e, t _ _ h⟩
/-- a machine as the law tells it -/
def Tm (H : Hp) (m : Mc) (ss : List (Sk × Int)) (v : V) : Prop := ∃ p q xs, v = .ref p ∧ H p = some (.tup [.int (m.sb : Nat), .int (m.pb : Nat), .int (m.dp : Nat), .int (m.lb : Nat), .ref q]) ∧ H q = some (.lst xs) ∧ All2 (StT H) ss xs ∧ ss.length ≤ 12 ∧ ∀ s ∈ ss, stOk s.1 s.2
theorem Tm.same {H H' : Hp} {m : Mc} {ss : List (Sk × Int)} {v : V} (t : Same H H') (h : Tm H m ss v) : Tm H' m ss v := let ⟨p, q, xs, e, h1, h2, h3, h4⟩ := h; ⟨p, q, xs, e, t _ _ h1, t _ _ h2, All2.imp (fun _ _ k => k.same t) h3, h4⟩
/-! ### stretches -/
structure Sx where
  seed : Int
  path : List Int
  place : Int
  many : Int
def Sx.ok (m : Mc) (s : Sx) : Prop := (0 ≤ s.seed ∧ s.seed < m.seeds) ∧ s.path.length ≤ m.dp ∧ (∀ c ∈ s.path, 0 ≤ c ∧ c < m.parts) ∧ (0 ≤ s.place ∧ s.place ≤ m.len) ∧ 0 ≤ s.many ∧ s.many ≤ m.len - s.place
def Ts (H : Hp) (s : Sx) (v : V) : Prop := ∃ p q, v = .ref p ∧ H p = some (.tup [.int s.seed, .ref q, .int s.place, .int s.many]) ∧ H q = some (.tup (s.path.map V.int))
theorem Ts.same {H H' : Hp} {s : Sx} {v : V} (t : Same H H') (h : Ts H s v) : Ts H' s v := let ⟨p, q, e, h1, h2⟩ := h; ⟨p, q, e, t _ _ h1, t _ _ h2⟩
def iOf : V → Int
  | .int z => z
  | _ => 0
inductive PathR (m : Mc) (H : Hp) : V → Bool → Prop
  | no {x : V} : isB H x "tuple" = some false → PathR m H x false
  | tup {q : Addr} {ys : List V} : H q = some (.tup ys) → (∀ y ∈ ys, TyA H y) → ys.length ≤ 1000 → PathR m H (.ref q) (decide (ys.length ≤ m.dp) && ys.all fun y => within y 0 (m.parts - 1))
inductive PartR (m : Mc) (H : Hp) : V → Bool → Prop
  | no {x : V} : isB H x "tuple" = some false → PartR m H x false
  | len {p : Addr} {xs : List V} : H p = some (.tup xs) → xs.length ≠ 4 → PartR m H (.ref p) false
  | four {p : Addr} {a b c d : V} {r : Bool} : H p = some (.tup [a, b, c, d]) → TyA H a → TyA H c → TyA H d → PathR m H b r → PartR m H (.ref p) (within a 0 (m.seeds - 1) && (r && (within c 0 m.len && within d 0 (m.len - iOf c))))
theorem PathR.same {m : Mc} {H H' : Hp} (s : Same H H') {x : V} {r : Bool} (h : PathR m H x r) : PathR m H' x r := by
  cases h with
  | no h => exact .no (isB_same s h)
  | tup h k l => exact .tup (s _ _ h) (fun y hy => (k y hy).same s) l
theorem PartR.same {m : Mc} {H H' : Hp} (s : Same H H') {x : V} {r : Bool} (h : PartR m H x r) : PartR m H' x r := by
  cases h with
  | no h => exact .no (isB_same s h)
  | len h k => exact .len (s _ _ h) k
  | four h1 h2 h3 h4 h5 => exact .four (s _ _ h1) (h2.same s) (h3.same s) (h4.same s) (h5.same s)
theorem within_int {x : V} {l h : Int} (e : within x l h = true) : ∃ z, x = .int z ∧ l ≤ z ∧ z ≤ h := by
  cases x with
  | int z => exact ⟨z, rfl, of_decide_eq_true e⟩
  | _ => cases e
theorem path_true {m : Mc} {H : Hp} {x : V} (h : PathR m H x true) : ∃ (q : Addr) (cs : List Int), x = .ref q ∧ H q = some (.tup (cs.map V.int)) ∧ cs.length ≤ m.dp ∧ ∀ c ∈ cs, 0 ≤ c ∧ c < m.parts := by
  generalize hr : true = r at h
  cases h with
  | no h => cases hr
  | @tup q ys h k l =>
    have h1 := (Bool.and_eq_true_iff.mp hr.symm).1
    have h2 := (Bool.and_eq_true_iff.mp hr.symm).2
    have h3 := List.all_eq_true.mp h2
    have : ∃ cs : List Int, ys = cs.map V.int ∧ ∀ c ∈ cs, 0 ≤ c ∧ c < m.parts := by
      clear h k l h1 h2 hr
      induction ys with
      | nil => exact ⟨[], rfl, fun _ z => by cases z⟩
      | cons y r ih =>
        obtain ⟨cs, e, hc⟩ := ih fun x hx => h3 x (List.mem_cons_of_mem _ hx)
        obtain ⟨z, rfl, z0, z1⟩ := within_int (h3 y (by simp))
        refine ⟨z :: cs, by rw [e]; rfl, fun c hc2 => ?_⟩
        rcases List.mem_cons.mp hc2 with rfl | hc2
        · exact ⟨z0, by omega⟩
        · exact hc c hc2
    obtain ⟨cs, rfl, hc⟩ := this
    exact ⟨q, cs, rfl, h, by rw [List.length_map] at h1; exact of_decide_eq_true h1, hc⟩
theorem part_true {m : Mc} {H : Hp} {x : V} (h : PartR m H x true) : ∃ s, Ts H s x ∧ s.ok m := by
  generalize hr : true = r at h
  cases h with
  | no h => cases hr
  | len h k => cases hr
  | @four p a b c d r h ta tc td hp =>
    obtain ⟨e1, e2⟩ := Bool.and_eq_true_iff.mp hr.symm
    obtain ⟨e2, e3⟩ := Bool.and_eq_true_iff.mp e2
    obtain ⟨e3, e4⟩ := Bool.and_eq_true_iff.mp e3
    subst e2
    obtain ⟨q, cs, rfl, hq, h1, h2⟩ := path_true hp
    obtain ⟨za, rfl, a0, a1⟩ := within_int e1
    obtain ⟨zc, rfl, c0, c1⟩ := within_int e3
    obtain ⟨zd, rfl, d0, d1⟩ := within_int e4
    exact ⟨⟨za, cs, zc, zd⟩, ⟨p, q, rfl, h, hq⟩, ⟨a0, by show za < _; omega⟩, h1, h2, ⟨c0, c1⟩, d0, d1⟩
theorem ts_part {m : Mc} {H : Hp} {s : Sx} {x : V} (h : Ts H s x) (o : s.ok m) (hl : m.dp ≤ 1000) : PartR m H x true := by
  obtain ⟨p, q, rfl, h1, h2⟩ := h
  obtain ⟨⟨a0, a1⟩, l, hc, ⟨c0, c1⟩, d0, d1⟩ := o
  have hp : PathR m H (.ref q) (decide ((s.path.map V.int).length ≤ m.dp) && (s.path.map V.int).all fun y => within y 0 (m.parts - 1)) := .tup h2 (fun y hy => by
    obtain ⟨z, _, rfl⟩ := List.mem_map.mp hy
    exact ⟨_, rfl⟩) (by rw [List.length_map]; omega)
  have e : (decide ((s.path.map V.int).length ≤ m.dp) && (s.path.map V.int).all fun y => within y 0 (m.parts - 1)) = true := by
    rw [Bool.and_eq_true]
    refine ⟨decide_eq_true (by rw [List.length_map]; exact l), List.all_eq_true.mpr fun y hy => ?_⟩
    obtain ⟨z, hz, rfl⟩ := List.mem_map.mp hy
    obtain ⟨z0, z1⟩ := hc z hz
    exact decide_eq_true ⟨z0, by omega⟩
  rw [e] at hp
  have r := PartR.four (m := m) h1 ⟨_, rfl⟩ ⟨_, rfl⟩ ⟨_, rfl⟩ hp
  have e2 : (within (.int s.seed) 0 (m.seeds - 1) && (true && (within (.int s.place) 0 m.len && within (.int s.many) 0 (m.len - iOf (.int s.place))))) = true := by
    rw [show within (.int s.seed) 0 (m.seeds - 1) = true from decide_eq_true ⟨a0, by omega⟩, show within (.int s.place) 0 m.len = true from decide_eq_true ⟨c0, c1⟩, show within (.int s.many) 0 (m.len - iOf (.int s.place)) = true from decide_eq_true ⟨d0, d1⟩]
    rfl
  rw [e2] at r
  exact r
/-! ### meetings -/
def fu : List Int → List Int → Nat
  | a :: r, b :: s => if a = b then fu r s + 1 else 0
  | _, _ => 0
def mfirst (s t : Sx) : Int := max s.place t.place
def mbehind (s t : Sx) : Int := min (s.place + s.many) (t.place + t.many)
def mw (s t : Sx) : Str := if s.seed ≠ t.seed then "seed" else if s.path ≠ t.path then "path" else if mbehind s t ≤ mfirst s t then "ends" else "meets"
def mn (s t : Sx) : List Int := if s.seed ≠ t.seed then [] else if s.path ≠ t.path then [((fu s.path t.path : Nat) : Int)] else if mbehind s t ≤ mfirst s t then [] else [mfirst s t, mbehind s t - mfirst s t]
def mrow (s t : Sx) : List V := .str (mw s t) :: (mn s t).map V.int
def eqs : List V → List Int → Bool
  | x :: r, n :: s => decide (x = .int n) && eqs r s
  | _, _ => true
/-- is the thing the tuple of a text and numbers -/
inductive SameR (K : Fg) (H : Hp) : V → Str → List Int → Bool → Prop
  | no {x : V} {w : Str} {ns : List Int} {b : Bool} : isB H x "tuple" = some false → isB H x "list" = some b → SameR K H x w ns false
  | len {p : Addr} {xs : List V} {w : Str} {ns : List Int} : H p = some (.tup xs) → xs.length ≠ ns.length + 1 → xs.length ≤ 100 → SameR K H (.ref p) w ns false
  | ok {p : Addr} {x : V} {xs : List V} {d : PyData} {w : Str} {ns : List Int} : H p = some (.tup (x :: xs)) → xs.length = ns.length → TyA H x → Cd K H x d → (∀ y ∈ xs, CD K H y) → SameR K H (.ref p) w ns (PyData.eqv d (.str w) && eqs xs ns)
/-- a forged thing -/
def Forg (K : Fg) (H : Hp) (x : V) : Prop := (isB H x "tuple" = some false ∧ ∃ b, isB H x "list" = some b) ∨ ∃ p xs, x = .ref p ∧ H p = some (.tup xs) ∧ xs.length ≤ 100 ∧ ∀ y ∈ xs, CD K H y
theorem forg_same {K : Fg} {H : Hp} {x : V} (h : Forg K H x) (w : Str) (ns : List Int) : ∃ r, SameR K H x w ns r := by
  rcases h with ⟨h, b, h2⟩ | ⟨p, xs, rfl, h, l, hc⟩
  · exact ⟨_, .no h h2⟩
  · by_cases e : xs.length = ns.length + 1
    · cases xs with
      | nil => cases e
      | cons x r =>
        obtain ⟨t, d, hd⟩ := hc x (by simp)
        exact ⟨_, .ok h (by simpa using e) t hd fun y hy => hc y (List.mem_cons_of_mem _ hy)⟩
    · exact ⟨_, .len h e l⟩
theorem sqt_same {K : Fg} {H H' : Hp} {a : Addr} {xs : List V} (s : Same H H') (h : SqT K H a xs) : SqT K H' a xs := h.imp (fun r => r.imp (s _ _) fun ⟨o, e⟩ => ⟨o, s _ _ e⟩) id
mutual
theorem dp_sameA {K : Fg} {H H' : Hp} (s : Same H H') : ∀ (d : PyData) (x : V), Dp K H x d → Dp K H' x d
  | .none, _, h => by cases h; exact .non
  | .bool b, _, h => by cases h; exact .bl b
  | .int i, _, h => by cases h; exact .int i
  | .str z, _, h => by cases h; exact .str z
  | .list ds, _, h => by cases h with | lst a b => exact .lst (sql_same s a) (dpa_same s ds _ b)
  | .tuple ds, _, h => by cases h with | tup a b => exact .tup (sqt_same s a) (dpa_same s ds _ b)
  | .dict _, _, h => by cases h
theorem dpa_same {K : Fg} {H H' : Hp} (s : Same H H') : ∀ (ds : List PyData) (xs : List V), DpAll K H xs ds → DpAll K H' xs ds
  | [], _, h => by cases h; exact .nil
  | d :: ds, _, h => by cases h with | cons a b => exact .cons (dp_sameA s d _ a) (dpa_same s ds _ b)
end
theorem dp_same {K : Fg} {H H' : Hp} (s : Same H H') {d : PyData} {x : V} (h : Dp K H x d) : Dp K H' x d := dp_sameA s d x h
theorem Cd.same {K : Fg} {H H' : Hp} (s : Same H H') {x : V} {d : PyData} (h : Cd K H x d) : Cd K H' x d := ⟨dp_same s h.1, h.2⟩
theorem CD.same {K : Fg} {H H' : Hp} (s : Same H H') {x : V} (h : CD K H x) : CD K H' x := ⟨h.1.same s, h.2.imp fun _ k => k.same s⟩
theorem Forg.same {K : Fg} {H H' : Hp} (s : Same H H') {x : V} (h : Forg K H x) : Forg K H' x := by
  rcases h with ⟨h, b, h2⟩ | ⟨p, xs, e, h, l, hc⟩
  · exact .inl ⟨isB_same s h, b, isB_same s h2⟩
  · exact .inr ⟨p, xs, e, s _ _ h, l, fun y hy => (hc y hy).same s⟩
theorem SameR.same {K : Fg} {H H' : Hp} (s : Same H H') {x : V} {w : Str} {ns : List Int} {r : Bool} (h : SameR K H x w ns r) : SameR K H' x w ns r := by
  cases h with
  | no h k => exact .no (isB_same s h) (isB_same s k)
  | len h e l => exact .len (s _ _ h) e l
  | ok h e t d c => exact .ok (s _ _ h) e (t.same s) (d.same s) fun y hy => (c y hy).same s
/-- a thing that equals itself when shown, and so with an item more if it is a list -/
def Very (K : Fg) (H : Hp) (x : V) : Prop := (isB H x "list" = some false ∧ ∃ d n, Dq K H x d 30 n ∧ n ≤ 2 ^ 20) ∨ ∃ p xs, x = .ref p ∧ H p = some (.lst xs) ∧ xs.length ≤ 100 ∧ ∀ y ∈ xs, ∃ d, Dq K (wo p H) y d 29 (2 ^ 14)
theorem Very.same {K : Fg} {H H' : Hp} (s : Same H H') {x : V} (h : Very K H x) : Very K H' x := by
  rcases h with ⟨h, d, n, hd, hn⟩ | ⟨p, xs, e, h, l, hc⟩
  · exact .inl ⟨isB_same s h, d, n, hd.same s, hn⟩
  · exact .inr ⟨p, xs, e, s _ _ h, l, fun y hy => (hc y hy).imp fun _ k => k.same (wo_mono s)⟩
end Law

/-! The plain law: each step is one to one on the numbers of the width, and a state's parts can be told apart. -/
namespace Law
open PySem PySem.Spec PyProof.Rows L2 Sw
def st1 (k : Sk) (b W x : Nat) : Nat := match k with
  | .plus => (x + b) % 2 ^ W
  | .times => x * b % 2 ^ W
  | .cross => x ^^^ (b % 2 ^ W)
  | .fold => x ^^^ (x / 2 ^ b)
  | .rise => (x ^^^ (x * 2 ^ b)) % 2 ^ W
  | .turn => (x * 2 ^ (b % W)) % 2 ^ W + x / 2 ^ (W - b % W)
def bOk (k : Sk) (b : Nat) : Prop := match k with
  | .plus => True
  | .cross => True
  | .times => b % 2 = 1
  | _ => 1 ≤ b
theorem turn_parts {W f x : Nat} (hf : f ≤ W) (hx : x < 2 ^ W) : x / 2 ^ (W - f) < 2 ^ f ∧ (x * 2 ^ f) % 2 ^ W = (x % 2 ^ (W - f)) * 2 ^ f := by
  have e : 2 ^ W = 2 ^ (W - f) * 2 ^ f := by rw [← Nat.pow_add, Nat.sub_add_cancel hf]
  refine ⟨Nat.div_lt_of_lt_mul (by rw [← e]; exact hx), ?_⟩
  rw [e, Nat.mul_mod_mul_right]
theorem st1_lt {k : Sk} {b W x : Nat} (hW : 1 ≤ W) (hx : x < 2 ^ W) : st1 k b W x < 2 ^ W := by
  have p : 0 < 2 ^ W := Nat.two_pow_pos W
  cases k with
  | plus => exact Nat.mod_lt _ p
  | times => exact Nat.mod_lt _ p
  | cross => exact Nat.xor_lt_two_pow hx (Nat.mod_lt _ p)
  | fold => exact Nat.xor_lt_two_pow hx (Nat.lt_of_le_of_lt (Nat.div_le_self _ _) hx)
  | rise => exact Nat.mod_lt _ p
  | turn =>
    have hf : b % W ≤ W := Nat.le_of_lt (Nat.mod_lt _ hW)
    obtain ⟨h1, h2⟩ := turn_parts hf hx
    show (x * 2 ^ (b % W)) % 2 ^ W + x / 2 ^ (W - b % W) < 2 ^ W
    rw [h2]
    have e : 2 ^ W = 2 ^ (W - b % W) * 2 ^ (b % W) := by rw [← Nat.pow_add, Nat.sub_add_cancel hf]
    have l : x % 2 ^ (W - b % W) + 1 ≤ 2 ^ (W - b % W) := Nat.mod_lt _ (Nat.two_pow_pos _)
    have m := Nat.mul_le_mul_right (2 ^ (b % W)) l
    rw [e]
    rw [Nat.add_mul, Nat.one_mul] at m
    omega
theorem mod_two {u M : Nat} (h : u < 2 * M) : u % M = if u < M then u else u - M := by
  split
  · exact Nat.mod_eq_of_lt ‹_›
  · rw [Nat.mod_eq_sub_mod (by omega), Nat.mod_eq_of_lt (by omega)]
theorem plus_inj {M b x y : Nat} (hx : x < M) (hy : y < M) (e : (x + b) % M = (y + b) % M) : x = y := by
  have p : 0 < M := by omega
  rw [Nat.add_mod x, Nat.add_mod y, Nat.mod_eq_of_lt hx, Nat.mod_eq_of_lt hy] at e
  have hb : b % M < M := Nat.mod_lt _ p
  generalize b % M = c at e hb
  rw [mod_two (by omega), mod_two (by omega)] at e
  split at e <;> split at e <;> omega
theorem times_le {W b x y : Nat} (hb : b % 2 = 1) (hx : x < 2 ^ W) (l : y ≤ x) (e : x * b % 2 ^ W = y * b % 2 ^ W) : x = y := by
  have d : 2 ^ W ∣ x * b - y * b := Nat.dvd_of_mod_eq_zero (Nat.sub_mod_eq_zero_of_mod_eq e)
  rw [← Nat.sub_mul] at d
  have c2 : Nat.Coprime 2 b := by
    show Nat.gcd 2 b = 1
    rw [Nat.gcd_rec, hb]
    rfl
  have c : Nat.Coprime (2 ^ W) b := Nat.Coprime.pow_left W c2
  have d2 := c.dvd_of_dvd_mul_right d
  have z := Nat.eq_zero_of_dvd_of_lt d2 (by omega)
  omega
theorem fold_inj {W k x y : Nat} (hk : 1 ≤ k) (hx : x < 2 ^ W) (hy : y < 2 ^ W) (e : x ^^^ (x / 2 ^ k) = y ^^^ (y / 2 ^ k)) : x = y := by
  have hb : ∀ n i, W ≤ i + n → x.testBit i = y.testBit i := by
    intro n
    induction n with
    | zero =>
      intro i hi
      rw [Nat.testBit_lt_two_pow (Nat.lt_of_lt_of_le hx (Nat.pow_le_pow_right (by decide) (by omega))), Nat.testBit_lt_two_pow (Nat.lt_of_lt_of_le hy (Nat.pow_le_pow_right (by decide) (by omega)))]
    | succ n ih =>
      intro i hi
      have h := congrArg (fun z => z.testBit i) e
      simp only [Nat.testBit_xor, Nat.testBit_div_two_pow] at h
      rw [ih (i + k) (by omega)] at h
      cases hx' : x.testBit i <;> cases hy' : y.testBit i <;> rw [hx', hy'] at h <;> cases hz : y.testBit (i + k) <;> rw [hz] at h <;> simp_all
  exact Nat.eq_of_testBit_eq fun i => hb W i (by omega)
theorem rise_inj {W k x y : Nat} (hk : 1 ≤ k) (hx : x < 2 ^ W) (hy : y < 2 ^ W) (e : (x ^^^ (x * 2 ^ k)) % 2 ^ W = (y ^^^ (y * 2 ^ k)) % 2 ^ W) : x = y := by
  have hb : ∀ n i, i < n → x.testBit i = y.testBit i := by
    intro n
    induction n with
    | zero => intro i hi; omega
    | succ n ih =>
      intro i hi
      by_cases c : i < W
      · have h := congrArg (fun z => z.testBit i) e
        simp only [Nat.testBit_mod_two_pow, c, decide_true, Bool.true_and, Nat.testBit_xor, Nat.testBit_mul_two_pow] at h
        by_cases d : k ≤ i
        · rw [ih (i - k) (by omega)] at h
          simp only [d, decide_true, Bool.true_and] at h
          cases hx' : x.testBit i <;> cases hy' : y.testBit i <;> rw [hx', hy'] at h <;> cases hz : y.testBit (i - k) <;> rw [hz] at h <;> simp_all
        · simp only [d, decide_false, Bool.false_and, Bool.xor_false] at h
          exact h
      · rw [Nat.testBit_lt_two_pow (Nat.lt_of_lt_of_le hx (Nat.pow_le_pow_right (by decide) (by omega))), Nat.testBit_lt_two_pow (Nat.lt_of_lt_of_le hy (Nat.pow_le_pow_right (by decide) (by omega)))]
  exact Nat.eq_of_testBit_eq fun i => hb (i + 1) i (by omega)
theorem turn_inj {W f x y : Nat} (hf : f ≤ W) (hx : x < 2 ^ W) (hy : y < 2 ^ W) (e : (x * 2 ^ f) % 2 ^ W + x / 2 ^ (W - f) = (y * 2 ^ f) % 2 ^ W + y / 2 ^ (W - f)) : x = y := by
  obtain ⟨a1, a2⟩ := turn_parts hf hx
  obtain ⟨b1, b2⟩ := turn_parts hf hy
  rw [a2, b2] at e
  have p : 0 < 2 ^ f := Nat.two_pow_pos f
  have h1 := congrArg (· / 2 ^ f) e
  have h2 := congrArg (· % 2 ^ f) e
  simp only [Nat.mul_add_mod_self_right, Nat.mod_eq_of_lt a1, Nat.mod_eq_of_lt b1] at h2
  have q1 : ((x % 2 ^ (W - f)) * 2 ^ f + x / 2 ^ (W - f)) / 2 ^ f = x % 2 ^ (W - f) := by
    rw [Nat.mul_comm, Nat.mul_add_div p, Nat.div_eq_of_lt a1, Nat.add_zero]
  have q2 : ((y % 2 ^ (W - f)) * 2 ^ f + y / 2 ^ (W - f)) / 2 ^ f = y % 2 ^ (W - f) := by
    rw [Nat.mul_comm, Nat.mul_add_div p, Nat.div_eq_of_lt b1, Nat.add_zero]
  simp only [q1, q2] at h1
  rw [← Nat.div_add_mod x (2 ^ (W - f)), ← Nat.div_add_mod y (2 ^ (W - f)), h1, h2]
theorem st1_inj {k : Sk} {b W x y : Nat} (hW : 1 ≤ W) (hb : bOk k b) (hx : x < 2 ^ W) (hy : y < 2 ^ W) (e : st1 k b W x = st1 k b W y) : x = y := by
  cases k with
  | plus => exact plus_inj hx hy e
  | times =>
    rcases Nat.le_total y x with l | l
    · exact times_le hb hx l e
    · exact (times_le hb hy l e.symm).symm
  | cross =>
    have h := congrArg (· ^^^ (b % 2 ^ W)) (show x ^^^ (b % 2 ^ W) = y ^^^ (b % 2 ^ W) from e)
    simpa only [Nat.xor_assoc, Nat.xor_self, Nat.xor_zero] using h
  | fold => exact fold_inj hb hx hy e
  | rise => exact rise_inj hb hx hy e
  | turn => exact turn_inj (Nat.le_of_lt (Nat.mod_lt _ hW)) hx hy e
def onw (W : Nat) : List (Sk × Int) → Nat → Nat
  | [], x => x
  | s :: r, x => onw W r (st1 s.1 s.2.toNat W x)
theorem onw_lt {W : Nat} (hW : 1 ≤ W) : ∀ {ss : List (Sk × Int)} {x : Nat}, x < 2 ^ W → onw W ss x < 2 ^ W
  | [], _, h => h
  | s :: r, _, h => onw_lt (ss := r) hW (st1_lt (k := s.1) (b := s.2.toNat) hW h)
theorem bok_of {k : Sk} {z : Int} (h : stOk k z) : bOk k z.toNat := by
  cases k <;> simp only [stOk, bOk] at h ⊢ <;> omega
theorem onw_inj {W : Nat} (hW : 1 ≤ W) : ∀ {ss : List (Sk × Int)} {x y : Nat}, (∀ s ∈ ss, stOk s.1 s.2) → x < 2 ^ W → y < 2 ^ W → onw W ss x = onw W ss y → x = y
  | [], _, _, _, _, _, e => e
  | s :: r, _, _, h, hx, hy, e => st1_inj hW (bok_of (h s (by simp))) hx hy (onw_inj hW (fun t ht => h t (List.mem_cons_of_mem _ ht)) (st1_lt hW hx) (st1_lt hW hy) e)
/-! packing -/
def pk (B : Nat) : Nat → List Nat → Nat
  | s, [] => s
  | s, d :: r => pk B (s * B + d) r
theorem pk_lt {B : Nat} : ∀ {ds : List Nat} {s S : Nat}, s < S → (∀ d ∈ ds, d < B) → pk B s ds < S * B ^ ds.length
  | [], s, S, h, _ => by simpa [pk] using h
  | d :: r, s, S, h, k => by
    have hd := k d (by simp)
    have l : s * B + d < S * B := by
      have := Nat.mul_le_mul_right B h
      rw [Nat.succ_mul] at this
      omega
    have i := pk_lt (ds := r) (s := s * B + d) (S := S * B) l fun x hx => k x (List.mem_cons_of_mem _ hx)
    rw [List.length_cons, Nat.pow_succ, Nat.mul_comm (B ^ r.length) B, ← Nat.mul_assoc]
    exact i
theorem md_inj {B s d s' d' : Nat} (h : d < B) (h' : d' < B) (e : s * B + d = s' * B + d') : s = s' ∧ d = d' := by
  have h1 := congrArg (· / B) e
  have h2 := congrArg (· % B) e
  have p : 0 < B := by omega
  simp only [Nat.mul_add_mod_self_right, Nat.mod_eq_of_lt h, Nat.mod_eq_of_lt h'] at h2
  have q : ∀ a b, b < B → (a * B + b) / B = a := fun a b hb => by rw [Nat.mul_comm, Nat.mul_add_div p, Nat.div_eq_of_lt hb, Nat.add_zero]
  simp only [q _ _ h, q _ _ h'] at h1
  exact ⟨h1, h2⟩
theorem pk_inj {B : Nat} : ∀ {ds es : List Nat} {s t : Nat}, ds.length = es.length → (∀ d ∈ ds, d < B) → (∀ d ∈ es, d < B) → pk B s ds = pk B t es → s = t ∧ ds = es
  | [], [], _, _, _, _, _, e => ⟨e, rfl⟩
  | d :: r, c :: q, s, t, hl, h1, h2, e => by
    obtain ⟨i1, i2⟩ := pk_inj (ds := r) (es := q) (Nat.succ.inj hl) (fun x hx => h1 x (List.mem_cons_of_mem _ hx)) (fun x hx => h2 x (List.mem_cons_of_mem _ hx)) e
    obtain ⟨j1, j2⟩ := md_inj (h1 d (by simp)) (h2 c (by simp)) i1
    exact ⟨j1, by rw [j2, i2]⟩
  | [], _ :: _, _, _, hl, _, _, _ => by cases hl
  | _ :: _, [], _, _, hl, _, _, _ => by cases hl
def dN (N : Nat) (p : List Int) : List Nat := p.map (fun c => c.toNat + 1) ++ List.replicate (N - p.length) 0
def stt (m : Mc) (ss : List (Sk × Int)) (seed : Int) (p : List Int) (a : Int) : Nat := onw m.wd ss (pk (2 ^ m.pb) seed.toNat (dN m.dp p) * 2 ^ m.lb + a.toNat)
theorem dN_len {N : Nat} {p : List Int} (h : p.length ≤ N) : (dN N p).length = N := by
  rw [dN, List.length_append, List.length_map, List.length_replicate]
  omega
theorem dN_lt {m : Mc} {N : Nat} {p : List Int} (hb : 1 ≤ m.pb) (h : ∀ c ∈ p, 0 ≤ c ∧ c < m.parts) : ∀ d ∈ dN N p, d < 2 ^ m.pb := by
  intro d hd
  have pp : (2 : Int) ^ m.pb = ((2 ^ m.pb : Nat) : Int) := by simp
  rcases List.mem_append.mp hd with hd | hd
  · obtain ⟨c, hc, rfl⟩ := List.mem_map.mp hd
    have h1 := h c hc
    unfold Mc.parts at h1
    omega
  · rw [List.eq_of_mem_replicate hd]
    exact Nat.two_pow_pos _
theorem dN_inj : ∀ {N : Nat} {p q : List Int}, p.length ≤ N → q.length ≤ N → (∀ c ∈ p, 0 ≤ c) → (∀ c ∈ q, 0 ≤ c) → dN N p = dN N q → p = q
  | _, [], [], _, _, _, _, _ => rfl
  | 0, _ :: _, _, h, _, _, _, _ => by cases h
  | 0, [], _ :: _, _, h, _, _, _ => by cases h
  | N + 1, [], c :: r, _, _, _, _, e => by
    have e2 : dN (N + 1) (c :: r) = (c.toNat + 1) :: (r.map (fun c => c.toNat + 1) ++ List.replicate (N + 1 - (r.length + 1)) 0) := rfl
    rw [e2, show dN (N + 1) [] = 0 :: List.replicate N 0 from rfl] at e
    cases (List.cons.inj e).1
  | N + 1, c :: r, [], _, _, _, _, e => by
    have e2 : dN (N + 1) (c :: r) = (c.toNat + 1) :: (r.map (fun c => c.toNat + 1) ++ List.replicate (N + 1 - (r.length + 1)) 0) := rfl
    rw [e2, show dN (N + 1) [] = 0 :: List.replicate N 0 from rfl] at e
    cases (List.cons.inj e).1
  | N + 1, a :: r, c :: q, h1, h2, k1, k2, e => by
    have e1 : dN (N + 1) (a :: r) = (a.toNat + 1) :: dN N r := by
      rw [dN, dN, List.map_cons, List.length_cons, Nat.add_sub_add_right]
      rfl
    have e2 : dN (N + 1) (c :: q) = (c.toNat + 1) :: dN N q := by
      rw [dN, dN, List.map_cons, List.length_cons, Nat.add_sub_add_right]
      rfl
    rw [e1, e2] at e
    obtain ⟨i1, i2⟩ := List.cons.inj e
    have ka := k1 a (by simp)
    have kc := k2 c (by simp)
    rw [dN_inj (Nat.le_of_succ_le_succ h1) (Nat.le_of_succ_le_succ h2) (fun x hx => k1 x (List.mem_cons_of_mem _ hx)) (fun x hx => k2 x (List.mem_cons_of_mem _ hx)) i2, show a = c from by omega]
/-- a place of a machine -/
def In (m : Mc) (seed : Int) (p : List Int) (a : Int) : Prop := (0 ≤ seed ∧ seed < m.seeds) ∧ p.length ≤ m.dp ∧ (∀ c ∈ p, 0 ≤ c ∧ c < m.parts) ∧ 0 ≤ a ∧ a < m.len
theorem pack_lt {m : Mc} (mo : m.ok) {seed : Int} {p : List Int} {a : Int} (h : In m seed p a) : pk (2 ^ m.pb) seed.toNat (dN m.dp p) < 2 ^ (m.sb + m.pb * m.dp) ∧ pk (2 ^ m.pb) seed.toNat (dN m.dp p) * 2 ^ m.lb + a.toNat < 2 ^ m.wd := by
  obtain ⟨⟨s0, s1⟩, l, hc, a0, a1⟩ := h
  have es : (2 : Int) ^ m.sb = ((2 ^ m.sb : Nat) : Int) := by simp
  have el : (2 : Int) ^ m.lb = ((2 ^ m.lb : Nat) : Int) := by simp
  unfold Mc.seeds at s1
  unfold Mc.len at a1
  have h1 := pk_lt (B := 2 ^ m.pb) (ds := dN m.dp p) (s := seed.toNat) (S := 2 ^ m.sb) (by omega) (dN_lt mo.2.1 hc)
  rw [dN_len l, ← Nat.pow_mul, ← Nat.pow_add] at h1
  refine ⟨h1, ?_⟩
  have h2 := Nat.mul_le_mul_right (2 ^ m.lb) h1
  rw [Nat.succ_mul, ← Nat.pow_add] at h2
  unfold Mc.wd
  omega
theorem stt_inj {m : Mc} (mo : m.ok) {ss : List (Sk × Int)} (so : ∀ s ∈ ss, stOk s.1 s.2) {s t : Int} {p q : List Int} {a b : Int} (h1 : In m s p a) (h2 : In m t q b) (e : stt m ss s p a = stt m ss t q b) : s = t ∧ p = q ∧ a = b := by
  have w1 : 1 ≤ m.wd := by
    have := mo.2.2.2.2.2.2.1
    omega
  have e1 := onw_inj w1 so (pack_lt mo h1).2 (pack_lt mo h2).2 e
  obtain ⟨⟨s0, s1⟩, l, hc, a0, a1⟩ := h1
  obtain ⟨⟨t0, t1⟩, l', hc', b0, b1⟩ := h2
  have el : (2 : Int) ^ m.lb = ((2 ^ m.lb : Nat) : Int) := by simp
  unfold Mc.len at a1 b1
  obtain ⟨e2, e3⟩ := md_inj (by omega) (by omega) e1
  obtain ⟨e4, e5⟩ := pk_inj (by rw [dN_len l, dN_len l']) (dN_lt mo.2.1 hc) (dN_lt mo.2.1 hc') e2
  exact ⟨by omega, dN_inj l l' (fun c h => (hc c h).1) (fun c h => (hc' c h).1) e5, by omega⟩
def nums (m : Mc) (ss : List (Sk × Int)) (s : Sx) : List Nat := (List.range s.many.toNat).map fun (i : Nat) => stt m ss s.seed s.path (s.place + (i : Nat))
end Law

namespace Law
open PySem PySem.Spec PyProof.Rows L2 Sw
/-! ### the promises -/
def RefE (K : Fg) (H : Hp) (c f : Str) (x : V) (E : XK) : Prop := ∀ H' d, Same H H' → H' d = none → E (.ref (He.ga K c)) (some d) (upd H' d (.xd [(f, x)]))
theorem RefE.same {K : Fg} {H H' : Hp} {c f : Str} {x : V} {E : XK} (s : Same H H') (h : RefE K H c f x E) : RefE K H' c f x E := fun H2 d t n => h H2 d (Same.trans s t) n
def sp_is_whole (_ : Fg) : Sp := sp1 fun x H Q _ => TyA H x ∧ Q (.bl (whole x)) H
def sp_is_within (_ : Fg) : Sp := sp3 fun x lo hi H Q _ => ∃ l h, lo = .int l ∧ hi = .int h ∧ TyA H x ∧ Q (.bl (within x l h)) H
def Bare (K : Fg) (C : Str) (H : Hp) (x : V) (a : Addr) : Prop := x = .ref a ∧ ∃ dx, H a = some (.ins (He.ga K C) dx [])
/-! steps -/
def sp_need_much (_ : Fg) : Sp := sp1 fun x H Q _ => ∃ z : Int, x = .int z ∧ 0 ≤ z ∧ z ≤ 2 ^ 64 - 1 ∧ Q x H
def sp_need_odd (_ : Fg) : Sp := sp1 fun x H Q _ => ∃ z : Int, x = .int z ∧ 0 ≤ z ∧ z ≤ 2 ^ 64 - 1 ∧ z % 2 = 1 ∧ Q x H
def sp_need_far (_ : Fg) : Sp := sp1 fun x H Q _ => ∃ z : Int, x = .int z ∧ 1 ≤ z ∧ z ≤ 63 ∧ Q x H
def spSin (C : Str) (K : Fg) : Sp := sp2 fun x z H Q _ => ∃ (a dx : Addr), x = .ref a ∧ H a = some (.ins (He.ga K C) dx []) ∧ Q .non (upd H a (.ins (He.ga K C) dx [("much", z)]))
def spSt (k : Sk) (K : Fg) : Sp := sp2 fun x y H Q _ => ∃ (a : Addr) (z : Int), Bare K k.cl H x a ∧ y = .int z ∧ stOk k z ∧ ∀ dx, Q .non (upd H a (.ins (He.ga K k.cl) dx [("much", .int z)]))
def spLv (k : Sk) (K : Fg) : Sp := sp1 fun x H Q _ => ∃ z, ObS K H (k, z) x ∧ Q (.int 1) H
def sp_sinit_Plus (K : Fg) : Sp := spSin "Plus" K
def sp_sinit_Times (K : Fg) : Sp := spSin "Times" K
def sp_sinit_Cross (K : Fg) : Sp := spSin "Cross" K
def sp_sinit_Fold (K : Fg) : Sp := spSin "Fold" K
def sp_sinit_Rise (K : Fg) : Sp := spSin "Rise" K
def sp_sinit_Turn (K : Fg) : Sp := spSin "Turn" K
def sp_sinit_Chain (K : Fg) : Sp := spSin "Chain" K
def sp_Plus_init (K : Fg) : Sp := spSt .plus K
def sp_Times_init (K : Fg) : Sp := spSt .times K
def sp_Cross_init (K : Fg) : Sp := spSt .cross K
def sp_Fold_init (K : Fg) : Sp := spSt .fold K
def sp_Rise_init (K : Fg) : Sp := spSt .rise K
def sp_Turn_init (K : Fg) : Sp := spSt .turn K
def sp_Plus_levels (K : Fg) : Sp := spLv .plus K
def sp_Times_levels (K : Fg) : Sp := spLv .times K
def sp_Cross_levels (K : Fg) : Sp := spLv .cross K
def sp_Fold_levels (K : Fg) : Sp := spLv .fold K
def sp_Rise_levels (K : Fg) : Sp := spLv .rise K
def sp_Turn_levels (K : Fg) : Sp := spLv .turn K
def sp_need_step (K : Fg) : Sp := sp1 fun x H Q _ => ∃ s, ObS K H s x ∧ Q x H
/-- a chain's init: of a bare object, of a list of steps -/
def sp_Chain_init (K : Fg) : Sp := sp2 fun x y H Q _ => ∃ (a q : Addr) (ss : List (Sk × Int)) (xs : List V), Bare K "Chain" H x a ∧ y = .ref q ∧ q ≠ a ∧ H q = some (.lst xs) ∧ All2 (ObS K (away a H)) ss xs ∧ xs.length ≤ 12 ∧
  ∀ H' dx q', (∀ b o, b ≠ a → H b = some o → H' b = some o) → q' ≠ a → H q' = none → H' a = some (.ins (He.ga K "Chain") dx [("much", .int 0), ("inners", .ref q')]) → H' q' = some (.lst xs) → Q .non H'
/-! machines -/
def sp_Machine_init (K : Fg) : Sp := sp6 fun x a b c d y H Q _ => ∃ (ad : Addr) (m : Mc) (q : Addr) (ss : List (Sk × Int)) (xs : List V), Bare K "Machine" H x ad ∧ m.ok ∧ a = .int (m.sb : Nat) ∧ b = .int (m.pb : Nat) ∧ c = .int (m.dp : Nat) ∧ d = .int (m.lb : Nat) ∧ y = .ref q ∧ q ≠ ad ∧ H q = some (.lst xs) ∧
  All2 (ObS K (away ad H)) ss xs ∧ xs.length ≤ 12 ∧ ∀ H', (∀ b o, b ≠ ad → H b = some o → H' b = some o) → ObM K H' m (.ref ad) → Q .non H'
def sp_Machine_seeds (K : Fg) : Sp := sp1 fun x H Q _ => ∃ m : Mc, ObM K H m x ∧ m.ok ∧ Q (.int m.seeds) H
def sp_Machine_parts (K : Fg) : Sp := sp1 fun x H Q _ => ∃ m : Mc, ObM K H m x ∧ m.ok ∧ Q (.int m.parts) H
def sp_Machine_length (K : Fg) : Sp := sp1 fun x H Q _ => ∃ m : Mc, ObM K H m x ∧ m.ok ∧ Q (.int m.len) H
def sp_Machine_is_path (K : Fg) : Sp := sp2 fun x y H Q _ => ∃ (m : Mc) (r : Bool), ObM K H m x ∧ m.ok ∧ PathR m H y r ∧ ∀ H', Same H H' → Q (.bl r) H'
/-! stretches -/
def sp_is_part (K : Fg) : Sp := sp2 fun x y H Q _ => ∃ (m : Mc) (r : Bool), ObM K H m x ∧ m.ok ∧ PartR m H y r ∧ ∀ H', Same H H' → Q (.bl r) H'
def sp_need_part (K : Fg) : Sp := sp2 fun x y H Q E => ∃ (m : Mc) (r : Bool), ObM K H m x ∧ m.ok ∧ PartR m H y r ∧ (r = true → ∀ H', Same H H' → Q .non H') ∧ (r = false → RefE K H "NoRow" "found" y E)
def sp_first_unlike (_ : Fg) : Sp := sp2 fun x y H Q _ => ∃ (p q : Addr) (xs ys : List Int), x = .ref p ∧ y = .ref q ∧ H p = some (.tup (xs.map V.int)) ∧ H q = some (.tup (ys.map V.int)) ∧ Q (.int (fu xs ys : Nat)) H
/-- two stretches asked for by a door that refuses -/
def Both (K : Fg) (m : Mc) (H : Hp) (x y : V) (E : XK) (good : Sx → Sx → Prop) : Prop := ∃ r1 r2, PartR m H x r1 ∧ PartR m H y r2 ∧ (r1 = false → RefE K H "NoRow" "found" x E) ∧ (r1 = true → r2 = false → RefE K H "NoRow" "found" y E) ∧
  (r1 = true → r2 = true → ∀ s t, Ts H s x → s.ok m → Ts H t y → t.ok m → good s t)
def sp_meeting (K : Fg) : Sp := sp3 fun mac x y H Q E => ∃ m : Mc, ObM K H m mac ∧ m.ok ∧ Both K m H x y E fun s t => ∀ p H', Same H H' → H' p = some (.tup (mrow s t)) → Q (.ref p) H'
/-! the law's own -/
def sp__law_cell_at (K : Fg) : Sp := sp2 fun s k H Q _ => ∃ (a : Addr) (ns : List Int) (i : Nat), s = .ref a ∧ SqL K H a (ns.map V.int) ∧ k = .int (i : Int) ∧ ns.length ≤ 1000 ∧ ∀ z, Q (.int z) H
def sp__law_box (_ : Fg) : Sp := sp1 fun c H Q _ => ∃ z : Int, c = .int z ∧ ∀ p H', Same H H' → H p = none → Well H' p → Q (.ref p) H'
def sp__law_take (_ : Fg) : Sp := sp2 fun b m H Q _ => ∃ (p : Addr) (n : Int), b = .ref p ∧ Well H p ∧ m = .int n ∧ 0 < n ∧ n ≤ 2 ^ 64 ∧ ∀ r H', 0 ≤ r → r < n → Well H' p → (∀ a, a ≠ p → H' a = H a) → Q (.int r) H'
def sp__law_is_whole (_ : Fg) : Sp := sp1 fun x H Q _ => TyA H x ∧ Q (.bl (whole x)) H
def sp__law_step (_ : Fg) : Sp := sp1 fun b H Q _ => ∃ p : Addr, b = .ref p ∧ Well H p ∧ ∀ v s H', Wl p H H' → StT (wo p H') s v → stOk s.1 s.2 → Q v H'
def sp__law_machine (_ : Fg) : Sp := sp1 fun b H Q _ => ∃ p : Addr, b = .ref p ∧ Well H p ∧ ∀ v m ss H', Wl p H H' → m.ok → Tm (wo p H') m ss v → Q v H'
def sp__law_made (K : Fg) : Sp := sp1 fun x H Q _ => ∃ (m : Mc) (ss : List (Sk × Int)), m.ok ∧ Tm H m ss x ∧ ∀ v H', Same H H' → (∃ a, v = .ref a ∧ H a = none) → ObM K H' m v → Q v H'
def sp__law_seed (_ : Fg) : Sp := sp2 fun b x H Q _ => ∃ (p : Addr) (m : Mc) (ss : List (Sk × Int)), b = .ref p ∧ Well H p ∧ m.ok ∧ Tm (wo p H) m ss x ∧ ∀ z H', Wl p H H' → 0 ≤ z → z < m.seeds → Q (.int z) H'
def sp__law_path (_ : Fg) : Sp := sp2 fun b x H Q _ => ∃ (p : Addr) (m : Mc) (ss : List (Sk × Int)), b = .ref p ∧ Well H p ∧ m.ok ∧ Tm (wo p H) m ss x ∧ ∀ (q : Addr) (cs : List Int) H', Wl p H H' → wo p H' q = some (.tup (cs.map V.int)) → cs.length ≤ m.dp → (∀ c ∈ cs, 0 ≤ c ∧ c < m.parts) → Q (.ref q) H'
def sp__law_stretch (_ : Fg) : Sp := sp2 fun b x H Q _ => ∃ (p : Addr) (m : Mc) (ss : List (Sk × Int)), b = .ref p ∧ Well H p ∧ m.ok ∧ Tm (wo p H) m ss x ∧ ∀ v s H', Wl p H H' → Ts (wo p H') s v → s.ok m → s.many ≤ 40 → Q v H'
def sp__law_near (_ : Fg) : Sp := sp3 fun b x y H Q _ => ∃ (p : Addr) (m : Mc) (ss : List (Sk × Int)) (s : Sx), b = .ref p ∧ Well H p ∧ m.ok ∧ Tm (wo p H) m ss x ∧ Ts (wo p H) s y ∧ s.ok m ∧ s.many ≤ 40 ∧ ∀ v t H', Wl p H H' → Ts (wo p H') t v → t.ok m → t.many ≤ 40 → Q v H'
def sp__law_no_stretch (K : Fg) : Sp := sp3 fun b x y H Q _ => ∃ (p : Addr) (m : Mc) (ss : List (Sk × Int)) (s : Sx), b = .ref p ∧ Well H p ∧ m.ok ∧ Tm (wo p H) m ss x ∧ Ts (wo p H) s y ∧ s.ok m ∧ s.many ≤ 40 ∧ ∀ v H', Wl p H H' → PartR m (wo p H') v false → Very K (wo p H') v → Q v H'
def sp__law_meeting (_ : Fg) : Sp := sp3 fun x y z H Q _ => ∃ (m : Mc) (ss : List (Sk × Int)) (s t : Sx), m.ok ∧ Tm H m ss x ∧ Ts H s y ∧ Ts H t z ∧ s.ok m ∧ t.ok m ∧ ∀ p H', Same H H' → H' p = some (.tup (mrow s t)) → Q (.ref p) H'
def spn__law_same (K : Fg) (h : Nat) : Sp := sp2 fun x y H Q _ => (∃ w d, 1 ≤ h ∧ y = .str w ∧ PyData.strOk w = true ∧ TyA H x ∧ Cd K H x d ∧ ∀ H', Same H H' → Q (.bl (PyData.eqv d (.str w))) H') ∨ (∃ n, 1 ≤ h ∧ y = .int n ∧ CD K H x ∧ ∀ H', Same H H' → Q (.bl (decide (x = .int n))) H') ∨
  ∃ q w ns r, 2 ≤ h ∧ y = .ref q ∧ PyData.strOk w = true ∧ H q = some (.tup (.str w :: ns.map V.int)) ∧ ns.length ≤ 10 ∧ SameR K H x w ns r ∧ ∀ H', Same H H' → Q (.bl r) H'
def sp__law_same (K : Fg) : Sp := spn__law_same K 5
def sp__law_very (K : Fg) : Sp := sp2 fun x y H Q _ => x = y ∧ Very K H y ∧ Q (.bl true) H
def sp__law_refused (K : Fg) : Sp := sp4 fun mac x y bad H Q _ => ∃ (m : Mc) (r1 r2 : Bool), ObM K H m mac ∧ m.ok ∧ PartR m H x r1 ∧ PartR m H y r2 ∧ Very K H bad ∧ (r1 = false ∧ bad = x ∨ r1 = true ∧ r2 = false ∧ bad = y) ∧ ∀ H', Same H H' → Q (.bl true) H'
def sp_law (K : Fg) : Sp := sp1 fun s H Q _ => ∃ (a : Addr) (ns : List Int), s = .ref a ∧ SqL K H a (ns.map V.int) ∧ ns.length ≤ 63 ∧ ∀ H', Q (.bl true) H'
def sp__law_onward (_ : Fg) : Sp := sp3 fun x y z H Q _ => ∃ (q : Addr) (ss : List (Sk × Int)) (xs : List V) (n W : Nat), x = .ref q ∧ H q = some (.lst xs) ∧ All2 (StT H) ss xs ∧ ss.length ≤ 12 ∧ (∀ s ∈ ss, stOk s.1 s.2) ∧ y = .int (n : Nat) ∧ n < 2 ^ W ∧ z = .int (W : Nat) ∧ 1 ≤ W ∧ W ≤ 64 ∧ Q (.int (onw W ss n : Nat)) H
def sp__law_state_by (_ : Fg) : Sp := sp4 fun x y z u H Q _ => ∃ (m : Mc) (ss : List (Sk × Int)) (sd a : Nat) (ds : List Nat) (q : Addr), Tm H m ss x ∧ m.ok ∧ y = .int (sd : Nat) ∧ z = .ref q ∧ H q = some (.lst (ds.map fun (d : Nat) => .int (d : Nat))) ∧ ds.length ≤ 6 ∧ u = .int (a : Nat) ∧ pk (2 ^ m.pb) sd ds * 2 ^ m.lb + a < 2 ^ m.wd ∧ Q (.int (onw m.wd ss (pk (2 ^ m.pb) sd ds * 2 ^ m.lb + a) : Nat)) H
def sp__law_state (_ : Fg) : Sp := sp4 fun x y z u H Q _ => ∃ (m : Mc) (ss : List (Sk × Int)) (sd a : Int) (cs : List Int) (q : Addr), Tm H m ss x ∧ m.ok ∧ y = .int sd ∧ z = .ref q ∧ H q = some (.tup (cs.map V.int)) ∧ u = .int a ∧ In m sd cs a ∧ ∀ H', Same H H' → Q (.int (stt m ss sd cs a : Nat)) H'
def sp__law_numbers (_ : Fg) : Sp := sp2 fun x y H Q _ => ∃ (m : Mc) (ss : List (Sk × Int)) (s : Sx), Tm H m ss x ∧ m.ok ∧ Ts H s y ∧ s.ok m ∧ ∀ p H', Same H H' → H p = none → H' p = some (.lst ((nums m ss s).map fun (n : Nat) => V.int (n : Nat))) → Q (.ref p) H'
def sp__law_told_right (K : Fg) : Sp := sp4 fun x mac y z H Q _ => ∃ (m : Mc) (ss : List (Sk × Int)) (s t : Sx), Tm H m ss x ∧ m.ok ∧ ObM K H m mac ∧ Ts H s y ∧ s.ok m ∧ Ts H t z ∧ t.ok m ∧ ∀ H', Same H H' → Q (.bl true) H'
end Law

-- RDX ral, rmd, rsq, rlu, rdp, rrp, rrt, rtp, rzk, rsp5, Bool.true_or, Bool.false_or, Bool.or_false, Bool.or_true
set_option pp.deepTerms true
set_option pp.maxSteps 100000
namespace Law
open PySem PySem.Spec PyProof.Rows L2 Sw
section
variable {P : Program} {w : World} {K : Fg} {mg : Str → Option Value} {base : Heap}
theorem ok_is_whole (T : Tx K mg w)   : Cal P w K mg base 1 "is_whole" ["thing"] (sp_is_whole K) := by
  refine cal_mk T.F_is_whole T.g_is_whole sc_is_whole (len1 _) (fun _ _ _ _ _ _ us hl => match us, hl with | [_], _ => rfl) (fun cdv A outer s H vs Q E hr h => ?_)
  obtain ⟨v0, rfl, h⟩ := h
  have hu := hu_of hr.r
  refine ⟨_, (pss_one (ps_ret (pe_and (pe_callB is_q (by rfl) T.n_isinstance (by decide +kernel) (pa_cons (pv 0) (pa_cons (pe_bltn (v := .ty "int") (by rfl) T.n_int (by decide +kernel) rfl) pa_nil))) (pe_one (pe_not (pe_callB is_q (by rfl) T.n_isinstance (by decide +kernel) (pa_cons (pv 0) (pa_cons (pe_bltn (v := .ty "bool") (by rfl) T.n_bool (by decide +kernel) rfl) pa_nil)))))))), ?_⟩
  obtain ⟨⟨n, hn⟩, q⟩ := h
  have h1 := isB_int hn
  have h2 := isB_bool hn
  simp only [and_assoc, rst, rs, re, ra, rq, rx, ro, rl, rl2, rsp, rz, rix, rln, rg, rd, ri, rv, rk, rdd, rwi, at0, at1, at2, at3, upd_at, List.getElem?_cons_zero, List.getElem?_cons_succ, Option.some.injEq, exists_eq_left', exists_eq_left, List.set_cons_zero, List.set_cons_succ, true_and, and_true, HO.lst.injEq, HO.tup.injEq, exists_and_left, exists_eq, exists_eq', Br.t, Br.f, Be.t, Be.f, List.cons.injEq, List.append_nil, scal, if_true, if_false, ite_true, ite_false, eq_self_iff_true, decide_true, decide_false, Bool.not_true, Bool.not_false, reduceIte, List.nil_append, List.cons_append, reduceCtorEq, false_and, exists_false, false_or, or_false, Int.reduceLT, ral, rmd, rsq, rlu, rdp, rrp, rrt, rtp, rzk, rsp5, Bool.true_or, Bool.false_or, Bool.or_false, Bool.or_true, h1]
  refine Be.of (fun e => ?_) fun e => ?_
  · simp only [and_assoc, rst, rs, re, ra, rq, rx, ro, rl, rl2, rsp, rz, rix, rln, rg, rd, ri, rv, rk, rdd, rwi, at0, at1, at2, at3, upd_at, List.getElem?_cons_zero, List.getElem?_cons_succ, Option.some.injEq, exists_eq_left', exists_eq_left, List.set_cons_zero, List.set_cons_succ, true_and, and_true, HO.lst.injEq, HO.tup.injEq, exists_and_left, exists_eq, exists_eq', Br.t, Br.f, Be.t, Be.f, List.cons.injEq, List.append_nil, scal, if_true, if_false, ite_true, ite_false, eq_self_iff_true, decide_true, decide_false, Bool.not_true, Bool.not_false, reduceIte, List.nil_append, List.cons_append, reduceCtorEq, false_and, exists_false, false_or, or_false, Int.reduceLT, ral, rmd, rsq, rlu, rdp, rrp, rrt, rtp, rzk, rsp5, Bool.true_or, Bool.false_or, Bool.or_false, Bool.or_true, h2]
    rw [← whole_is, e] at q
    exact q
  · rw [← whole_is, e] at q
    exact q
theorem ok__law_is_whole (T : Tx K mg w)   : Cal P w K mg base 1 "_law_is_whole" ["thing"] (sp__law_is_whole K) := by
  refine cal_mk T.F__law_is_whole T.g__law_is_whole sc__law_is_whole (len1 _) (fun _ _ _ _ _ _ us hl => match us, hl with | [_], _ => rfl) (fun cdv A outer s H vs Q E hr h => ?_)
  obtain ⟨v0, rfl, h⟩ := h
  have hu := hu_of hr.r
  refine ⟨_, (pss_one (ps_ret (pe_and (pe_callB is_q (by rfl) T.n_isinstance (by decide +kernel) (pa_cons (pv 0) (pa_cons (pe_bltn (v := .ty "int") (by rfl) T.n_int (by decide +kernel) rfl) pa_nil))) (pe_one (pe_not (pe_callB is_q (by rfl) T.n_isinstance (by decide +kernel) (pa_cons (pv 0) (pa_cons (pe_bltn (v := .ty "bool") (by rfl) T.n_bool (by decide +kernel) rfl) pa_nil)))))))), ?_⟩
  obtain ⟨⟨n, hn⟩, q⟩ := h
  have h1 := isB_int hn
  have h2 := isB_bool hn
  simp only [and_assoc, rst, rs, re, ra, rq, rx, ro, rl, rl2, rsp, rz, rix, rln, rg, rd, ri, rv, rk, rdd, rwi, at0, at1, at2, at3, upd_at, List.getElem?_cons_zero, List.getElem?_cons_succ, Option.some.injEq, exists_eq_left', exists_eq_left, List.set_cons_zero, List.set_cons_succ, true_and, and_true, HO.lst.injEq, HO.tup.injEq, exists_and_left, exists_eq, exists_eq', Br.t, Br.f, Be.t, Be.f, List.cons.injEq, List.append_nil, scal, if_true, if_false, ite_true, ite_false, eq_self_iff_true, decide_true, decide_false, Bool.not_true, Bool.not_false, reduceIte, List.nil_append, List.cons_append, reduceCtorEq, false_and, exists_false, false_or, or_false, Int.reduceLT, ral, rmd, rsq, rlu, rdp, rrp, rrt, rtp, rzk, rsp5, Bool.true_or, Bool.false_or, Bool.or_false, Bool.or_true, h1]
  refine Be.of (fun e => ?_) fun e => ?_
  · simp only [and_assoc, rst, rs, re, ra, rq, rx, ro, rl, rl2, rsp, rz, rix, rln, rg, rd, ri, rv, rk, rdd, rwi, at0, at1, at2, at3, upd_at, List.getElem?_cons_zero, List.getElem?_cons_succ, Option.some.injEq, exists_eq_left', exists_eq_left, List.set_cons_zero, List.set_cons_succ, true_and, and_true, HO.lst.injEq, HO.tup.injEq, exists_and_left, exists_eq, exists_eq', Br.t, Br.f, Be.t, Be.f, List.cons.injEq, List.append_nil, scal, if_true, if_false, ite_true, ite_false, eq_self_iff_true, decide_true, decide_false, Bool.not_true, Bool.not_false, reduceIte, List.nil_append, List.cons_append, reduceCtorEq, false_and, exists_false, false_or, or_false, Int.reduceLT, ral, rmd, rsq, rlu, rdp, rrp, rrt, rtp, rzk, rsp5, Bool.true_or, Bool.false_or, Bool.or_false, Bool.or_true, h2]
    rw [← whole_is, e] at q
    exact q
  · rw [← whole_is, e] at q
    exact q
theorem ok_is_within (T : Tx K mg w) (c_is_whole : Cal P w K mg base 1 "is_whole" ["thing"] (sp_is_whole K))  : Cal P w K mg base 2 "is_within" ["thing", "low", "high"] (sp_is_within K) := by
  refine cal_mk T.F_is_within T.g_is_within sc_is_within (len3 _) (fun _ _ _ _ _ _ us hl => match us, hl with | [_, _, _], _ => rfl) (fun cdv A outer s H vs Q E hr h => ?_)
  obtain ⟨v0, v1, v2, rfl, h⟩ := h
  have hu := hu_of hr.r
  refine ⟨_, (pss_one (ps_ret (pe_and (pe_cal c_is_whole hr (by decide) passL rfl (pa_cons (pv 0) pa_nil)) (pe_one (pe_chain op_le op_le (pv 1) (pv 0) (pv 2)))))), ?_⟩
  obtain ⟨l, h, rfl, rfl, hn, q⟩ := h
  simp only [and_assoc, rst, rs, re, ra, rq, rx, ro, rl, rl2, rsp, rz, rix, rln, rg, rd, ri, rv, rk, rdd, rwi, at0, at1, at2, at3, upd_at, List.getElem?_cons_zero, List.getElem?_cons_succ, Option.some.injEq, exists_eq_left', exists_eq_left, List.set_cons_zero, List.set_cons_succ, true_and, and_true, HO.lst.injEq, HO.tup.injEq, exists_and_left, exists_eq, exists_eq', Br.t, Br.f, Be.t, Be.f, List.cons.injEq, List.append_nil, scal, if_true, if_false, ite_true, ite_false, eq_self_iff_true, decide_true, decide_false, Bool.not_true, Bool.not_false, reduceIte, List.nil_append, List.cons_append, reduceCtorEq, false_and, exists_false, false_or, or_false, Int.reduceLT, ral, rmd, rsq, rlu, rdp, rrp, rrt, rtp, rzk, rsp5, Bool.true_or, Bool.false_or, Bool.or_false, Bool.or_true]
  refine ⟨_, rfl, hn, ?_⟩
  simp only [and_assoc, rst, rs, re, ra, rq, rx, ro, rl, rl2, rsp, rz, rix, rln, rg, rd, ri, rv, rk, rdd, rwi, at0, at1, at2, at3, upd_at, List.getElem?_cons_zero, List.getElem?_cons_succ, Option.some.injEq, exists_eq_left', exists_eq_left, List.set_cons_zero, List.set_cons_succ, true_and, and_true, HO.lst.injEq, HO.tup.injEq, exists_and_left, exists_eq, exists_eq', Br.t, Br.f, Be.t, Be.f, List.cons.injEq, List.append_nil, scal, if_true, if_false, ite_true, ite_false, eq_self_iff_true, decide_true, decide_false, Bool.not_true, Bool.not_false, reduceIte, List.nil_append, List.cons_append, reduceCtorEq, false_and, exists_false, false_or, or_false, Int.reduceLT, ral, rmd, rsq, rlu, rdp, rrp, rrt, rtp, rzk, rsp5, Bool.true_or, Bool.false_or, Bool.or_false, Bool.or_true]
  cases v0 with
  | int i =>
    refine Be.of (fun _ => ?_) fun e => (by simp [whole] at e)
    refine ⟨i, rfl, Be.d (fun c => ⟨i, rfl, ?_⟩) fun c => ?_⟩
    · rw [show decide (i ≤ h) = decide (l ≤ i ∧ i ≤ h) by simp [c]]
      exact q
    · rw [show within (.int i) l h = false from decide_eq_false fun z => c z.1] at q
      exact q
  | _ => exact Be.of (fun e => (by simp [whole] at e)) fun _ => q
theorem within_of {z l h : Int} (h1 : l ≤ z) (h2 : z ≤ h) : within (.int z) l h = true := decide_eq_true ⟨h1, h2⟩
theorem ok_need_much (T : Tx K mg w) (c_is_within : Cal P w K mg base 2 "is_within" ["thing", "low", "high"] (sp_is_within K)) (c_NoNumber : Exn P w K mg base "NoNumber" "found") : Cal P w K mg base 4 "need_much" ["thing"] (sp_need_much K) := by
  refine cal_mk T.F_need_much T.g_need_much sc_need_much (len1 _) (fun _ _ _ _ _ _ us hl => match us, hl with | [_], _ => rfl) (fun cdv A outer s H vs Q E hr h => ?_)
  obtain ⟨v0, rfl, h⟩ := h
  have hu := hu_of hr.r
  refine ⟨_, (pss_cons (ps_if (pt_not (pt_val (pe_cal c_is_within hr (by decide) (passes_call (takes_of rfl rfl rfl rfl) fun _ _ _ _ h => h) rfl (pa_cons (pv 0) (pa_cons pe_int (pa_cons (pe_gint rfl T.k_MOST_MUCH) pa_nil)))))) (pss_one (ps_rs1 c_NoNumber rfl (takes_of rfl rfl rfl rfl) hr.r (by decide) rfl (pa_cons (pv 0) pa_nil))) pss_nil)
      (pss_one (ps_ret (pv 0)))), ?_⟩
  obtain ⟨z, rfl, h0, h1, q⟩ := h
  have e : within (.int z) 0 18446744073709551615 = true := within_of h0 (by omega)
  simp only [and_assoc, rst, rs, re, ra, rq, rx, ro, rl, rl2, rsp, rz, rix, rln, rg, rd, ri, rv, rk, rdd, rwi, at0, at1, at2, at3, upd_at, List.getElem?_cons_zero, List.getElem?_cons_succ, Option.some.injEq, exists_eq_left', exists_eq_left, List.set_cons_zero, List.set_cons_succ, true_and, and_true, HO.lst.injEq, HO.tup.injEq, exists_and_left, exists_eq, exists_eq', Br.t, Br.f, Be.t, Be.f, List.cons.injEq, List.append_nil, scal, if_true, if_false, ite_true, ite_false, eq_self_iff_true, decide_true, decide_false, Bool.not_true, Bool.not_false, reduceIte, List.nil_append, List.cons_append, reduceCtorEq, false_and, exists_false, false_or, or_false, Int.reduceLT, ral, rmd, rsq, rlu, rdp, rrp, rrt, rtp, rzk, rsp5, Bool.true_or, Bool.false_or, Bool.or_false, Bool.or_true]
  refine ⟨_, _, _, rfl, _, _, rfl, rfl, ⟨_, rfl⟩, ?_⟩
  simp only [and_assoc, rst, rs, re, ra, rq, rx, ro, rl, rl2, rsp, rz, rix, rln, rg, rd, ri, rv, rk, rdd, rwi, at0, at1, at2, at3, upd_at, List.getElem?_cons_zero, List.getElem?_cons_succ, Option.some.injEq, exists_eq_left', exists_eq_left, List.set_cons_zero, List.set_cons_succ, true_and, and_true, HO.lst.injEq, HO.tup.injEq, exists_and_left, exists_eq, exists_eq', Br.t, Br.f, Be.t, Be.f, List.cons.injEq, List.append_nil, scal, if_true, if_false, ite_true, ite_false, eq_self_iff_true, decide_true, decide_false, Bool.not_true, Bool.not_false, reduceIte, List.nil_append, List.cons_append, reduceCtorEq, false_and, exists_false, false_or, or_false, Int.reduceLT, ral, rmd, rsq, rlu, rdp, rrp, rrt, rtp, rzk, rsp5, Bool.true_or, Bool.false_or, Bool.or_false, Bool.or_true, e]
  exact q
theorem ok_need_odd (T : Tx K mg w) (c_need_much : Cal P w K mg base 4 "need_much" ["thing"] (sp_need_much K)) (c_NoNumber : Exn P w K mg base "NoNumber" "found") : Cal P w K mg base 5 "need_odd" ["thing"] (sp_need_odd K) := by
  refine cal_mk T.F_need_odd T.g_need_odd sc_need_odd (len1 _) (fun _ _ _ _ _ _ us hl => match us, hl with | [_], _ => rfl) (fun cdv A outer s H vs Q E hr h => ?_)
  obtain ⟨v0, rfl, h⟩ := h
  have hu := hu_of hr.r
  refine ⟨_, (pss_cons (ps_if (pt_cmpR op_eq (pe_op op_mod (pe_cal c_need_much hr (by decide) (passes_call (takes_of rfl rfl rfl rfl) fun _ _ _ _ h => h) rfl (pa_cons (pv 0) pa_nil)) pe_int) pe_int (nomark _)) (pss_one (ps_rs1 c_NoNumber rfl (takes_of rfl rfl rfl rfl) hr.r (by decide) rfl (pa_cons (pv 0) pa_nil))) pss_nil)
      (pss_one (ps_ret (pv 0)))), ?_⟩
  obtain ⟨z, rfl, h0, h1, h2, q⟩ := h
  simp only [and_assoc, rst, rs, re, ra, rq, rx, ro, rl, rl2, rsp, rz, rix, rln, rg, rd, ri, rv, rk, rdd, rwi, at0, at1, at2, at3, upd_at, List.getElem?_cons_zero, List.getElem?_cons_succ, Option.some.injEq, exists_eq_left', exists_eq_left, List.set_cons_zero, List.set_cons_succ, true_and, and_true, HO.lst.injEq, HO.tup.injEq, exists_and_left, exists_eq, exists_eq', Br.t, Br.f, Be.t, Be.f, List.cons.injEq, List.append_nil, scal, if_true, if_false, ite_true, ite_false, eq_self_iff_true, decide_true, decide_false, Bool.not_true, Bool.not_false, reduceIte, List.nil_append, List.cons_append, reduceCtorEq, false_and, exists_false, false_or, or_false, Int.reduceLT, ral, rmd, rsq, rlu, rdp, rrp, rrt, rtp, rzk, rsp5, Bool.true_or, Bool.false_or, Bool.or_false, Bool.or_true]
  refine ⟨_, rfl, z, rfl, h0, h1, ?_⟩
  refine ⟨_, rfl, Br.d (fun c => absurd c (by omega)) fun _ => ?_⟩
  simp only [and_assoc, rst, rs, re, ra, rq, rx, ro, rl, rl2, rsp, rz, rix, rln, rg, rd, ri, rv, rk, rdd, rwi, at0, at1, at2, at3, upd_at, List.getElem?_cons_zero, List.getElem?_cons_succ, Option.some.injEq, exists_eq_left', exists_eq_left, List.set_cons_zero, List.set_cons_succ, true_and, and_true, HO.lst.injEq, HO.tup.injEq, exists_and_left, exists_eq, exists_eq', Br.t, Br.f, Be.t, Be.f, List.cons.injEq, List.append_nil, scal, if_true, if_false, ite_true, ite_false, eq_self_iff_true, decide_true, decide_false, Bool.not_true, Bool.not_false, reduceIte, List.nil_append, List.cons_append, reduceCtorEq, false_and, exists_false, false_or, or_false, Int.reduceLT, ral, rmd, rsq, rlu, rdp, rrp, rrt, rtp, rzk, rsp5, Bool.true_or, Bool.false_or, Bool.or_false, Bool.or_true]
  exact q
theorem ok_need_far (T : Tx K mg w) (c_is_within : Cal P w K mg base 2 "is_within" ["thing", "low", "high"] (sp_is_within K)) (c_NoNumber : Exn P w K mg base "NoNumber" "found") : Cal P w K mg base 4 "need_far" ["thing"] (sp_need_far K) := by
  refine cal_mk T.F_need_far T.g_need_far sc_need_far (len1 _) (fun _ _ _ _ _ _ us hl => match us, hl with | [_], _ => rfl) (fun cdv A outer s H vs Q E hr h => ?_)
  obtain ⟨v0, rfl, h⟩ := h
  have hu := hu_of hr.r
  refine ⟨_, (pss_cons (ps_if (pt_not (pt_val (pe_cal c_is_within hr (by decide) (passes_call (takes_of rfl rfl rfl rfl) fun _ _ _ _ h => h) rfl (pa_cons (pv 0) (pa_cons pe_int (pa_cons (pe_gint rfl T.k_MOST_FAR) pa_nil)))))) (pss_one (ps_rs1 c_NoNumber rfl (takes_of rfl rfl rfl rfl) hr.r (by decide) rfl (pa_cons (pv 0) pa_nil))) pss_nil)
      (pss_one (ps_ret (pv 0)))), ?_⟩
  obtain ⟨z, rfl, h0, h1, q⟩ := h
  simp only [and_assoc, rst, rs, re, ra, rq, rx, ro, rl, rl2, rsp, rz, rix, rln, rg, rd, ri, rv, rk, rdd, rwi, at0, at1, at2, at3, upd_at, List.getElem?_cons_zero, List.getElem?_cons_succ, Option.some.injEq, exists_eq_left', exists_eq_left, List.set_cons_zero, List.set_cons_succ, true_and, and_true, HO.lst.injEq, HO.tup.injEq, exists_and_left, exists_eq, exists_eq', Br.t, Br.f, Be.t, Be.f, List.cons.injEq, List.append_nil, scal, if_true, if_false, ite_true, ite_false, eq_self_iff_true, decide_true, decide_false, Bool.not_true, Bool.not_false, reduceIte, List.nil_append, List.cons_append, reduceCtorEq, false_and, exists_false, false_or, or_false, Int.reduceLT, ral, rmd, rsq, rlu, rdp, rrp, rrt, rtp, rzk, rsp5, Bool.true_or, Bool.false_or, Bool.or_false, Bool.or_true]
  refine ⟨_, _, _, rfl, _, _, rfl, rfl, ⟨_, rfl⟩, ?_⟩
  rw [within_of h0 h1]
  simp only [and_assoc, rst, rs, re, ra, rq, rx, ro, rl, rl2, rsp, rz, rix, rln, rg, rd, ri, rv, rk, rdd, rwi, at0, at1, at2, at3, upd_at, List.getElem?_cons_zero, List.getElem?_cons_succ, Option.some.injEq, exists_eq_left', exists_eq_left, List.set_cons_zero, List.set_cons_succ, true_and, and_true, HO.lst.injEq, HO.tup.injEq, exists_and_left, exists_eq, exists_eq', Br.t, Br.f, Be.t, Be.f, List.cons.injEq, List.append_nil, scal, if_true, if_false, ite_true, ite_false, eq_self_iff_true, decide_true, decide_false, Bool.not_true, Bool.not_false, reduceIte, List.nil_append, List.cons_append, reduceCtorEq, false_and, exists_false, false_or, or_false, Int.reduceLT, ral, rmd, rsq, rlu, rdp, rrp, rrt, rtp, rzk, rsp5, Bool.true_or, Bool.false_or, Bool.or_false, Bool.or_true]
  exact q
theorem ok_sinit_Plus (T : Tx K mg w)   : CalM P w K mg base 1 "Step" "__init__" ["self", "much"] (sp_sinit_Plus K) := by
  refine calM_mk (q := "Step.__init__") T.F_sinit_Plus T.cls_Step T.M_sinit_Plus sc_sinit_Plus (len2 _) (fun _ _ _ _ _ _ us hl => match us, hl with | [_, _], _ => rfl) (fun cdv A outer s H vs Q E hr h => ?_)
  obtain ⟨v0, v1, rfl, h⟩ := h
  have hu := hu_of hr.r
  refine ⟨_, (pss_one (ps_fldC T.cls_Plus T.na_Plus_much (pv 0) (pv 1))), ?_⟩
  obtain ⟨a, dx, rfl, ha, q⟩ := h
  simp only [and_assoc, rst, rs, re, ra, rq, rx, ro, rl, rl2, rsp, rz, rix, rln, rg, rd, ri, rv, rk, rdd, rwi, at0, at1, at2, at3, upd_at, List.getElem?_cons_zero, List.getElem?_cons_succ, Option.some.injEq, exists_eq_left', exists_eq_left, List.set_cons_zero, List.set_cons_succ, true_and, and_true, HO.lst.injEq, HO.tup.injEq, exists_and_left, exists_eq, exists_eq', Br.t, Br.f, Be.t, Be.f, List.cons.injEq, List.append_nil, scal, if_true, if_false, ite_true, ite_false, eq_self_iff_true, decide_true, decide_false, Bool.not_true, Bool.not_false, reduceIte, List.nil_append, List.cons_append, reduceCtorEq, false_and, exists_false, false_or, or_false, Int.reduceLT, ral, rmd, rsq, rlu, rdp, rrp, rrt, rtp, rzk, rsp5, Bool.true_or, Bool.false_or, Bool.or_false, Bool.or_true]
  refine ⟨dx, _, ha, by decide, ?_⟩
  exact q
theorem ok_sinit_Times (T : Tx K mg w)   : CalM P w K mg base 1 "Step" "__init__" ["self", "much"] (sp_sinit_Times K) := by
  refine calM_mk (q := "Step.__init__") T.F_sinit_Times T.cls_Step T.M_sinit_Times sc_sinit_Times (len2 _) (fun _ _ _ _ _ _ us hl => match us, hl with | [_, _], _ => rfl) (fun cdv A outer s H vs Q E hr h => ?_)
  obtain ⟨v0, v1, rfl, h⟩ := h
  have hu := hu_of hr.r
  refine ⟨_, (pss_one (ps_fldC T.cls_Times T.na_Times_much (pv 0) (pv 1))), ?_⟩
  obtain ⟨a, dx, rfl, ha, q⟩ := h
  simp only [and_assoc, rst, rs, re, ra, rq, rx, ro, rl, rl2, rsp, rz, rix, rln, rg, rd, ri, rv, rk, rdd, rwi, at0, at1, at2, at3, upd_at, List.getElem?_cons_zero, List.getElem?_cons_succ, Option.some.injEq, exists_eq_left', exists_eq_left, List.set_cons_zero, List.set_cons_succ, true_and, and_true, HO.lst.injEq, HO.tup.injEq, exists_and_left, exists_eq, exists_eq', Br.t, Br.f, Be.t, Be.f, List.cons.injEq, List.append_nil, scal, if_true, if_false, ite_true, ite_false, eq_self_iff_true, decide_true, decide_false, Bool.not_true, Bool.not_false, reduceIte, List.nil_append, List.cons_append, reduceCtorEq, false_and, exists_false, false_or, or_false, Int.reduceLT, ral, rmd, rsq, rlu, rdp, rrp, rrt, rtp, rzk, rsp5, Bool.true_or, Bool.false_or, Bool.or_false, Bool.or_true]
  refine ⟨dx, _, ha, by decide, ?_⟩
  exact q
theorem ok_sinit_Cross (T : Tx K mg w)   : CalM P w K mg base 1 "Step" "__init__" ["self", "much"] (sp_sinit_Cross K) := by
  refine calM_mk (q := "Step.__init__") T.F_sinit_Cross T.cls_Step T.M_sinit_Cross sc_sinit_Cross (len2 _) (fun _ _ _ _ _ _ us hl => match us, hl with | [_, _], _ => rfl) (fun cdv A outer s H vs Q E hr h => ?_)
  obtain ⟨v0, v1, rfl, h⟩ := h
  have hu := hu_of hr.r
  refine ⟨_, (pss_one (ps_fldC T.cls_Cross T.na_Cross_much (pv 0) (pv 1))), ?_⟩
  obtain ⟨a, dx, rfl, ha, q⟩ := h
  simp only [and_assoc, rst, rs, re, ra, rq, rx, ro, rl, rl2, rsp, rz, rix, rln, rg, rd, ri, rv, rk, rdd, rwi, at0, at1, at2, at3, upd_at, List.getElem?_cons_zero, List.getElem?_cons_succ, Option.some.injEq, exists_eq_left', exists_eq_left, List.set_cons_zero, List.set_cons_succ, true_and, and_true, HO.lst.injEq, HO.tup.injEq, exists_and_left, exists_eq, exists_eq', Br.t, Br.f, Be.t, Be.f, List.cons.injEq, List.append_nil, scal, if_true, if_false, ite_true, ite_false, eq_self_iff_true, decide_true, decide_false, Bool.not_true, Bool.not_false, reduceIte, List.nil_append, List.cons_append, reduceCtorEq, false_and, exists_false, false_or, or_false, Int.reduceLT, ral, rmd, rsq, rlu, rdp, rrp, rrt, rtp, rzk, rsp5, Bool.true_or, Bool.false_or, Bool.or_false, Bool.or_true]
  refine ⟨dx, _, ha, by decide, ?_⟩
  exact q
theorem ok_sinit_Fold (T : Tx K mg w)   : CalM P w K mg base 1 "Step" "__init__" ["self", "much"] (sp_sinit_Fold K) := by
  refine calM_mk (q := "Step.__init__") T.F_sinit_Fold T.cls_Step T.M_sinit_Fold sc_sinit_Fold (len2 _) (fun _ _ _ _ _ _ us hl => match us, hl with | [_, _], _ => rfl) (fun cdv A outer s H vs Q E hr h => ?_)
  obtain ⟨v0, v1, rfl, h⟩ := h
  have hu := hu_of hr.r
  refine ⟨_, (pss_one (ps_fldC T.cls_Fold T.na_Fold_much (pv 0) (pv 1))), ?_⟩
  obtain ⟨a, dx, rfl, ha, q⟩ := h
  simp only [and_assoc, rst, rs, re, ra, rq, rx, ro, rl, rl2, rsp, rz, rix, rln, rg, rd, ri, rv, rk, rdd, rwi, at0, at1, at2, at3, upd_at, List.getElem?_cons_zero, List.getElem?_cons_succ, Option.some.injEq, exists_eq_left', exists_eq_left, List.set_cons_zero, List.set_cons_succ, true_and, and_true, HO.lst.injEq, HO.tup.injEq, exists_and_left, exists_eq, exists_eq', Br.t, Br.f, Be.t, Be.f, List.cons.injEq, List.append_nil, scal, if_true, if_false, ite_true, ite_false, eq_self_iff_true, decide_true, decide_false, Bool.not_true, Bool.not_false, reduceIte, List.nil_append, List.cons_append, reduceCtorEq, false_and, exists_false, false_or, or_false, Int.reduceLT, ral, rmd, rsq, rlu, rdp, rrp, rrt, rtp, rzk, rsp5, Bool.true_or, Bool.false_or, Bool.or_false, Bool.or_true]
  refine ⟨dx, _, ha, by decide, ?_⟩
  exact q
theorem ok_sinit_Rise (T : Tx K mg w)   : CalM P w K mg base 1 "Step" "__init__" ["self", "much"] (sp_sinit_Rise K) := by
  refine calM_mk (q := "Step.__init__") T.F_sinit_Rise T.cls_Step T.M_sinit_Rise sc_sinit_Rise (len2 _) (fun _ _ _ _ _ _ us hl => match us, hl with | [_, _], _ => rfl) (fun cdv A outer s H vs Q E hr h => ?_)
  obtain ⟨v0, v1, rfl, h⟩ := h
  have hu := hu_of hr.r
  refine ⟨_, (pss_one (ps_fldC T.cls_Rise T.na_Rise_much (pv 0) (pv 1))), ?_⟩
  obtain ⟨a, dx, rfl, ha, q⟩ := h
  simp only [and_assoc, rst, rs, re, ra, rq, rx, ro, rl, rl2, rsp, rz, rix, rln, rg, rd, ri, rv, rk, rdd, rwi, at0, at1, at2, at3, upd_at, List.getElem?_cons_zero, List.getElem?_cons_succ, Option.some.injEq, exists_eq_left', exists_eq_left, List.set_cons_zero, List.set_cons_succ, true_and, and_true, HO.lst.injEq, HO.tup.injEq, exists_and_left, exists_eq, exists_eq', Br.t, Br.f, Be.t, Be.f, List.cons.injEq, List.append_nil, scal, if_true, if_false, ite_true, ite_false, eq_self_iff_true, decide_true, decide_false, Bool.not_true, Bool.not_false, reduceIte, List.nil_append, List.cons_append, reduceCtorEq, false_and, exists_false, false_or, or_false, Int.reduceLT, ral, rmd, rsq, rlu, rdp, rrp, rrt, rtp, rzk, rsp5, Bool.true_or, Bool.false_or, Bool.or_false, Bool.or_true]
  refine ⟨dx, _, ha, by decide, ?_⟩
  exact q
theorem ok_sinit_Turn (T : Tx K mg w)   : CalM P w K mg base 1 "Step" "__init__" ["self", "much"] (sp_sinit_Turn K) := by
  refine calM_mk (q := "Step.__init__") T.F_sinit_Turn T.cls_Step T.M_sinit_Turn sc_sinit_Turn (len2 _) (fun _ _ _ _ _ _ us hl => match us, hl with | [_, _], _ => rfl) (fun cdv A outer s H vs Q E hr h => ?_)
  obtain ⟨v0, v1, rfl, h⟩ := h
  have hu := hu_of hr.r
  refine ⟨_, (pss_one (ps_fldC T.cls_Turn T.na_Turn_much (pv 0) (pv 1))), ?_⟩
  obtain ⟨a, dx, rfl, ha, q⟩ := h
  simp only [and_assoc, rst, rs, re, ra, rq, rx, ro, rl, rl2, rsp, rz, rix, rln, rg, rd, ri, rv, rk, rdd, rwi, at0, at1, at2, at3, upd_at, List.getElem?_cons_zero, List.getElem?_cons_succ, Option.some.injEq, exists_eq_left', exists_eq_left, List.set_cons_zero, List.set_cons_succ, true_and, and_true, HO.lst.injEq, HO.tup.injEq, exists_and_left, exists_eq, exists_eq', Br.t, Br.f, Be.t, Be.f, List.cons.injEq, List.append_nil, scal, if_true, if_false, ite_true, ite_false, eq_self_iff_true, decide_true, decide_false, Bool.not_true, Bool.not_false, reduceIte, List.nil_append, List.cons_append, reduceCtorEq, false_and, exists_false, false_or, or_false, Int.reduceLT, ral, rmd, rsq, rlu, rdp, rrp, rrt, rtp, rzk, rsp5, Bool.true_or, Bool.false_or, Bool.or_false, Bool.or_true]
  refine ⟨dx, _, ha, by decide, ?_⟩
  exact q
theorem ok_sinit_Chain (T : Tx K mg w)   : CalM P w K mg base 1 "Step" "__init__" ["self", "much"] (sp_sinit_Chain K) := by
  refine calM_mk (q := "Step.__init__") T.F_sinit_Chain T.cls_Step T.M_sinit_Chain sc_sinit_Chain (len2 _) (fun _ _ _ _ _ _ us hl => match us, hl with | [_, _], _ => rfl) (fun cdv A outer s H vs Q E hr h => ?_)
  obtain ⟨v0, v1, rfl, h⟩ := h
  have hu := hu_of hr.r
  refine ⟨_, (pss_one (ps_fldC T.cls_Chain T.na_Chain_much (pv 0) (pv 1))), ?_⟩
  obtain ⟨a, dx, rfl, ha, q⟩ := h
  simp only [and_assoc, rst, rs, re, ra, rq, rx, ro, rl, rl2, rsp, rz, rix, rln, rg, rd, ri, rv, rk, rdd, rwi, at0, at1, at2, at3, upd_at, List.getElem?_cons_zero, List.getElem?_cons_succ, Option.some.injEq, exists_eq_left', exists_eq_left, List.set_cons_zero, List.set_cons_succ, true_and, and_true, HO.lst.injEq, HO.tup.injEq, exists_and_left, exists_eq, exists_eq', Br.t, Br.f, Be.t, Be.f, List.cons.injEq, List.append_nil, scal, if_true, if_false, ite_true, ite_false, eq_self_iff_true, decide_true, decide_false, Bool.not_true, Bool.not_false, reduceIte, List.nil_append, List.cons_append, reduceCtorEq, false_and, exists_false, false_or, or_false, Int.reduceLT, ral, rmd, rsq, rlu, rdp, rrp, rrt, rtp, rzk, rsp5, Bool.true_or, Bool.false_or, Bool.or_false, Bool.or_true]
  refine ⟨dx, _, ha, by decide, ?_⟩
  exact q
theorem ok_Plus_init (T : Tx K mg w) (c_need_much : Cal P w K mg base 4 "need_much" ["thing"] (sp_need_much K)) (c_sinit_Plus : CalM P w K mg base 1 "Step" "__init__" ["self", "much"] (sp_sinit_Plus K))  : CalM P w K mg base 5 "Plus" "__init__" ["self", "n"] (sp_Plus_init K) := by
  refine calM_mk (q := "Plus.__init__") T.F_Plus_init T.cls_Plus T.M_Plus_init sc_Plus_init (len2 _) (fun _ _ _ _ _ _ us hl => match us, hl with | [_, _], _ => rfl) (fun cdv A outer s H vs Q E hr h => ?_)
  obtain ⟨v0, v1, rfl, h⟩ := h
  have hu := hu_of hr.r
  refine ⟨_, (pss_one (ps_expr (pe_clsM c_sinit_Plus T.cf_Step_init hr (by decide) (takes_of rfl rfl rfl rfl) rfl T.g_Step (pa_cons (pv 0) (pa_cons (pe_cal c_need_much hr (by decide) (passes_call (takes_of rfl rfl rfl rfl) fun _ _ _ _ h => h) rfl (pa_cons (pv 1) pa_nil)) pa_nil))))), ?_⟩
  obtain ⟨a, z, ⟨rfl, dx, ha⟩, rfl, hz, q⟩ := h
  simp only [and_assoc, rst, rs, re, ra, rq, rx, ro, rl, rl2, rsp, rz, rix, rln, rg, rd, ri, rv, rk, rdd, rwi, at0, at1, at2, at3, upd_at, List.getElem?_cons_zero, List.getElem?_cons_succ, Option.some.injEq, exists_eq_left', exists_eq_left, List.set_cons_zero, List.set_cons_succ, true_and, and_true, HO.lst.injEq, HO.tup.injEq, exists_and_left, exists_eq, exists_eq', Br.t, Br.f, Be.t, Be.f, List.cons.injEq, List.append_nil, scal, if_true, if_false, ite_true, ite_false, eq_self_iff_true, decide_true, decide_false, Bool.not_true, Bool.not_false, reduceIte, List.nil_append, List.cons_append, reduceCtorEq, false_and, exists_false, false_or, or_false, Int.reduceLT, ral, rmd, rsq, rlu, rdp, rrp, rrt, rtp, rzk, rsp5, Bool.true_or, Bool.false_or, Bool.or_false, Bool.or_true]
  refine ⟨_, rfl, z, rfl, hz.1, hz.2, _, _, rfl, a, dx, rfl, ha, q dx⟩
theorem ok_Times_init (T : Tx K mg w) (c_need_odd : Cal P w K mg base 5 "need_odd" ["thing"] (sp_need_odd K)) (c_sinit_Times : CalM P w K mg base 1 "Step" "__init__" ["self", "much"] (sp_sinit_Times K))  : CalM P w K mg base 6 "Times" "__init__" ["self", "n"] (sp_Times_init K) := by
  refine calM_mk (q := "Times.__init__") T.F_Times_init T.cls_Times T.M_Times_init sc_Times_init (len2 _) (fun _ _ _ _ _ _ us hl => match us, hl with | [_, _], _ => rfl) (fun cdv A outer s H vs Q E hr h => ?_)
  obtain ⟨v0, v1, rfl, h⟩ := h
  have hu := hu_of hr.r
  refine ⟨_, (pss_one (ps_expr (pe_clsM c_sinit_Times T.cf_Step_init hr (by decide) (takes_of rfl rfl rfl rfl) rfl T.g_Step (pa_cons (pv 0) (pa_cons (pe_cal c_need_odd hr (by decide) (passes_call (takes_of rfl rfl rfl rfl) fun _ _ _ _ h => h) rfl (pa_cons (pv 1) pa_nil)) pa_nil))))), ?_⟩
  obtain ⟨a, z, ⟨rfl, dx, ha⟩, rfl, hz, q⟩ := h
  simp only [and_assoc, rst, rs, re, ra, rq, rx, ro, rl, rl2, rsp, rz, rix, rln, rg, rd, ri, rv, rk, rdd, rwi, at0, at1, at2, at3, upd_at, List.getElem?_cons_zero, List.getElem?_cons_succ, Option.some.injEq, exists_eq_left', exists_eq_left, List.set_cons_zero, List.set_cons_succ, true_and, and_true, HO.lst.injEq, HO.tup.injEq, exists_and_left, exists_eq, exists_eq', Br.t, Br.f, Be.t, Be.f, List.cons.injEq, List.append_nil, scal, if_true, if_false, ite_true, ite_false, eq_self_iff_true, decide_true, decide_false, Bool.not_true, Bool.not_false, reduceIte, List.nil_append, List.cons_append, reduceCtorEq, false_and, exists_false, false_or, or_false, Int.reduceLT, ral, rmd, rsq, rlu, rdp, rrp, rrt, rtp, rzk, rsp5, Bool.true_or, Bool.false_or, Bool.or_false, Bool.or_true]
  refine ⟨_, rfl, z, rfl, hz.1, hz.2.1, hz.2.2, _, _, rfl, a, dx, rfl, ha, q dx⟩
theorem ok_Cross_init (T : Tx K mg w) (c_need_much : Cal P w K mg base 4 "need_much" ["thing"] (sp_need_much K)) (c_sinit_Cross : CalM P w K mg base 1 "Step" "__init__" ["self", "much"] (sp_sinit_Cross K))  : CalM P w K mg base 5 "Cross" "__init__" ["self", "n"] (sp_Cross_init K) := by
  refine calM_mk (q := "Cross.__init__") T.F_Cross_init T.cls_Cross T.M_Cross_init sc_Cross_init (len2 _) (fun _ _ _ _ _ _ us hl => match us, hl with | [_, _], _ => rfl) (fun cdv A outer s H vs Q E hr h => ?_)
  obtain ⟨v0, v1, rfl, h⟩ := h
  have hu := hu_of hr.r
  refine ⟨_, (pss_one (ps_expr (pe_clsM c_sinit_Cross T.cf_Step_init hr (by decide) (takes_of rfl rfl rfl rfl) rfl T.g_Step (pa_cons (pv 0) (pa_cons (pe_cal c_need_much hr (by decide) (passes_call (takes_of rfl rfl rfl rfl) fun _ _ _ _ h => h) rfl (pa_cons (pv 1) pa_nil)) pa_nil))))), ?_⟩
  obtain ⟨a, z, ⟨rfl, dx, ha⟩, rfl, hz, q⟩ := h
  simp only [and_assoc, rst, rs, re, ra, rq, rx, ro, rl, rl2, rsp, rz, rix, rln, rg, rd, ri, rv, rk, rdd, rwi, at0, at1, at2, at3, upd_at, List.getElem?_cons_zero, List.getElem?_cons_succ, Option.some.injEq, exists_eq_left', exists_eq_left, List.set_cons_zero, List.set_cons_succ, true_and, and_true, HO.lst.injEq, HO.tup.injEq, exists_and_left, exists_eq, exists_eq', Br.t, Br.f, Be.t, Be.f, List.cons.injEq, List.append_nil, scal, if_true, if_false, ite_true, ite_false, eq_self_iff_true, decide_true, decide_false, Bool.not_true, Bool.not_false, reduceIte, List.nil_append, List.cons_append, reduceCtorEq, false_and, exists_false, false_or, or_false, Int.reduceLT, ral, rmd, rsq, rlu, rdp, rrp, rrt, rtp, rzk, rsp5, Bool.true_or, Bool.false_or, Bool.or_false, Bool.or_true]
  refine ⟨_, rfl, z, rfl, hz.1, hz.2, _, _, rfl, a, dx, rfl, ha, q dx⟩
theorem ok_Fold_init (T : Tx K mg w) (c_need_far : Cal P w K mg base 4 "need_far" ["thing"] (sp_need_far K)) (c_sinit_Fold : CalM P w K mg base 1 "Step" "__init__" ["self", "much"] (sp_sinit_Fold K))  : CalM P w K mg base 5 "Fold" "__init__" ["self", "k"] (sp_Fold_init K) := by
  refine calM_mk (q := "Fold.__init__") T.F_Fold_init T.cls_Fold T.M_Fold_init sc_Fold_init (len2 _) (fun _ _ _ _ _ _ us hl => match us, hl with | [_, _], _ => rfl) (fun cdv A outer s H vs Q E hr h => ?_)
  obtain ⟨v0, v1, rfl, h⟩ := h
  have hu := hu_of hr.r
  refine ⟨_, (pss_one (ps_expr (pe_clsM c_sinit_Fold T.cf_Step_init hr (by decide) (takes_of rfl rfl rfl rfl) rfl T.g_Step (pa_cons (pv 0) (pa_cons (pe_cal c_need_far hr (by decide) (passes_call (takes_of rfl rfl rfl rfl) fun _ _ _ _ h => h) rfl (pa_cons (pv 1) pa_nil)) pa_nil))))), ?_⟩
  obtain ⟨a, z, ⟨rfl, dx, ha⟩, rfl, hz, q⟩ := h
  simp only [and_assoc, rst, rs, re, ra, rq, rx, ro, rl, rl2, rsp, rz, rix, rln, rg, rd, ri, rv, rk, rdd, rwi, at0, at1, at2, at3, upd_at, List.getElem?_cons_zero, List.getElem?_cons_succ, Option.some.injEq, exists_eq_left', exists_eq_left, List.set_cons_zero, List.set_cons_succ, true_and, and_true, HO.lst.injEq, HO.tup.injEq, exists_and_left, exists_eq, exists_eq', Br.t, Br.f, Be.t, Be.f, List.cons.injEq, List.append_nil, scal, if_true, if_false, ite_true, ite_false, eq_self_iff_true, decide_true, decide_false, Bool.not_true, Bool.not_false, reduceIte, List.nil_append, List.cons_append, reduceCtorEq, false_and, exists_false, false_or, or_false, Int.reduceLT, ral, rmd, rsq, rlu, rdp, rrp, rrt, rtp, rzk, rsp5, Bool.true_or, Bool.false_or, Bool.or_false, Bool.or_true]
  refine ⟨_, rfl, z, rfl, hz.1, hz.2, _, _, rfl, a, dx, rfl, ha, q dx⟩
theorem ok_Rise_init (T : Tx K mg w) (c_need_far : Cal P w K mg base 4 "need_far" ["thing"] (sp_need_far K)) (c_sinit_Rise : CalM P w K mg base 1 "Step" "__init__" ["self", "much"] (sp_sinit_Rise K))  : CalM P w K mg base 5 "Rise" "__init__" ["self", "k"] (sp_Rise_init K) := by
  refine calM_mk (q := "Rise.__init__") T.F_Rise_init T.cls_Rise T.M_Rise_init sc_Rise_init (len2 _) (fun _ _ _ _ _ _ us hl => match us, hl with | [_, _], _ => rfl) (fun cdv A outer s H vs Q E hr h => ?_)
  obtain ⟨v0, v1, rfl, h⟩ := h
  have hu := hu_of hr.r
  refine ⟨_, (pss_one (ps_expr (pe_clsM c_sinit_Rise T.cf_Step_init hr (by decide) (takes_of rfl rfl rfl rfl) rfl T.g_Step (pa_cons (pv 0) (pa_cons (pe_cal c_need_far hr (by decide) (passes_call (takes_of rfl rfl rfl rfl) fun _ _ _ _ h => h) rfl (pa_cons (pv 1) pa_nil)) pa_nil))))), ?_⟩
  obtain ⟨a, z, ⟨rfl, dx, ha⟩, rfl, hz, q⟩ := h
  simp only [and_assoc, rst, rs, re, ra, rq, rx, ro, rl, rl2, rsp, rz, rix, rln, rg, rd, ri, rv, rk, rdd, rwi, at0, at1, at2, at3, upd_at, List.getElem?_cons_zero, List.getElem?_cons_succ, Option.some.injEq, exists_eq_left', exists_eq_left, List.set_cons_zero, List.set_cons_succ, true_and, and_true, HO.lst.injEq, HO.tup.injEq, exists_and_left, exists_eq, exists_eq', Br.t, Br.f, Be.t, Be.f, List.cons.injEq, List.append_nil, scal, if_true, if_false, ite_true, ite_false, eq_self_iff_true, decide_true, decide_false, Bool.not_true, Bool.not_false, reduceIte, List.nil_append, List.cons_append, reduceCtorEq, false_and, exists_false, false_or, or_false, Int.reduceLT, ral, rmd, rsq, rlu, rdp, rrp, rrt, rtp, rzk, rsp5, Bool.true_or, Bool.false_or, Bool.or_false, Bool.or_true]
  refine ⟨_, rfl, z, rfl, hz.1, hz.2, _, _, rfl, a, dx, rfl, ha, q dx⟩
theorem ok_Turn_init (T : Tx K mg w) (c_need_far : Cal P w K mg base 4 "need_far" ["thing"] (sp_need_far K)) (c_sinit_Turn : CalM P w K mg base 1 "Step" "__init__" ["self", "much"] (sp_sinit_Turn K))  : CalM P w K mg base 5 "Turn" "__init__" ["self", "k"] (sp_Turn_init K) := by
  refine calM_mk (q := "Turn.__init__") T.F_Turn_init T.cls_Turn T.M_Turn_init sc_Turn_init (len2 _) (fun _ _ _ _ _ _ us hl => match us, hl with | [_, _], _ => rfl) (fun cdv A outer s H vs Q E hr h => ?_)
  obtain ⟨v0, v1, rfl, h⟩ := h
  have hu := hu_of hr.r
  refine ⟨_, (pss_one (ps_expr (pe_clsM c_sinit_Turn T.cf_Step_init hr (by decide) (takes_of rfl rfl rfl rfl) rfl T.g_Step (pa_cons (pv 0) (pa_cons (pe_cal c_need_far hr (by decide) (passes_call (takes_of rfl rfl rfl rfl) fun _ _ _ _ h => h) rfl (pa_cons (pv 1) pa_nil)) pa_nil))))), ?_⟩
  obtain ⟨a, z, ⟨rfl, dx, ha⟩, rfl, hz, q⟩ := h
  simp only [and_assoc, rst, rs, re, ra, rq, rx, ro, rl, rl2, rsp, rz, rix, rln, rg, rd, ri, rv, rk, rdd, rwi, at0, at1, at2, at3, upd_at, List.getElem?_cons_zero, List.getElem?_cons_succ, Option.some.injEq, exists_eq_left', exists_eq_left, List.set_cons_zero, List.set_cons_succ, true_and, and_true, HO.lst.injEq, HO.tup.injEq, exists_and_left, exists_eq, exists_eq', Br.t, Br.f, Be.t, Be.f, List.cons.injEq, List.append_nil, scal, if_true, if_false, ite_true, ite_false, eq_self_iff_true, decide_true, decide_false, Bool.not_true, Bool.not_false, reduceIte, List.nil_append, List.cons_append, reduceCtorEq, false_and, exists_false, false_or, or_false, Int.reduceLT, ral, rmd, rsq, rlu, rdp, rrp, rrt, rtp, rzk, rsp5, Bool.true_or, Bool.false_or, Bool.or_false, Bool.or_true]
  refine ⟨_, rfl, z, rfl, hz.1, hz.2, _, _, rfl, a, dx, rfl, ha, q dx⟩
theorem ok_Plus_levels (T : Tx K mg w)   : CalM P w K mg base 1 "Plus" "levels" ["self"] (sp_Plus_levels K) := by
  refine calM_mk (q := "Step.levels") T.F_Plus_levels T.cls_Plus T.M_Plus_levels sc_Plus_levels (len1 _) (fun _ _ _ _ _ _ us hl => match us, hl with | [_], _ => rfl) (fun cdv A outer s H vs Q E hr h => ?_)
  obtain ⟨v0, rfl, h⟩ := h
  have hu := hu_of hr.r
  refine ⟨_, (pss_one (ps_ret pe_int)), ?_⟩
  obtain ⟨z, _, q⟩ := h
  simp only [and_assoc, rst, rs, re, ra, rq, rx, ro, rl, rl2, rsp, rz, rix, rln, rg, rd, ri, rv, rk, rdd, rwi, at0, at1, at2, at3, upd_at, List.getElem?_cons_zero, List.getElem?_cons_succ, Option.some.injEq, exists_eq_left', exists_eq_left, List.set_cons_zero, List.set_cons_succ, true_and, and_true, HO.lst.injEq, HO.tup.injEq, exists_and_left, exists_eq, exists_eq', Br.t, Br.f, Be.t, Be.f, List.cons.injEq, List.append_nil, scal, if_true, if_false, ite_true, ite_false, eq_self_iff_true, decide_true, decide_false, Bool.not_true, Bool.not_false, reduceIte, List.nil_append, List.cons_append, reduceCtorEq, false_and, exists_false, false_or, or_false, Int.reduceLT, ral, rmd, rsq, rlu, rdp, rrp, rrt, rtp, rzk, rsp5, Bool.true_or, Bool.false_or, Bool.or_false, Bool.or_true]
  exact q
theorem ok_Times_levels (T : Tx K mg w)   : CalM P w K mg base 1 "Times" "levels" ["self"] (sp_Times_levels K) := by
  refine calM_mk (q := "Step.levels") T.F_Times_levels T.cls_Times T.M_Times_levels sc_Times_levels (len1 _) (fun _ _ _ _ _ _ us hl => match us, hl with | [_], _ => rfl) (fun cdv A outer s H vs Q E hr h => ?_)
  obtain ⟨v0, rfl, h⟩ := h
  have hu := hu_of hr.r
  refine ⟨_, (pss_one (ps_ret pe_int)), ?_⟩
  obtain ⟨z, _, q⟩ := h
  simp only [and_assoc, rst, rs, re, ra, rq, rx, ro, rl, rl2, rsp, rz, rix, rln, rg, rd, ri, rv, rk, rdd, rwi, at0, at1, at2, at3, upd_at, List.getElem?_cons_zero, List.getElem?_cons_succ, Option.some.injEq, exists_eq_left', exists_eq_left, List.set_cons_zero, List.set_cons_succ, true_and, and_true, HO.lst.injEq, HO.tup.injEq, exists_and_left, exists_eq, exists_eq', Br.t, Br.f, Be.t, Be.f, List.cons.injEq, List.append_nil, scal, if_true, if_false, ite_true, ite_false, eq_self_iff_true, decide_true, decide_false, Bool.not_true, Bool.not_false, reduceIte, List.nil_append, List.cons_append, reduceCtorEq, false_and, exists_false, false_or, or_false, Int.reduceLT, ral, rmd, rsq, rlu, rdp, rrp, rrt, rtp, rzk, rsp5, Bool.true_or, Bool.false_or, Bool.or_false, Bool.or_true]
  exact q
theorem ok_Cross_levels (T : Tx K mg w)   : CalM P w K mg base 1 "Cross" "levels" ["self"] (sp_Cross_levels K) := by
  refine calM_mk (q := "Step.levels") T.F_Cross_levels T.cls_Cross T.M_Cross_levels sc_Cross_levels (len1 _) (fun _ _ _ _ _ _ us hl => match us, hl with | [_], _ => rfl) (fun cdv A outer s H vs Q E hr h => ?_)
  obtain ⟨v0, rfl, h⟩ := h
  have hu := hu_of hr.r
  refine ⟨_, (pss_one (ps_ret pe_int)), ?_⟩
  obtain ⟨z, _, q⟩ := h
  simp only [and_assoc, rst, rs, re, ra, rq, rx, ro, rl, rl2, rsp, rz, rix, rln, rg, rd, ri, rv, rk, rdd, rwi, at0, at1, at2, at3, upd_at, List.getElem?_cons_zero, List.getElem?_cons_succ, Option.some.injEq, exists_eq_left', exists_eq_left, List.set_cons_zero, List.set_cons_succ, true_and, and_true, HO.lst.injEq, HO.tup.injEq, exists_and_left, exists_eq, exists_eq', Br.t, Br.f, Be.t, Be.f, List.cons.injEq, List.append_nil, scal, if_true, if_false, ite_true, ite_false, eq_self_iff_true, decide_true, decide_false, Bool.not_true, Bool.not_false, reduceIte, List.nil_append, List.cons_append, reduceCtorEq, false_and, exists_false, false_or, or_false, Int.reduceLT, ral, rmd, rsq, rlu, rdp, rrp, rrt, rtp, rzk, rsp5, Bool.true_or, Bool.false_or, Bool.or_false, Bool.or_true]
  exact q
theorem ok_Fold_levels (T : Tx K mg w)   : CalM P w K mg base 1 "Fold" "levels" ["self"] (sp_Fold_levels K) := by
  refine calM_mk (q := "Step.levels") T.F_Fold_levels T.cls_Fold T.M_Fold_levels sc_Fold_levels (len1 _) (fun _ _ _ _ _ _ us hl => match us, hl with | [_], _ => rfl) (fun cdv A outer s H vs Q E hr h => ?_)
  obtain ⟨v0, rfl, h⟩ := h
  have hu := hu_of hr.r
  refine ⟨_, (pss_one (ps_ret pe_int)), ?_⟩
  obtain ⟨z, _, q⟩ := h
  simp only [and_assoc, rst, rs, re, ra, rq, rx, ro, rl, rl2, rsp, rz, rix, rln, rg, rd, ri, rv, rk, rdd, rwi, at0, at1, at2, at3, upd_at, List.getElem?_cons_zero, List.getElem?_cons_succ, Option.some.injEq, exists_eq_left', exists_eq_left, List.set_cons_zero, List.set_cons_succ, true_and, and_true, HO.lst.injEq, HO.tup.injEq, exists_and_left, exists_eq, exists_eq', Br.t, Br.f, Be.t, Be.f, List.cons.injEq, List.append_nil, scal, if_true, if_false, ite_true, ite_false, eq_self_iff_true, decide_true, decide_false, Bool.not_true, Bool.not_false, reduceIte, List.nil_append, List.cons_append, reduceCtorEq, false_and, exists_false, false_or, or_false, Int.reduceLT, ral, rmd, rsq, rlu, rdp, rrp, rrt, rtp, rzk, rsp5, Bool.true_or, Bool.false_or, Bool.or_false, Bool.or_true]
  exact q
theorem ok_Rise_levels (T : Tx K mg w)   : CalM P w K mg base 1 "Rise" "levels" ["self"] (sp_Rise_levels K) := by
  refine calM_mk (q := "Step.levels") T.F_Rise_levels T.cls_Rise T.M_Rise_levels sc_Rise_levels (len1 _) (fun _ _ _ _ _ _ us hl => match us, hl with | [_], _ => rfl) (fun cdv A outer s H vs Q E hr h => ?_)
  obtain ⟨v0, rfl, h⟩ := h
  have hu := hu_of hr.r
  refine ⟨_, (pss_one (ps_ret pe_int)), ?_⟩
  obtain ⟨z, _, q⟩ := h
  simp only [and_assoc, rst, rs, re, ra, rq, rx, ro, rl, rl2, rsp, rz, rix, rln, rg, rd, ri, rv, rk, rdd, rwi, at0, at1, at2, at3, upd_at, List.getElem?_cons_zero, List.getElem?_cons_succ, Option.some.injEq, exists_eq_left', exists_eq_left, List.set_cons_zero, List.set_cons_succ, true_and, and_true, HO.lst.injEq, HO.tup.injEq, exists_and_left, exists_eq, exists_eq', Br.t, Br.f, Be.t, Be.f, List.cons.injEq, List.append_nil, scal, if_true, if_false, ite_true, ite_false, eq_self_iff_true, decide_true, decide_false, Bool.not_true, Bool.not_false, reduceIte, List.nil_append, List.cons_append, reduceCtorEq, false_and, exists_false, false_or, or_false, Int.reduceLT, ral, rmd, rsq, rlu, rdp, rrp, rrt, rtp, rzk, rsp5, Bool.true_or, Bool.false_or, Bool.or_false, Bool.or_true]
  exact q
theorem ok_Turn_levels (T : Tx K mg w)   : CalM P w K mg base 1 "Turn" "levels" ["self"] (sp_Turn_levels K) := by
  refine calM_mk (q := "Step.levels") T.F_Turn_levels T.cls_Turn T.M_Turn_levels sc_Turn_levels (len1 _) (fun _ _ _ _ _ _ us hl => match us, hl with | [_], _ => rfl) (fun cdv A outer s H vs Q E hr h => ?_)
  obtain ⟨v0, rfl, h⟩ := h
  have hu := hu_of hr.r
  refine ⟨_, (pss_one (ps_ret pe_int)), ?_⟩
  obtain ⟨z, _, q⟩ := h
  simp only [and_assoc, rst, rs, re, ra, rq, rx, ro, rl, rl2, rsp, rz, rix, rln, rg, rd, ri, rv, rk, rdd, rwi, at0, at1, at2, at3, upd_at, List.getElem?_cons_zero, List.getElem?_cons_succ, Option.some.injEq, exists_eq_left', exists_eq_left, List.set_cons_zero, List.set_cons_succ, true_and, and_true, HO.lst.injEq, HO.tup.injEq, exists_and_left, exists_eq, exists_eq', Br.t, Br.f, Be.t, Be.f, List.cons.injEq, List.append_nil, scal, if_true, if_false, ite_true, ite_false, eq_self_iff_true, decide_true, decide_false, Bool.not_true, Bool.not_false, reduceIte, List.nil_append, List.cons_append, reduceCtorEq, false_and, exists_false, false_or, or_false, Int.reduceLT, ral, rmd, rsq, rlu, rdp, rrp, rrt, rtp, rzk, rsp5, Bool.true_or, Bool.false_or, Bool.or_false, Bool.or_true]
  exact q
theorem mem_lv {K : Fg} (k : Sk) : (k.cl, spLv k K) ∈ [(("Plus" : Str), sp_Plus_levels K), ("Times", sp_Times_levels K), ("Cross", sp_Cross_levels K), ("Fold", sp_Fold_levels K), ("Rise", sp_Rise_levels K), ("Turn", sp_Turn_levels K)] := by
  cases k <;> simp [Sk.cl, sp_Plus_levels, sp_Times_levels, sp_Cross_levels, sp_Fold_levels, sp_Rise_levels, sp_Turn_levels]
theorem isStep (T : Tx K mg w) (k : Sk) : Cls K (He.ga K k.cl) ∧ InsC K (He.ga K k.cl) ∧ PySem.W.kitOne K (.ref (He.ga K k.cl)) (.ref (He.ga K "Step")) = some true := by
  cases k with
  | plus => exact ⟨T.cls_Plus, T.ins_Plus, T.kit_Plus_Step⟩
  | times => exact ⟨T.cls_Times, T.ins_Times, T.kit_Times_Step⟩
  | cross => exact ⟨T.cls_Cross, T.ins_Cross, T.kit_Cross_Step⟩
  | fold => exact ⟨T.cls_Fold, T.ins_Fold, T.kit_Fold_Step⟩
  | rise => exact ⟨T.cls_Rise, T.ins_Rise, T.kit_Rise_Step⟩
  | turn => exact ⟨T.cls_Turn, T.ins_Turn, T.kit_Turn_Step⟩
theorem ok_need_step (T : Tx K mg w) (c_Cross_levels : CalM P w K mg base 1 "Cross" "levels" ["self"] (sp_Cross_levels K)) (c_Times_levels : CalM P w K mg base 1 "Times" "levels" ["self"] (sp_Times_levels K)) (c_Rise_levels : CalM P w K mg base 1 "Rise" "levels" ["self"] (sp_Rise_levels K)) (c_Plus_levels : CalM P w K mg base 1 "Plus" "levels" ["self"] (sp_Plus_levels K)) (c_Turn_levels : CalM P w K mg base 1 "Turn" "levels" ["self"] (sp_Turn_levels K)) (c_Fold_levels : CalM P w K mg base 1 "Fold" "levels" ["self"] (sp_Fold_levels K)) (c_NoStep : Exn P w K mg base "NoStep" "found") : Cal P w K mg base 4 "need_step" ["thing"] (sp_need_step K) := by
  refine cal_mk T.F_need_step T.g_need_step sc_need_step (len1 _) (fun _ _ _ _ _ _ us hl => match us, hl with | [_], _ => rfl) (fun cdv A outer s H vs Q E hr h => ?_)
  obtain ⟨v0, rfl, h⟩ := h
  have hu := hu_of hr.r
  have D0 := ((Disp.cons c_Plus_levels (by decide) (Disp.cons c_Times_levels (by decide) (Disp.cons c_Cross_levels (by decide) (Disp.cons c_Fold_levels (by decide) (Disp.cons c_Rise_levels (by decide) (Disp.cons c_Turn_levels (by decide) Disp.nil)))))) : Disp P w K mg base (3) "levels" _)
  refine ⟨_, (pss_cons (ps_if (PW.pt (pw_or (pt_not (pt_val (pe_callB call_isi (by rfl) T.n_isinstance (by decide +kernel) (pa_cons (pv 0) (pa_cons (pe_glob (v := .ref (He.ga K "Step")) rfl T.g_Step rfl) pa_nil))))) (pw_or1 (pt_cmpR op_ge (pe_mthD0 (K := K) rfl D0 hr (takes_of rfl rfl rfl rfl) (pv 0)) (pe_gint rfl T.k_MOST_LEVELS) (nomark _))))) (pss_one (ps_rs1 c_NoStep rfl (takes_of rfl rfl rfl rfl) hr.r (by decide) rfl (pa_cons (pv 0) pa_nil))) pss_nil)
      (pss_one (ps_ret (pv 0)))), ?_⟩
  obtain ⟨⟨k, z⟩, ho, q⟩ := h
  obtain ⟨a, dx, rfl, ha⟩ := id ho
  obtain ⟨c1, c2, c3⟩ := isStep T k
  simp only [and_assoc, rst, rs, re, ra, rq, rx, ro, rl, rl2, rsp, rz, rix, rln, rg, rd, ri, rv, rk, rdd, rwi, at0, at1, at2, at3, upd_at, List.getElem?_cons_zero, List.getElem?_cons_succ, Option.some.injEq, exists_eq_left', exists_eq_left, List.set_cons_zero, List.set_cons_succ, true_and, and_true, HO.lst.injEq, HO.tup.injEq, exists_and_left, exists_eq, exists_eq', Br.t, Br.f, Be.t, Be.f, List.cons.injEq, List.append_nil, scal, if_true, if_false, ite_true, ite_false, eq_self_iff_true, decide_true, decide_false, Bool.not_true, Bool.not_false, reduceIte, List.nil_append, List.cons_append, reduceCtorEq, false_and, exists_false, false_or, or_false, Int.reduceLT, ral, rmd, rsq, rlu, rdp, rrp, rrt, rtp, rzk, rsp5, Bool.true_or, Bool.false_or, Bool.or_false, Bool.or_true]
  refine ⟨_, _, _, _, true, rfl, .own _, tyX_ins ha c1 c2, c3, ?_⟩
  simp only [and_assoc, rst, rs, re, ra, rq, rx, ro, rl, rl2, rsp, rz, rix, rln, rg, rd, ri, rv, rk, rdd, rwi, at0, at1, at2, at3, upd_at, List.getElem?_cons_zero, List.getElem?_cons_succ, Option.some.injEq, exists_eq_left', exists_eq_left, List.set_cons_zero, List.set_cons_succ, true_and, and_true, HO.lst.injEq, HO.tup.injEq, exists_and_left, exists_eq, exists_eq', Br.t, Br.f, Be.t, Be.f, List.cons.injEq, List.append_nil, scal, if_true, if_false, ite_true, ite_false, eq_self_iff_true, decide_true, decide_false, Bool.not_true, Bool.not_false, reduceIte, List.nil_append, List.cons_append, reduceCtorEq, false_and, exists_false, false_or, or_false, Int.reduceLT, ral, rmd, rsq, rlu, rdp, rrp, rrt, rtp, rzk, rsp5, Bool.true_or, Bool.false_or, Bool.or_false, Bool.or_true]
  refine ⟨k.cl, spLv k K, mem_lv k, dx, _, ha, rfl, ?_⟩
  refine ⟨_, rfl, z, ho, ?_⟩
  simp only [and_assoc, rst, rs, re, ra, rq, rx, ro, rl, rl2, rsp, rz, rix, rln, rg, rd, ri, rv, rk, rdd, rwi, at0, at1, at2, at3, upd_at, List.getElem?_cons_zero, List.getElem?_cons_succ, Option.some.injEq, exists_eq_left', exists_eq_left, List.set_cons_zero, List.set_cons_succ, true_and, and_true, HO.lst.injEq, HO.tup.injEq, exists_and_left, exists_eq, exists_eq', Br.t, Br.f, Be.t, Be.f, List.cons.injEq, List.append_nil, scal, if_true, if_false, ite_true, ite_false, eq_self_iff_true, decide_true, decide_false, Bool.not_true, Bool.not_false, reduceIte, List.nil_append, List.cons_append, reduceCtorEq, false_and, exists_false, false_or, or_false, Int.reduceLT, ral, rmd, rsq, rlu, rdp, rrp, rrt, rtp, rzk, rsp5, Bool.true_or, Bool.false_or, Bool.or_false, Bool.or_true]
  refine Br.d (fun c => absurd c (by decide)) fun _ => ?_
  simp only [and_assoc, rst, rs, re, ra, rq, rx, ro, rl, rl2, rsp, rz, rix, rln, rg, rd, ri, rv, rk, rdd, rwi, at0, at1, at2, at3, upd_at, List.getElem?_cons_zero, List.getElem?_cons_succ, Option.some.injEq, exists_eq_left', exists_eq_left, List.set_cons_zero, List.set_cons_succ, true_and, and_true, HO.lst.injEq, HO.tup.injEq, exists_and_left, exists_eq, exists_eq', Br.t, Br.f, Be.t, Be.f, List.cons.injEq, List.append_nil, scal, if_true, if_false, ite_true, ite_false, eq_self_iff_true, decide_true, decide_false, Bool.not_true, Bool.not_false, reduceIte, List.nil_append, List.cons_append, reduceCtorEq, false_and, exists_false, false_or, or_false, Int.reduceLT, ral, rmd, rsq, rlu, rdp, rrp, rrt, rtp, rzk, rsp5, Bool.true_or, Bool.false_or, Bool.or_false, Bool.or_true]
  exact q
end
end Law

-- RDX ral, rmd, rsq, rlu, rdp, rrp, rrt, rtp, rzk, rsp5, Bool.true_or, Bool.false_or, Bool.or_false, Bool.or_true
set_option pp.deepTerms true
set_option pp.maxSteps 100000
namespace Law
open PySem PySem.Spec PyProof.Rows L2 Sw
section
variable {P : Program} {w : World} {K : Fg} {mg : Str → Option Value} {base : Heap}
theorem ok_Chain_init (T : Tx K mg w) (c_sinit_Chain : CalM P w K mg base 1 "Step" "__init__" ["self", "much"] (sp_sinit_Chain K)) (c_need_step : Cal P w K mg base 4 "need_step" ["thing"] (sp_need_step K)) (c_NoStep : Exn P w K mg base "NoStep" "found") : CalM P w K mg base 5 "Chain" "__init__" ["self", "steps"] (sp_Chain_init K) := by
  refine calM_mk (q := "Chain.__init__") T.F_Chain_init T.cls_Chain T.M_Chain_init sc_Chain_init (len2 _) (fun _ _ _ _ _ _ us hl => match us, hl with | [_, _], _ => rfl) (fun cdv A outer s H vs Q E hr h => ?_)
  obtain ⟨v0, v1, rfl, h⟩ := h
  have hu := hu_of hr.r
  refine ⟨_, (pss_cons (ps_expr (pe_clsM c_sinit_Chain T.cf_Step_init hr (by decide) (takes_of rfl rfl rfl rfl) rfl T.g_Step (pa_cons (pv 0) (pa_cons pe_int pa_nil))))
      (pss_cons (ps_if (PW.pt (pw_or (pt_not (pt_val (pe_callB is_2 (by rfl) T.n_isinstance (by decide +kernel) (pa_cons (pv 1) (pa_cons (pe_tupA (pa_cons (pe_bltn (v := .ty "list") (by rfl) T.n_list (by decide +kernel) rfl) (pa_cons (pe_bltn (v := .ty "tuple") (by rfl) T.n_tuple (by decide +kernel) rfl) pa_nil))) pa_nil))))) (pw_or1 (pt_cmpR op_gt (pe_callB len_q (by rfl) T.n_len (by decide +kernel) (pa_cons (pv 1) pa_nil)) (pe_gint rfl T.k_MOST_STEPS) (nomark _))))) (pss_one (ps_rs1 c_NoStep rfl (takes_of rfl rfl rfl rfl) hr.r (by decide) rfl (pa_cons (pv 1) pa_nil))) pss_nil)
      (pss_one (ps_fldC T.cls_Chain T.na_Chain_inners (pv 0) (pe_lc (own := [("step", 2)]) (g := (gName 2)) rfl sc_Chain_init.nd (pi_q (pv 1)) (blkOk_by (N := nm_Chain_init) (sc := defScope s_Chain_init) (by decide +kernel)) (fun _ _ _ _ _ => (pg_name (i := 2) sc_Chain_init.nd rfl (Or.inl rfl))) (fun _ _ _ _ _ => pts_nil) (fun _ _ _ _ _ => (pe_cal c_need_step hr (by decide) passL rfl (pa_cons (pv 2) pa_nil)))))))), ?_⟩
  obtain ⟨a, q0, ss, xs, ⟨rfl, dx, ha⟩, rfl, nq, hq, al, hl, q⟩ := h
  have ll := al.len
  simp only [and_assoc, rst, rs, re, ra, rq, rx, ro, rl, rl2, rsp, rz, rix, rln, rg, rd, ri, rv, rk, rdd, rwi, at0, at1, at2, at3, upd_at, List.getElem?_cons_zero, List.getElem?_cons_succ, Option.some.injEq, exists_eq_left', exists_eq_left, List.set_cons_zero, List.set_cons_succ, true_and, and_true, HO.lst.injEq, HO.tup.injEq, exists_and_left, exists_eq, exists_eq', Br.t, Br.f, Be.t, Be.f, List.cons.injEq, List.append_nil, scal, if_true, if_false, ite_true, ite_false, eq_self_iff_true, decide_true, decide_false, Bool.not_true, Bool.not_false, reduceIte, List.nil_append, List.cons_append, reduceCtorEq, false_and, exists_false, false_or, or_false, Int.reduceLT, ral, rmd, rsq, rlu, rdp, rrp, rrt, rtp, rzk, rsp5, Bool.true_or, Bool.false_or, Bool.or_false, Bool.or_true]
  refine ⟨_, _, rfl, a, dx, rfl, ha, ?_⟩
  have k1 : ∀ b o, b ≠ a → H b = some o → upd H a (.ins (He.ga K "Chain") dx [("much", .int 0)]) b = some o := fun b o n e => by rw [upd_ne n]; exact e
  have k2 : Same (away a H) (upd H a (.ins (He.ga K "Chain") dx [("much", .int 0)])) := away_upd
  have h1a : upd H a (.ins (He.ga K "Chain") dx [("much", .int 0)]) a = some (.ins (He.ga K "Chain") dx [("much", .int 0)]) := upd_same
  generalize upd H a (.ins (He.ga K "Chain") dx [("much", .int 0)]) = H1 at k1 k2 h1a ⊢
  intro tp H2 a2
  have hq2 : H2 q0 = some (.lst xs) := a2.k (k1 _ _ nq hq)
  have kb := kindB hq2 rfl
  refine ⟨_, tp, "list", "tuple", _, _, rfl, a2.e, kb.2.2.2.2.1, kb.2.2.2.2.2, ?_⟩
  rw [show (!isT (.lst xs) || isT (.lst xs)) = true from rfl]
  simp only [and_assoc, rst, rs, re, ra, rq, rx, ro, rl, rl2, rsp, rz, rix, rln, rg, rd, ri, rv, rk, rdd, rwi, at0, at1, at2, at3, upd_at, List.getElem?_cons_zero, List.getElem?_cons_succ, Option.some.injEq, exists_eq_left', exists_eq_left, List.set_cons_zero, List.set_cons_succ, true_and, and_true, HO.lst.injEq, HO.tup.injEq, exists_and_left, exists_eq, exists_eq', Br.t, Br.f, Be.t, Be.f, List.cons.injEq, List.append_nil, scal, if_true, if_false, ite_true, ite_false, eq_self_iff_true, decide_true, decide_false, Bool.not_true, Bool.not_false, reduceIte, List.nil_append, List.cons_append, reduceCtorEq, false_and, exists_false, false_or, or_false, Int.reduceLT, ral, rmd, rsq, rlu, rdp, rrp, rrt, rtp, rzk, rsp5, Bool.true_or, Bool.false_or, Bool.or_false, Bool.or_true, hq2]
  refine Br.d (fun c => absurd c (by omega)) fun _ => ?_
  simp only [and_assoc, rst, rs, re, ra, rq, rx, ro, rl, rl2, rsp, rz, rix, rln, rg, rd, ri, rv, rk, rdd, rwi, at0, at1, at2, at3, upd_at, List.getElem?_cons_zero, List.getElem?_cons_succ, Option.some.injEq, exists_eq_left', exists_eq_left, List.set_cons_zero, List.set_cons_succ, true_and, and_true, HO.lst.injEq, HO.tup.injEq, exists_and_left, exists_eq, exists_eq', Br.t, Br.f, Be.t, Be.f, List.cons.injEq, List.append_nil, scal, if_true, if_false, ite_true, ite_false, eq_self_iff_true, decide_true, decide_false, Bool.not_true, Bool.not_false, reduceIte, List.nil_append, List.cons_append, reduceCtorEq, false_and, exists_false, false_or, or_false, Int.reduceLT, ral, rmd, rsq, rlu, rdp, rrp, rrt, rtp, rzk, rsp5, Bool.true_or, Bool.false_or, Bool.or_false, Bool.or_true, hq2]
  refine LC.seq (o := .lst xs) rfl (fun D i H' => Same H2 H' ∧ H' D = some (.lst (xs.take i))) (fun D hD => ⟨Same.new hD, upd_same⟩) (fun D i H' _ _ ⟨s, _⟩ => s _ _ hq2) ?_ ?_
  · rintro D i x H' hD hx ⟨s, hd⟩
    have hi : i < xs.length := (List.getElem?_eq_some_iff.mp hx).1
    obtain ⟨st, y, _, hy, ob⟩ := al.at (i := i) (by omega)
    rw [hx] at hy
    cases hy
    simp only [and_assoc, rst, rs, re, ra, rq, rx, ro, rl, rl2, rsp, rz, rix, rln, rg, rd, ri, rv, rk, rdd, rwi, at0, at1, at2, at3, upd_at, List.getElem?_cons_zero, List.getElem?_cons_succ, Option.some.injEq, exists_eq_left', exists_eq_left, List.set_cons_zero, List.set_cons_succ, true_and, and_true, HO.lst.injEq, HO.tup.injEq, exists_and_left, exists_eq, exists_eq', Br.t, Br.f, Be.t, Be.f, List.cons.injEq, List.append_nil, scal, if_true, if_false, ite_true, ite_false, eq_self_iff_true, decide_true, decide_false, Bool.not_true, Bool.not_false, reduceIte, List.nil_append, List.cons_append, reduceCtorEq, false_and, exists_false, false_or, or_false, Int.reduceLT, ral, rmd, rsq, rlu, rdp, rrp, rrt, rtp, rzk, rsp5, Bool.true_or, Bool.false_or, Bool.or_false, Bool.or_true]
    refine ⟨_, rfl, st, ob.same (Same.trans k2 (Same.trans a2.s s)), _, hd, by rw [List.length_take, sizeLine_eq]; omega, Same.mut s hD, ?_⟩
    rw [take_snoc hx]
  · rintro D H' hD ⟨s, hd⟩
    rw [List.take_length] at hd
    have nD : D ≠ a := fun e => by rw [e, a2.k h1a] at hD; cases hD
    refine ⟨dx, _, s _ _ (a2.k h1a), by decide, ?_⟩
    refine q _ dx D (fun b o n e => by rw [upd_ne n]; exact s _ _ (a2.k (k1 b o n e))) nD ?_ (by rw [upd_same]; rfl) (by rw [upd_ne nD]; exact hd)
    cases hz : H D with
    | none => rfl
    | some o => rw [a2.k (k1 D o nD hz)] at hD; cases hD
theorem p2 : ∀ k : Nat, k ≤ 64 → (1 : Int) ≤ 2 ^ k ∧ (2 : Int) ^ k ≤ 2 ^ 64 := by decide +kernel
theorem shl1 {k : Nat} (h : k ≤ 1000) : CShl 1 (k : Int) := by
  refine ⟨by omega, ?_⟩
  rw [show Builtin.Int.intBits 1 = 1 by decide +kernel]
  omega
theorem ok_Machine_seeds (T : Tx K mg w)   : CalM P w K mg base 1 "Machine" "seeds" ["self"] (sp_Machine_seeds K) := by
  refine calM_mk (q := "Machine.seeds") T.F_Machine_seeds T.cls_Machine T.M_Machine_seeds sc_Machine_seeds (len1 _) (fun _ _ _ _ _ _ us hl => match us, hl with | [_], _ => rfl) (fun cdv A outer s H vs Q E hr h => ?_)
  obtain ⟨v0, rfl, h⟩ := h
  have hu := hu_of hr.r
  refine ⟨_, (pss_one (ps_ret (pe_op op_shlW pe_int (pe_fldC T.cls_Machine T.na_Machine_seed_bits (pv 0))))), ?_⟩
  obtain ⟨m, ⟨a, dx, x, y, rfl, ha⟩, hm, q⟩ := h
  simp only [and_assoc, rst, rs, re, ra, rq, rx, ro, rl, rl2, rsp, rz, rix, rln, rg, rd, ri, rv, rk, rdd, rwi, at0, at1, at2, at3, upd_at, List.getElem?_cons_zero, List.getElem?_cons_succ, Option.some.injEq, exists_eq_left', exists_eq_left, List.set_cons_zero, List.set_cons_succ, true_and, and_true, HO.lst.injEq, HO.tup.injEq, exists_and_left, exists_eq, exists_eq', Br.t, Br.f, Be.t, Be.f, List.cons.injEq, List.append_nil, scal, if_true, if_false, ite_true, ite_false, eq_self_iff_true, decide_true, decide_false, Bool.not_true, Bool.not_false, reduceIte, List.nil_append, List.cons_append, reduceCtorEq, false_and, exists_false, false_or, or_false, Int.reduceLT, ral, rmd, rsq, rlu, rdp, rrp, rrt, rtp, rzk, rsp5, Bool.true_or, Bool.false_or, Bool.or_false, Bool.or_true]
  refine ⟨dx, _, ha, _, rfl, _, rfl, shl1 (by have := hm.1; omega), ?_⟩
  rw [Int.one_mul, Int.toNat_natCast]
  exact q
theorem ok_Machine_parts (T : Tx K mg w)   : CalM P w K mg base 1 "Machine" "parts" ["self"] (sp_Machine_parts K) := by
  refine calM_mk (q := "Machine.parts") T.F_Machine_parts T.cls_Machine T.M_Machine_parts sc_Machine_parts (len1 _) (fun _ _ _ _ _ _ us hl => match us, hl with | [_], _ => rfl) (fun cdv A outer s H vs Q E hr h => ?_)
  obtain ⟨v0, rfl, h⟩ := h
  have hu := hu_of hr.r
  refine ⟨_, (pss_one (ps_ret (pe_op op_sub (pe_op op_shlW pe_int (pe_fldC T.cls_Machine T.na_Machine_part_bits (pv 0))) pe_int))), ?_⟩
  obtain ⟨m, ⟨a, dx, x, y, rfl, ha⟩, hm, q⟩ := h
  simp only [and_assoc, rst, rs, re, ra, rq, rx, ro, rl, rl2, rsp, rz, rix, rln, rg, rd, ri, rv, rk, rdd, rwi, at0, at1, at2, at3, upd_at, List.getElem?_cons_zero, List.getElem?_cons_succ, Option.some.injEq, exists_eq_left', exists_eq_left, List.set_cons_zero, List.set_cons_succ, true_and, and_true, HO.lst.injEq, HO.tup.injEq, exists_and_left, exists_eq, exists_eq', Br.t, Br.f, Be.t, Be.f, List.cons.injEq, List.append_nil, scal, if_true, if_false, ite_true, ite_false, eq_self_iff_true, decide_true, decide_false, Bool.not_true, Bool.not_false, reduceIte, List.nil_append, List.cons_append, reduceCtorEq, false_and, exists_false, false_or, or_false, Int.reduceLT, ral, rmd, rsq, rlu, rdp, rrp, rrt, rtp, rzk, rsp5, Bool.true_or, Bool.false_or, Bool.or_false, Bool.or_true]
  refine ⟨dx, _, ha, _, rfl, _, rfl, shl1 (by have := hm.2.2.1; omega), ?_⟩
  rw [Int.one_mul, Int.toNat_natCast]
  exact q
theorem ok_Machine_length (T : Tx K mg w)   : CalM P w K mg base 1 "Machine" "length" ["self"] (sp_Machine_length K) := by
  refine calM_mk (q := "Machine.length") T.F_Machine_length T.cls_Machine T.M_Machine_length sc_Machine_length (len1 _) (fun _ _ _ _ _ _ us hl => match us, hl with | [_], _ => rfl) (fun cdv A outer s H vs Q E hr h => ?_)
  obtain ⟨v0, rfl, h⟩ := h
  have hu := hu_of hr.r
  refine ⟨_, (pss_one (ps_ret (pe_op op_shlW pe_int (pe_fldC T.cls_Machine T.na_Machine_place_bits (pv 0))))), ?_⟩
  obtain ⟨m, ⟨a, dx, x, y, rfl, ha⟩, hm, q⟩ := h
  simp only [and_assoc, rst, rs, re, ra, rq, rx, ro, rl, rl2, rsp, rz, rix, rln, rg, rd, ri, rv, rk, rdd, rwi, at0, at1, at2, at3, upd_at, List.getElem?_cons_zero, List.getElem?_cons_succ, Option.some.injEq, exists_eq_left', exists_eq_left, List.set_cons_zero, List.set_cons_succ, true_and, and_true, HO.lst.injEq, HO.tup.injEq, exists_and_left, exists_eq, exists_eq', Br.t, Br.f, Be.t, Be.f, List.cons.injEq, List.append_nil, scal, if_true, if_false, ite_true, ite_false, eq_self_iff_true, decide_true, decide_false, Bool.not_true, Bool.not_false, reduceIte, List.nil_append, List.cons_append, reduceCtorEq, false_and, exists_false, false_or, or_false, Int.reduceLT, ral, rmd, rsq, rlu, rdp, rrp, rrt, rtp, rzk, rsp5, Bool.true_or, Bool.false_or, Bool.or_false, Bool.or_true]
  refine ⟨dx, _, ha, _, rfl, _, rfl, shl1 (by have := hm.2.2.2.2.2.1; omega), ?_⟩
  rw [Int.one_mul, Int.toNat_natCast]
  exact q
theorem ok_Machine_is_path (T : Tx K mg w) (c_is_within : Cal P w K mg base 2 "is_within" ["thing", "low", "high"] (sp_is_within K)) (c_Machine_parts : CalM P w K mg base 1 "Machine" "parts" ["self"] (sp_Machine_parts K))  : CalM P w K mg base 3 "Machine" "is_path" ["self", "thing"] (sp_Machine_is_path K) := by
  refine calM_mk (q := "Machine.is_path") T.F_Machine_is_path T.cls_Machine T.M_Machine_is_path sc_Machine_is_path (len2 _) (fun _ _ _ _ _ _ us hl => match us, hl with | [_, _], _ => rfl) (fun cdv A outer s H vs Q E hr h => ?_)
  obtain ⟨v0, v1, rfl, h⟩ := h
  have hu := hu_of hr.r
  refine ⟨_, (pss_cons (ps_if (PW.pt (pw_or (pt_not (pt_val (pe_callB is_q (by rfl) T.n_isinstance (by decide +kernel) (pa_cons (pv 1) (pa_cons (pe_bltn (v := .ty "tuple") (by rfl) T.n_tuple (by decide +kernel) rfl) pa_nil))))) (pw_or1 (pt_cmpR op_gt (pe_callB len_q (by rfl) T.n_len (by decide +kernel) (pa_cons (pv 1) pa_nil)) (pe_fldC T.cls_Machine T.na_Machine_depth (pv 0)) (nomark _))))) (pss_one (ps_ret pe_bl)) pss_nil)
      (pss_one (ps_ret (pe_callB (cr_all rfl) (by rfl) T.n_all (by decide +kernel) (pa_cons (pe_lc (own := [("child", 2)]) (g := (gName 2)) rfl sc_Machine_is_path.nd (pi_q (pv 1)) (blkOk_by (N := nm_Machine_is_path) (sc := defScope s_Machine_is_path) (by decide +kernel)) (fun _ _ _ _ _ => (pg_name (i := 2) sc_Machine_is_path.nd rfl (Or.inl rfl))) (fun _ _ _ _ _ => pts_nil) (fun _ _ _ _ _ => (pe_cal c_is_within hr (by decide) passL rfl (pa_cons (pv 2) (pa_cons pe_int (pa_cons (pe_op op_sub (pe_mth0P (K := K) rfl c_Machine_parts hr (by decide) passL (pv 0)) pe_int) pa_nil)))))) pa_nil))))), ?_⟩
  obtain ⟨m, r, hom, hm, hp, q⟩ := h
  obtain ⟨a, dx, x, y, rfl, ha⟩ := id hom
  simp only [and_assoc, rst, rs, re, ra, rq, rx, ro, rl, rl2, rsp, rz, rix, rln, rg, rd, ri, rv, rk, rdd, rwi, at0, at1, at2, at3, upd_at, List.getElem?_cons_zero, List.getElem?_cons_succ, Option.some.injEq, exists_eq_left', exists_eq_left, List.set_cons_zero, List.set_cons_succ, true_and, and_true, HO.lst.injEq, HO.tup.injEq, exists_and_left, exists_eq, exists_eq', Br.t, Br.f, Be.t, Be.f, List.cons.injEq, List.append_nil, scal, if_true, if_false, ite_true, ite_false, eq_self_iff_true, decide_true, decide_false, Bool.not_true, Bool.not_false, reduceIte, List.nil_append, List.cons_append, reduceCtorEq, false_and, exists_false, false_or, or_false, Int.reduceLT, ral, rmd, rsq, rlu, rdp, rrp, rrt, rtp, rzk, rsp5, Bool.true_or, Bool.false_or, Bool.or_false, Bool.or_true]
  cases hp with
  | no hno =>
    refine ⟨_, hno, ?_⟩
    simp only [and_assoc, rst, rs, re, ra, rq, rx, ro, rl, rl2, rsp, rz, rix, rln, rg, rd, ri, rv, rk, rdd, rwi, at0, at1, at2, at3, upd_at, List.getElem?_cons_zero, List.getElem?_cons_succ, Option.some.injEq, exists_eq_left', exists_eq_left, List.set_cons_zero, List.set_cons_succ, true_and, and_true, HO.lst.injEq, HO.tup.injEq, exists_and_left, exists_eq, exists_eq', Br.t, Br.f, Be.t, Be.f, List.cons.injEq, List.append_nil, scal, if_true, if_false, ite_true, ite_false, eq_self_iff_true, decide_true, decide_false, Bool.not_true, Bool.not_false, reduceIte, List.nil_append, List.cons_append, reduceCtorEq, false_and, exists_false, false_or, or_false, Int.reduceLT, ral, rmd, rsq, rlu, rdp, rrp, rrt, rtp, rzk, rsp5, Bool.true_or, Bool.false_or, Bool.or_false, Bool.or_true]
    exact q _ fun _ _ e => e
  | @tup p ys hys ty hl =>
    refine ⟨_, (kindB hys rfl).2.2.2.2.2, ?_⟩
    simp only [and_assoc, rst, rs, re, ra, rq, rx, ro, rl, rl2, rsp, rz, rix, rln, rg, rd, ri, rv, rk, rdd, rwi, at0, at1, at2, at3, upd_at, List.getElem?_cons_zero, List.getElem?_cons_succ, Option.some.injEq, exists_eq_left', exists_eq_left, List.set_cons_zero, List.set_cons_succ, true_and, and_true, HO.lst.injEq, HO.tup.injEq, exists_and_left, exists_eq, exists_eq', Br.t, Br.f, Be.t, Be.f, List.cons.injEq, List.append_nil, scal, if_true, if_false, ite_true, ite_false, eq_self_iff_true, decide_true, decide_false, Bool.not_true, Bool.not_false, reduceIte, List.nil_append, List.cons_append, reduceCtorEq, false_and, exists_false, false_or, or_false, Int.reduceLT, ral, rmd, rsq, rlu, rdp, rrp, rrt, rtp, rzk, rsp5, Bool.true_or, Bool.false_or, Bool.or_false, Bool.or_true, hys]
    refine ⟨dx, _, ha, _, rfl, _, rfl, ?_⟩
    refine Br.d (fun c => ?_) fun c => ?_
    · simp only [and_assoc, rst, rs, re, ra, rq, rx, ro, rl, rl2, rsp, rz, rix, rln, rg, rd, ri, rv, rk, rdd, rwi, at0, at1, at2, at3, upd_at, List.getElem?_cons_zero, List.getElem?_cons_succ, Option.some.injEq, exists_eq_left', exists_eq_left, List.set_cons_zero, List.set_cons_succ, true_and, and_true, HO.lst.injEq, HO.tup.injEq, exists_and_left, exists_eq, exists_eq', Br.t, Br.f, Be.t, Be.f, List.cons.injEq, List.append_nil, scal, if_true, if_false, ite_true, ite_false, eq_self_iff_true, decide_true, decide_false, Bool.not_true, Bool.not_false, reduceIte, List.nil_append, List.cons_append, reduceCtorEq, false_and, exists_false, false_or, or_false, Int.reduceLT, ral, rmd, rsq, rlu, rdp, rrp, rrt, rtp, rzk, rsp5, Bool.true_or, Bool.false_or, Bool.or_false, Bool.or_true]
      rw [show decide (ys.length ≤ m.dp) = false from decide_eq_false (by omega), Bool.false_and] at q
      exact q _ fun _ _ e => e
    · simp only [and_assoc, rst, rs, re, ra, rq, rx, ro, rl, rl2, rsp, rz, rix, rln, rg, rd, ri, rv, rk, rdd, rwi, at0, at1, at2, at3, upd_at, List.getElem?_cons_zero, List.getElem?_cons_succ, Option.some.injEq, exists_eq_left', exists_eq_left, List.set_cons_zero, List.set_cons_succ, true_and, and_true, HO.lst.injEq, HO.tup.injEq, exists_and_left, exists_eq, exists_eq', Br.t, Br.f, Be.t, Be.f, List.cons.injEq, List.append_nil, scal, if_true, if_false, ite_true, ite_false, eq_self_iff_true, decide_true, decide_false, Bool.not_true, Bool.not_false, reduceIte, List.nil_append, List.cons_append, reduceCtorEq, false_and, exists_false, false_or, or_false, Int.reduceLT, ral, rmd, rsq, rlu, rdp, rrp, rrt, rtp, rzk, rsp5, Bool.true_or, Bool.false_or, Bool.or_false, Bool.or_true, hys]
      refine LC.seq (o := .tup ys) rfl (fun D i H' => Same H H' ∧ H' D = some (.lst (((ys.take i).map fun y => within y 0 (m.parts - 1)).map V.bl))) (fun D hD => ⟨Same.new hD, upd_same⟩) (fun D i H' _ _ ⟨s, _⟩ => s _ _ hys) ?_ ?_
      · rintro D i x H' hD hx ⟨s, hd⟩
        simp only [and_assoc, rst, rs, re, ra, rq, rx, ro, rl, rl2, rsp, rz, rix, rln, rg, rd, ri, rv, rk, rdd, rwi, at0, at1, at2, at3, upd_at, List.getElem?_cons_zero, List.getElem?_cons_succ, Option.some.injEq, exists_eq_left', exists_eq_left, List.set_cons_zero, List.set_cons_succ, true_and, and_true, HO.lst.injEq, HO.tup.injEq, exists_and_left, exists_eq, exists_eq', Br.t, Br.f, Be.t, Be.f, List.cons.injEq, List.append_nil, scal, if_true, if_false, ite_true, ite_false, eq_self_iff_true, decide_true, decide_false, Bool.not_true, Bool.not_false, reduceIte, List.nil_append, List.cons_append, reduceCtorEq, false_and, exists_false, false_or, or_false, Int.reduceLT, ral, rmd, rsq, rlu, rdp, rrp, rrt, rtp, rzk, rsp5, Bool.true_or, Bool.false_or, Bool.or_false, Bool.or_true]
        refine ⟨dx, _, s _ _ ha, rfl, _, rfl, m, hom.same s, hm, _, rfl, ?_⟩
        refine ⟨_, _, _, rfl, _, _, rfl, rfl, (ty x (List.mem_of_getElem? hx)).same s, _, hd, ?_, Same.mut s hD, ?_⟩
        · rw [List.length_map, List.length_map, List.length_take, sizeLine_eq]
          omega
        · rw [take_snoc hx, List.map_append, List.map_append]
          rfl
      · rintro D H' hD ⟨s, hd⟩
        refine ⟨D, rfl, _, SqL.of hd, ?_⟩
        rw [List.take_length, show decide (ys.length ≤ m.dp) = true from decide_eq_true (by omega), Bool.true_and] at *
        have e : ((ys.map fun y => within y 0 (m.parts - 1)).all id) = ys.all fun y => within y 0 (m.parts - 1) := by
          rw [List.all_map]
          rfl
        rw [e]
        exact q _ s
theorem four_at {a b c d : V} {n : Nat} {x : V} (h : [a, b, c, d][n]? = some x) : n = 0 ∧ x = a ∨ n = 1 ∧ x = b ∨ n = 2 ∧ x = c ∨ n = 3 ∧ x = d := by
  match n, h with
  | 0, h => exact .inl ⟨rfl, by cases h; rfl⟩
  | 1, h => exact .inr (.inl ⟨rfl, by cases h; rfl⟩)
  | 2, h => exact .inr (.inr (.inl ⟨rfl, by cases h; rfl⟩))
  | 3, h => exact .inr (.inr (.inr ⟨rfl, by cases h; rfl⟩))
  | n + 4, h => cases h
theorem ok_Machine_init (T : Tx K mg w) (c_is_within : Cal P w K mg base 2 "is_within" ["thing", "low", "high"] (sp_is_within K)) (c_Chain_init : CalM P w K mg base 5 "Chain" "__init__" ["self", "steps"] (sp_Chain_init K)) (c_NoMachine : Exn P w K mg base "NoMachine" "found") : CalM P w K mg base 7 "Machine" "__init__" ["self", "seed_bits", "part_bits", "depth", "place_bits", "steps"] (sp_Machine_init K) := by
  refine calM_mkD (q := "Machine.__init__") (by nofun) T.F_Machine_init T.cls_Machine T.M_Machine_init sc_Machine_init (len6 _) (fun _ _ _ _ _ _ _ us its hl hi => match us, its, hl, hi with | [_, _, _, _, _, _], [_], _, _ => ⟨_, rfl, rfl⟩) (fun cdv A outer s H vs Q E hr h => ?_)
  obtain ⟨v0, v1, v2, v3, v4, v5, rfl, h⟩ := h
  have hu := hu_of hr.r
  refine ⟨_, (pss_cons (ps_for (passes_of rfl) rfl (pi_zipK (by rfl) T.n_zip (pa_cons (pe_tupA (pa_cons (pv 1) (pa_cons (pv 2) (pa_cons (pv 3) (pa_cons (pv 4) pa_nil))))) (pa_cons (pe_glob (v := .ref (He.ga K "BOUNDS")) rfl T.g_BOUNDS rfl) pa_nil))) (pg_tup rfl (pgs_cons (pg_name (i := 6) sc_Machine_init.nd rfl (Or.inl rfl)) (pgs_cons (pg_tup rfl (pgs_cons (pg_name (i := 7) sc_Machine_init.nd rfl (Or.inl rfl)) (pgs_cons (pg_name (i := 8) sc_Machine_init.nd rfl (Or.inl rfl)) pgs_nil))) pgs_nil))) (pss_one (ps_if (pt_not (pt_val (pe_cal c_is_within hr (by decide) (passes_call (takes_of rfl rfl rfl rfl) fun _ _ _ _ h => h) rfl (pa_cons (pv 6) (pa_cons (pv 7) (pa_cons (pv 8) pa_nil)))))) (pss_one (ps_rs1 c_NoMachine rfl (takes_of rfl rfl rfl rfl) hr.r (by decide) rfl (pa_cons (pv 6) pa_nil))) pss_nil)))
      (pss_cons (ps_set (i := 9) sc_Machine_init.nd rfl (Or.inl rfl) (pe_op op_add (pe_op op_add (pv 1) (pe_op op_mulA (pv 2) (pv 3))) (pv 4)))
      (pss_cons (ps_if (pt_not (pt_chain op_le op_le (pe_gint rfl T.k_LEAST_WIDTH) (pv 9) (pe_gint rfl T.k_MOST_WIDTH))) (pss_one (ps_rs1 c_NoMachine rfl (takes_of rfl rfl rfl rfl) hr.r (by decide) rfl (pa_cons (pv 9) pa_nil))) pss_nil)
      (pss_cons (ps_fldC T.cls_Machine T.na_Machine_seed_bits (pv 0) (pv 1))
      (pss_cons (ps_fldC T.cls_Machine T.na_Machine_part_bits (pv 0) (pv 2))
      (pss_cons (ps_fldC T.cls_Machine T.na_Machine_depth (pv 0) (pv 3))
      (pss_cons (ps_fldC T.cls_Machine T.na_Machine_place_bits (pv 0) (pv 4))
      (pss_cons (ps_fldC T.cls_Machine T.na_Machine_width (pv 0) (pv 9))
      (pss_cons (ps_if (pt_cmpR op_isN (pv 5) pe_non (nomark _)) (pss_one (ps_set (i := 5) sc_Machine_init.nd rfl (Or.inl rfl) (pe_lstA pa_nil))) pss_nil)
      (pss_cons (ps_fldC T.cls_Machine T.na_Machine_row (pv 0) (pe_mk c_Chain_init T.mk_Chain T.g_Chain hr (by decide) (passes_call (takes_of rfl rfl rfl rfl) fun _ _ _ _ h => h) rfl (pa_cons (pv 5) pa_nil)))
      (pss_one (ps_fldC T.cls_Machine T.na_Machine_kept_steps (pv 0) (pe_callTy lst_al (by rfl) T.n_list (by decide +kernel) (pa_cons (pv 5) pa_nil)))))))))))))), ?_⟩
  obtain ⟨ad, m, q0, ss, xs, ⟨rfl, dx, ha⟩, hm, rfl, rfl, rfl, rfl, rfl, nq, hq, al, hl, q⟩ := h
  obtain ⟨o1, o2, o3, o4, o5, o6, o7, o8⟩ := id hm
  refine seqI fun rr hr => ?_
  simp only [and_assoc, rst, rs, re, ra, rq, rx, ro, rl, rl2, rsp, rz, rix, rln, rg, rd, ri, rv, rk, rdd, rwi, at0, at1, at2, at3, upd_at, List.getElem?_cons_zero, List.getElem?_cons_succ, Option.some.injEq, exists_eq_left', exists_eq_left, List.set_cons_zero, List.set_cons_succ, true_and, and_true, HO.lst.injEq, HO.tup.injEq, exists_and_left, exists_eq, exists_eq', Br.t, Br.f, Be.t, Be.f, List.cons.injEq, List.append_nil, scal, if_true, if_false, ite_true, ite_false, eq_self_iff_true, decide_true, decide_false, Bool.not_true, Bool.not_false, reduceIte, List.nil_append, List.cons_append, reduceCtorEq, false_and, exists_false, false_or, or_false, Int.reduceLT, ral, rmd, rsq, rlu, rdp, rrp, rrt, rtp, rzk, rsp5, Bool.true_or, Bool.false_or, Bool.or_false, Bool.or_true]
  intro tp H2 a2
  have ha2 := a2.k ha
  have hq2 := a2.k hq
  refine ⟨_, SqT.of a2.e, _, T.q_BOUNDS H2, ?_⟩
  refine FI.zipK (xs := [.int (m.sb : Nat), .int (m.pb : Nat), .int (m.dp : Nat), .int (m.lb : Nat)]) (ys := [V.ref (itAt K (He.ga K "BOUNDS") 0), V.ref (itAt K (He.ga K "BOUNDS") 1), V.ref (itAt K (He.ga K "BOUNDS") 2), V.ref (itAt K (He.ga K "BOUNDS") 3)]) rfl (fun i σ H' => ∃ v6 v7 v8, Same H2 H' ∧ σ = [some (.ref ad), some (.int (m.sb : Nat)), some (.int (m.pb : Nat)), some (.int (m.dp : Nat)), some (.int (m.lb : Nat)), some (.ref q0), v6, v7, v8, none]) ⟨none, none, none, fun _ _ e => e, rfl⟩ ?_ ?_ ?_
  · rintro i σ H' ⟨_, _, _, s, _⟩
    exact ⟨SqT.of (s _ _ a2.e), T.q_BOUNDS H'⟩
  · rintro n x y T' σ H' hx hy ⟨v6, v7, v8, s, rfl⟩ hT
    have key : ∃ lo hi z : Int, ∃ b : Addr, x = .int z ∧ y = .ref b ∧ (∀ Hx, SqT K Hx b [.int lo, .int hi]) ∧ lo ≤ z ∧ z ≤ hi := by
      rcases four_at hx with ⟨rfl, rfl⟩ | ⟨rfl, rfl⟩ | ⟨rfl, rfl⟩ | ⟨rfl, rfl⟩
      · cases hy
        exact ⟨_, _, _, _, rfl, rfl, T.q_BOUNDS_0, by omega, by omega⟩
      · cases hy
        exact ⟨_, _, _, _, rfl, rfl, T.q_BOUNDS_1, by omega, by omega⟩
      · cases hy
        exact ⟨_, _, _, _, rfl, rfl, T.q_BOUNDS_2, by omega, by omega⟩
      · cases hy
        exact ⟨_, _, _, _, rfl, rfl, T.q_BOUNDS_3, by omega, by omega⟩
    obtain ⟨lo, hi, z, b, rfl, rfl, hb, z0, z1⟩ := key
    have S3 := Same.trans s (Same.new (o := .tup [.int z, .ref b]) hT)
    refine ⟨T', _, rfl, SqT.of upd_same, rfl, _, _, rfl, _, _, rfl, ⟨b, _, rfl, hb _, rfl, _, _, rfl, _, _, rfl, rfl, ?_⟩⟩
    simp only [and_assoc, rst, rs, re, ra, rq, rx, ro, rl, rl2, rsp, rz, rix, rln, rg, rd, ri, rv, rk, rdd, rwi, at0, at1, at2, at3, upd_at, List.getElem?_cons_zero, List.getElem?_cons_succ, Option.some.injEq, exists_eq_left', exists_eq_left, List.set_cons_zero, List.set_cons_succ, true_and, and_true, HO.lst.injEq, HO.tup.injEq, exists_and_left, exists_eq, exists_eq', Br.t, Br.f, Be.t, Be.f, List.cons.injEq, List.append_nil, scal, if_true, if_false, ite_true, ite_false, eq_self_iff_true, decide_true, decide_false, Bool.not_true, Bool.not_false, reduceIte, List.nil_append, List.cons_append, reduceCtorEq, false_and, exists_false, false_or, or_false, Int.reduceLT, ral, rmd, rsq, rlu, rdp, rrp, rrt, rtp, rzk, rsp5, Bool.true_or, Bool.false_or, Bool.or_false, Bool.or_true]
    refine ⟨_, _, _, rfl, lo, hi, rfl, rfl, ⟨_, rfl⟩, ?_⟩
    simp only [and_assoc, rst, rs, re, ra, rq, rx, ro, rl, rl2, rsp, rz, rix, rln, rg, rd, ri, rv, rk, rdd, rwi, at0, at1, at2, at3, upd_at, List.getElem?_cons_zero, List.getElem?_cons_succ, Option.some.injEq, exists_eq_left', exists_eq_left, List.set_cons_zero, List.set_cons_succ, true_and, and_true, HO.lst.injEq, HO.tup.injEq, exists_and_left, exists_eq, exists_eq', Br.t, Br.f, Be.t, Be.f, List.cons.injEq, List.append_nil, scal, if_true, if_false, ite_true, ite_false, eq_self_iff_true, decide_true, decide_false, Bool.not_true, Bool.not_false, reduceIte, List.nil_append, List.cons_append, reduceCtorEq, false_and, exists_false, false_or, or_false, Int.reduceLT, ral, rmd, rsq, rlu, rdp, rrp, rrt, rtp, rzk, rsp5, Bool.true_or, Bool.false_or, Bool.or_false, Bool.or_true, within_of z0 z1]
    exact S3
  · rintro σ H' ⟨v6, v7, v8, s, rfl⟩
    subst hr
    dsimp only
    have ha3 := s _ _ ha2
    have hq3 := s _ _ hq2
    refine seqI fun rr hr => ?_
    simp only [and_assoc, rst, rs, re, ra, rq, rx, ro, rl, rl2, rsp, rz, rix, rln, rg, rd, ri, rv, rk, rdd, rwi, at0, at1, at2, at3, upd_at, List.getElem?_cons_zero, List.getElem?_cons_succ, Option.some.injEq, exists_eq_left', exists_eq_left, List.set_cons_zero, List.set_cons_succ, true_and, and_true, HO.lst.injEq, HO.tup.injEq, exists_and_left, exists_eq, exists_eq', Br.t, Br.f, Be.t, Be.f, List.cons.injEq, List.append_nil, scal, if_true, if_false, ite_true, ite_false, eq_self_iff_true, decide_true, decide_false, Bool.not_true, Bool.not_false, reduceIte, List.nil_append, List.cons_append, reduceCtorEq, false_and, exists_false, false_or, or_false, Int.reduceLT, ral, rmd, rsq, rlu, rdp, rrp, rrt, rtp, rzk, rsp5, Bool.true_or, Bool.false_or, Bool.or_false, Bool.or_true]
    refine ⟨small_mul (by omega) (by omega), ?_⟩
    have ew : (m.sb : Int) + (m.pb : Int) * (m.dp : Int) + (m.lb : Int) = ((m.wd : Nat) : Int) := by
      unfold Mc.wd
      simp
    rw [ew]
    subst hr
    refine seqI fun rr hr => ?_
    simp only [and_assoc, rst, rs, re, ra, rq, rx, ro, rl, rl2, rsp, rz, rix, rln, rg, rd, ri, rv, rk, rdd, rwi, at0, at1, at2, at3, upd_at, List.getElem?_cons_zero, List.getElem?_cons_succ, Option.some.injEq, exists_eq_left', exists_eq_left, List.set_cons_zero, List.set_cons_succ, true_and, and_true, HO.lst.injEq, HO.tup.injEq, exists_and_left, exists_eq, exists_eq', Br.t, Br.f, Be.t, Be.f, List.cons.injEq, List.append_nil, scal, if_true, if_false, ite_true, ite_false, eq_self_iff_true, decide_true, decide_false, Bool.not_true, Bool.not_false, reduceIte, List.nil_append, List.cons_append, reduceCtorEq, false_and, exists_false, false_or, or_false, Int.reduceLT, ral, rmd, rsq, rlu, rdp, rrp, rrt, rtp, rzk, rsp5, Bool.true_or, Bool.false_or, Bool.or_false, Bool.or_true]
    refine Be.d (fun _ => ?_) fun c => absurd (by omega) c
    refine Br.n (fun c => absurd (by omega) c) fun _ => ?_
    simp only [and_assoc, rst, rs, re, ra, rq, rx, ro, rl, rl2, rsp, rz, rix, rln, rg, rd, ri, rv, rk, rdd, rwi, at0, at1, at2, at3, upd_at, List.getElem?_cons_zero, List.getElem?_cons_succ, Option.some.injEq, exists_eq_left', exists_eq_left, List.set_cons_zero, List.set_cons_succ, true_and, and_true, HO.lst.injEq, HO.tup.injEq, exists_and_left, exists_eq, exists_eq', Br.t, Br.f, Be.t, Be.f, List.cons.injEq, List.append_nil, scal, if_true, if_false, ite_true, ite_false, eq_self_iff_true, decide_true, decide_false, Bool.not_true, Bool.not_false, reduceIte, List.nil_append, List.cons_append, reduceCtorEq, false_and, exists_false, false_or, or_false, Int.reduceLT, ral, rmd, rsq, rlu, rdp, rrp, rrt, rtp, rzk, rsp5, Bool.true_or, Bool.false_or, Bool.or_false, Bool.or_true]
    subst hr
    refine seqI fun rr hr => ?_
    simp only [and_assoc, rst, rs, re, ra, rq, rx, ro, rl, rl2, rsp, rz, rix, rln, rg, rd, ri, rv, rk, rdd, rwi, at0, at1, at2, at3, upd_at, List.getElem?_cons_zero, List.getElem?_cons_succ, Option.some.injEq, exists_eq_left', exists_eq_left, List.set_cons_zero, List.set_cons_succ, true_and, and_true, HO.lst.injEq, HO.tup.injEq, exists_and_left, exists_eq, exists_eq', Br.t, Br.f, Be.t, Be.f, List.cons.injEq, List.append_nil, scal, if_true, if_false, ite_true, ite_false, eq_self_iff_true, decide_true, decide_false, Bool.not_true, Bool.not_false, reduceIte, List.nil_append, List.cons_append, reduceCtorEq, false_and, exists_false, false_or, or_false, Int.reduceLT, ral, rmd, rsq, rlu, rdp, rrp, rrt, rtp, rzk, rsp5, Bool.true_or, Bool.false_or, Bool.or_false, Bool.or_true]
    refine ⟨dx, _, ha3, by decide, ?_⟩
    subst hr
    refine seqI fun rr hr => ?_
    simp only [and_assoc, rst, rs, re, ra, rq, rx, ro, rl, rl2, rsp, rz, rix, rln, rg, rd, ri, rv, rk, rdd, rwi, at0, at1, at2, at3, upd_at, List.getElem?_cons_zero, List.getElem?_cons_succ, Option.some.injEq, exists_eq_left', exists_eq_left, List.set_cons_zero, List.set_cons_succ, true_and, and_true, HO.lst.injEq, HO.tup.injEq, exists_and_left, exists_eq, exists_eq', Br.t, Br.f, Be.t, Be.f, List.cons.injEq, List.append_nil, scal, if_true, if_false, ite_true, ite_false, eq_self_iff_true, decide_true, decide_false, Bool.not_true, Bool.not_false, reduceIte, List.nil_append, List.cons_append, reduceCtorEq, false_and, exists_false, false_or, or_false, Int.reduceLT, ral, rmd, rsq, rlu, rdp, rrp, rrt, rtp, rzk, rsp5, Bool.true_or, Bool.false_or, Bool.or_false, Bool.or_true]
    refine ⟨_, _, rfl, by show 1 < 1000; decide, ?_⟩
    subst hr
    refine seqI fun rr hr => ?_
    simp only [and_assoc, rst, rs, re, ra, rq, rx, ro, rl, rl2, rsp, rz, rix, rln, rg, rd, ri, rv, rk, rdd, rwi, at0, at1, at2, at3, upd_at, List.getElem?_cons_zero, List.getElem?_cons_succ, Option.some.injEq, exists_eq_left', exists_eq_left, List.set_cons_zero, List.set_cons_succ, true_and, and_true, HO.lst.injEq, HO.tup.injEq, exists_and_left, exists_eq, exists_eq', Br.t, Br.f, Be.t, Be.f, List.cons.injEq, List.append_nil, scal, if_true, if_false, ite_true, ite_false, eq_self_iff_true, decide_true, decide_false, Bool.not_true, Bool.not_false, reduceIte, List.nil_append, List.cons_append, reduceCtorEq, false_and, exists_false, false_or, or_false, Int.reduceLT, ral, rmd, rsq, rlu, rdp, rrp, rrt, rtp, rzk, rsp5, Bool.true_or, Bool.false_or, Bool.or_false, Bool.or_true]
    refine ⟨_, _, rfl, by show 2 < 1000; decide, ?_⟩
    subst hr
    refine seqI fun rr hr => ?_
    simp only [and_assoc, rst, rs, re, ra, rq, rx, ro, rl, rl2, rsp, rz, rix, rln, rg, rd, ri, rv, rk, rdd, rwi, at0, at1, at2, at3, upd_at, List.getElem?_cons_zero, List.getElem?_cons_succ, Option.some.injEq, exists_eq_left', exists_eq_left, List.set_cons_zero, List.set_cons_succ, true_and, and_true, HO.lst.injEq, HO.tup.injEq, exists_and_left, exists_eq, exists_eq', Br.t, Br.f, Be.t, Be.f, List.cons.injEq, List.append_nil, scal, if_true, if_false, ite_true, ite_false, eq_self_iff_true, decide_true, decide_false, Bool.not_true, Bool.not_false, reduceIte, List.nil_append, List.cons_append, reduceCtorEq, false_and, exists_false, false_or, or_false, Int.reduceLT, ral, rmd, rsq, rlu, rdp, rrp, rrt, rtp, rzk, rsp5, Bool.true_or, Bool.false_or, Bool.or_false, Bool.or_true]
    refine ⟨_, _, rfl, by show 3 < 1000; decide, ?_⟩
    subst hr
    refine seqI fun rr hr => ?_
    simp only [and_assoc, rst, rs, re, ra, rq, rx, ro, rl, rl2, rsp, rz, rix, rln, rg, rd, ri, rv, rk, rdd, rwi, at0, at1, at2, at3, upd_at, List.getElem?_cons_zero, List.getElem?_cons_succ, Option.some.injEq, exists_eq_left', exists_eq_left, List.set_cons_zero, List.set_cons_succ, true_and, and_true, HO.lst.injEq, HO.tup.injEq, exists_and_left, exists_eq, exists_eq', Br.t, Br.f, Be.t, Be.f, List.cons.injEq, List.append_nil, scal, if_true, if_false, ite_true, ite_false, eq_self_iff_true, decide_true, decide_false, Bool.not_true, Bool.not_false, reduceIte, List.nil_append, List.cons_append, reduceCtorEq, false_and, exists_false, false_or, or_false, Int.reduceLT, ral, rmd, rsq, rlu, rdp, rrp, rrt, rtp, rzk, rsp5, Bool.true_or, Bool.false_or, Bool.or_false, Bool.or_true]
    refine ⟨_, _, rfl, by show 4 < 1000; decide, ?_⟩
    simp only [L2.upd_upd]
    have k1 : ∀ b o, b ≠ ad → H b = some o → upd H' ad (.ins (He.ga K "Machine") dx (putF "width" (.int (m.wd : Nat)) (putF "place_bits" (.int (m.lb : Nat)) (putF "depth" (.int (m.dp : Nat)) (putF "part_bits" (.int (m.pb : Nat)) (putF "seed_bits" (.int (m.sb : Nat)) [])))))) b = some o := fun b o n e => by rw [upd_ne n]; exact s _ _ (a2.k e)
    have k2 : Same (away ad H) (upd H' ad (.ins (He.ga K "Machine") dx (putF "width" (.int (m.wd : Nat)) (putF "place_bits" (.int (m.lb : Nat)) (putF "depth" (.int (m.dp : Nat)) (putF "part_bits" (.int (m.pb : Nat)) (putF "seed_bits" (.int (m.sb : Nat)) []))))))) := fun b o e => k1 b o (away_ne e) (away_same _ _ e)
    have ha4 : upd H' ad (.ins (He.ga K "Machine") dx (putF "width" (.int (m.wd : Nat)) (putF "place_bits" (.int (m.lb : Nat)) (putF "depth" (.int (m.dp : Nat)) (putF "part_bits" (.int (m.pb : Nat)) (putF "seed_bits" (.int (m.sb : Nat)) [])))))) ad = some (.ins (He.ga K "Machine") dx [("seed_bits", .int (m.sb : Nat)), ("part_bits", .int (m.pb : Nat)), ("depth", .int (m.dp : Nat)), ("place_bits", .int (m.lb : Nat)), ("width", .int (m.wd : Nat))]) := by
      rw [upd_same]
      rfl
    generalize upd H' ad _ = H4 at k1 k2 ha4 ⊢
    subst hr
    refine seqJ (fun σ' G => G = H4 ∧ σ' = [some (.ref ad), some (.int (m.sb : Nat)), some (.int (m.pb : Nat)), some (.int (m.dp : Nat)), some (.int (m.lb : Nat)), some (.ref q0), v6, v7, v8, some (.int (m.wd : Nat))]) ?_ ?_
    · rintro σ' G ⟨rfl, rfl⟩
      refine seqI fun rr hr => ?_
      simp only [and_assoc, rst, rs, re, ra, rq, rx, ro, rl, rl2, rsp, rz, rix, rln, rg, rd, ri, rv, rk, rdd, rwi, at0, at1, at2, at3, upd_at, List.getElem?_cons_zero, List.getElem?_cons_succ, Option.some.injEq, exists_eq_left', exists_eq_left, List.set_cons_zero, List.set_cons_succ, true_and, and_true, HO.lst.injEq, HO.tup.injEq, exists_and_left, exists_eq, exists_eq', Br.t, Br.f, Be.t, Be.f, List.cons.injEq, List.append_nil, scal, if_true, if_false, ite_true, ite_false, eq_self_iff_true, decide_true, decide_false, Bool.not_true, Bool.not_false, reduceIte, List.nil_append, List.cons_append, reduceCtorEq, false_and, exists_false, false_or, or_false, Int.reduceLT, ral, rmd, rsq, rlu, rdp, rrp, rrt, rtp, rzk, rsp5, Bool.true_or, Bool.false_or, Bool.or_false, Bool.or_true]
      intro cx cd hcx hcd nd
      have nxa : cx ≠ ad := fun e => by rw [e, ha4] at hcx; cases hcx
      have nda : cd ≠ ad := fun e => by rw [e, ha4] at hcd; cases hcd
      have hq4 := k1 _ _ nq hq
      have nqx : q0 ≠ cx := fun e => by rw [← e, hq4] at hcx; cases hcx
      have nqd : q0 ≠ cd := fun e => by rw [← e, hq4] at hcd; cases hcd
      refine ⟨_, _, rfl, cx, q0, ss, xs, ⟨rfl, cd, upd_same⟩, rfl, nqx, by rw [upd_ne nqx, upd_ne nqd]; exact hq4, All2.imp (fun _ _ o => o.same (Same.trans k2 (mkA hcx hcd))) al, hl, fun H5 dc q' k nq' fq' hc5 hq5 => ⟨rfl, ?_⟩⟩
      have s5 : Same G H5 := mkS hcx hcd k
      refine ⟨_, _, s5 _ _ ha4, by simp, ?_⟩
      subst hr
      simp only [and_assoc, rst, rs, re, ra, rq, rx, ro, rl, rl2, rsp, rz, rix, rln, rg, rd, ri, rv, rk, rdd, rwi, at0, at1, at2, at3, upd_at, List.getElem?_cons_zero, List.getElem?_cons_succ, Option.some.injEq, exists_eq_left', exists_eq_left, List.set_cons_zero, List.set_cons_succ, true_and, and_true, HO.lst.injEq, HO.tup.injEq, exists_and_left, exists_eq, exists_eq', Br.t, Br.f, Be.t, Be.f, List.cons.injEq, List.append_nil, scal, if_true, if_false, ite_true, ite_false, eq_self_iff_true, decide_true, decide_false, Bool.not_true, Bool.not_false, reduceIte, List.nil_append, List.cons_append, reduceCtorEq, false_and, exists_false, false_or, or_false, Int.reduceLT, ral, rmd, rsq, rlu, rdp, rrp, rrt, rtp, rzk, rsp5, Bool.true_or, Bool.false_or, Bool.or_false, Bool.or_true, nq]
      refine ⟨_, s5 _ _ hq4, _, rfl, fun l H6 a6 => ⟨_, _, a6.k upd_same, by show 6 < 1000; decide, ?_⟩⟩
      refine q _ (fun b o n e => ?_) ⟨ad, dx, .ref cx, .ref l, rfl, by rw [upd_same]; rfl⟩
      rw [upd_ne n]
      exact a6.k (by rw [upd_ne n]; exact s5 _ _ (k1 b o n e))
    · intro rr hr
      simp only [and_assoc, rst, rs, re, ra, rq, rx, ro, rl, rl2, rsp, rz, rix, rln, rg, rd, ri, rv, rk, rdd, rwi, at0, at1, at2, at3, upd_at, List.getElem?_cons_zero, List.getElem?_cons_succ, Option.some.injEq, exists_eq_left', exists_eq_left, List.set_cons_zero, List.set_cons_succ, true_and, and_true, HO.lst.injEq, HO.tup.injEq, exists_and_left, exists_eq, exists_eq', Br.t, Br.f, Be.t, Be.f, List.cons.injEq, List.append_nil, scal, if_true, if_false, ite_true, ite_false, eq_self_iff_true, decide_true, decide_false, Bool.not_true, Bool.not_false, reduceIte, List.nil_append, List.cons_append, reduceCtorEq, false_and, exists_false, false_or, or_false, Int.reduceLT, ral, rmd, rsq, rlu, rdp, rrp, rrt, rtp, rzk, rsp5, Bool.true_or, Bool.false_or, Bool.or_false, Bool.or_true]
      exact hr _ _ ⟨rfl, rfl⟩
end
end Law

-- RDX ral, rmd, rsq, rlu, rdp, rrp, rrt, rtp, rzk, rsp5, Bool.true_or, Bool.false_or, Bool.or_false, Bool.or_true
set_option pp.deepTerms true
set_option pp.maxSteps 100000
namespace Law
open PySem PySem.Spec PyProof.Rows L2 Sw
section
variable {P : Program} {w : World} {K : Fg} {mg : Str → Option Value} {base : Heap}
theorem ok_is_part (T : Tx K mg w) (c_is_within : Cal P w K mg base 2 "is_within" ["thing", "low", "high"] (sp_is_within K)) (c_Machine_seeds : CalM P w K mg base 1 "Machine" "seeds" ["self"] (sp_Machine_seeds K)) (c_Machine_is_path : CalM P w K mg base 3 "Machine" "is_path" ["self", "thing"] (sp_Machine_is_path K)) (c_Machine_length : CalM P w K mg base 1 "Machine" "length" ["self"] (sp_Machine_length K))  : Cal P w K mg base 4 "is_part" ["machine", "thing"] (sp_is_part K) := by
  refine cal_mk T.F_is_part T.g_is_part sc_is_part (len2 _) (fun _ _ _ _ _ _ us hl => match us, hl with | [_, _], _ => rfl) (fun cdv A outer s H vs Q E hr h => ?_)
  obtain ⟨v0, v1, rfl, h⟩ := h
  have hu := hu_of hr.r
  refine ⟨_, (pss_cons (ps_if (PW.pt (pw_or (pt_not (pt_val (pe_callB is_q (by rfl) T.n_isinstance (by decide +kernel) (pa_cons (pv 1) (pa_cons (pe_bltn (v := .ty "tuple") (by rfl) T.n_tuple (by decide +kernel) rfl) pa_nil))))) (pw_or1 (pt_cmpR op_ne (pe_callB len_q (by rfl) T.n_len (by decide +kernel) (pa_cons (pv 1) pa_nil)) pe_int (nomark _))))) (pss_one (ps_ret pe_bl)) pss_nil)
      (pss_cons (ps_if (PW.pt (pw_or (pt_not (pt_val (pe_cal c_is_within hr (by decide) passL rfl (pa_cons (pe_ix ix_q (pv 1) pe_int (fun _ _ => rfl)) (pa_cons pe_int (pa_cons (pe_op op_sub (pe_mth0 c_Machine_seeds hr (by decide) passL (pv 0)) pe_int) pa_nil)))))) (pw_or1 (pt_not (pt_val (pe_mth c_Machine_is_path hr (by decide) passL (pv 0) (pa_cons (pe_ix ix_q (pv 1) pe_int (fun _ _ => rfl)) pa_nil))))))) (pss_one (ps_ret pe_bl)) pss_nil)
      (pss_cons (ps_if (pt_not (pt_val (pe_cal c_is_within hr (by decide) passL rfl (pa_cons (pe_ix ix_q (pv 1) pe_int (fun _ _ => rfl)) (pa_cons pe_int (pa_cons (pe_mth0 c_Machine_length hr (by decide) passL (pv 0)) pa_nil)))))) (pss_one (ps_ret pe_bl)) pss_nil)
      (pss_one (ps_ret (pe_cal c_is_within hr (by decide) passL rfl (pa_cons (pe_ix ix_q (pv 1) pe_int (fun _ _ => rfl)) (pa_cons pe_int (pa_cons (pe_op op_sub (pe_mth0 c_Machine_length hr (by decide) passL (pv 0)) (pe_ix ix_q (pv 1) pe_int (fun _ _ => rfl))) pa_nil))))))))), ?_⟩
  obtain ⟨m, r, om, hm, hp, q⟩ := h
  obtain ⟨ma, mdx, mx, my, rfl, hma⟩ := id om
  cases hp with
  | no hno =>
    simp only [and_assoc, rst, rs, re, ra, rq, rx, ro, rl, rl2, rsp, rz, rix, rln, rg, rd, ri, rv, rk, rdd, rwi, at0, at1, at2, at3, upd_at, List.getElem?_cons_zero, List.getElem?_cons_succ, Option.some.injEq, exists_eq_left', exists_eq_left, List.set_cons_zero, List.set_cons_succ, true_and, and_true, HO.lst.injEq, HO.tup.injEq, exists_and_left, exists_eq, exists_eq', Br.t, Br.f, Be.t, Be.f, List.cons.injEq, List.append_nil, scal, if_true, if_false, ite_true, ite_false, eq_self_iff_true, decide_true, decide_false, Bool.not_true, Bool.not_false, reduceIte, List.nil_append, List.cons_append, reduceCtorEq, false_and, exists_false, false_or, or_false, Int.reduceLT, ral, rmd, rsq, rlu, rdp, rrp, rrt, rtp, rzk, rsp5, Bool.true_or, Bool.false_or, Bool.or_false, Bool.or_true]
    refine ⟨_, hno, ?_⟩
    simp only [and_assoc, rst, rs, re, ra, rq, rx, ro, rl, rl2, rsp, rz, rix, rln, rg, rd, ri, rv, rk, rdd, rwi, at0, at1, at2, at3, upd_at, List.getElem?_cons_zero, List.getElem?_cons_succ, Option.some.injEq, exists_eq_left', exists_eq_left, List.set_cons_zero, List.set_cons_succ, true_and, and_true, HO.lst.injEq, HO.tup.injEq, exists_and_left, exists_eq, exists_eq', Br.t, Br.f, Be.t, Be.f, List.cons.injEq, List.append_nil, scal, if_true, if_false, ite_true, ite_false, eq_self_iff_true, decide_true, decide_false, Bool.not_true, Bool.not_false, reduceIte, List.nil_append, List.cons_append, reduceCtorEq, false_and, exists_false, false_or, or_false, Int.reduceLT, ral, rmd, rsq, rlu, rdp, rrp, rrt, rtp, rzk, rsp5, Bool.true_or, Bool.false_or, Bool.or_false, Bool.or_true]
    exact q _ fun _ _ e => e
  | @len p xs hx hl =>
    simp only [and_assoc, rst, rs, re, ra, rq, rx, ro, rl, rl2, rsp, rz, rix, rln, rg, rd, ri, rv, rk, rdd, rwi, at0, at1, at2, at3, upd_at, List.getElem?_cons_zero, List.getElem?_cons_succ, Option.some.injEq, exists_eq_left', exists_eq_left, List.set_cons_zero, List.set_cons_succ, true_and, and_true, HO.lst.injEq, HO.tup.injEq, exists_and_left, exists_eq, exists_eq', Br.t, Br.f, Be.t, Be.f, List.cons.injEq, List.append_nil, scal, if_true, if_false, ite_true, ite_false, eq_self_iff_true, decide_true, decide_false, Bool.not_true, Bool.not_false, reduceIte, List.nil_append, List.cons_append, reduceCtorEq, false_and, exists_false, false_or, or_false, Int.reduceLT, ral, rmd, rsq, rlu, rdp, rrp, rrt, rtp, rzk, rsp5, Bool.true_or, Bool.false_or, Bool.or_false, Bool.or_true]
    refine ⟨_, (kindB hx rfl).2.2.2.2.2, ?_⟩
    simp only [and_assoc, rst, rs, re, ra, rq, rx, ro, rl, rl2, rsp, rz, rix, rln, rg, rd, ri, rv, rk, rdd, rwi, at0, at1, at2, at3, upd_at, List.getElem?_cons_zero, List.getElem?_cons_succ, Option.some.injEq, exists_eq_left', exists_eq_left, List.set_cons_zero, List.set_cons_succ, true_and, and_true, HO.lst.injEq, HO.tup.injEq, exists_and_left, exists_eq, exists_eq', Br.t, Br.f, Be.t, Be.f, List.cons.injEq, List.append_nil, scal, if_true, if_false, ite_true, ite_false, eq_self_iff_true, decide_true, decide_false, Bool.not_true, Bool.not_false, reduceIte, List.nil_append, List.cons_append, reduceCtorEq, false_and, exists_false, false_or, or_false, Int.reduceLT, ral, rmd, rsq, rlu, rdp, rrp, rrt, rtp, rzk, rsp5, Bool.true_or, Bool.false_or, Bool.or_false, Bool.or_true, hx]
    refine Br.n (fun _ => ?_) fun c => absurd c (by omega)
    simp only [and_assoc, rst, rs, re, ra, rq, rx, ro, rl, rl2, rsp, rz, rix, rln, rg, rd, ri, rv, rk, rdd, rwi, at0, at1, at2, at3, upd_at, List.getElem?_cons_zero, List.getElem?_cons_succ, Option.some.injEq, exists_eq_left', exists_eq_left, List.set_cons_zero, List.set_cons_succ, true_and, and_true, HO.lst.injEq, HO.tup.injEq, exists_and_left, exists_eq, exists_eq', Br.t, Br.f, Be.t, Be.f, List.cons.injEq, List.append_nil, scal, if_true, if_false, ite_true, ite_false, eq_self_iff_true, decide_true, decide_false, Bool.not_true, Bool.not_false, reduceIte, List.nil_append, List.cons_append, reduceCtorEq, false_and, exists_false, false_or, or_false, Int.reduceLT, ral, rmd, rsq, rlu, rdp, rrp, rrt, rtp, rzk, rsp5, Bool.true_or, Bool.false_or, Bool.or_false, Bool.or_true]
    exact q _ fun _ _ e => e
  | @four p a b c d r hx ta tc td hr' =>
    simp only [and_assoc, rst, rs, re, ra, rq, rx, ro, rl, rl2, rsp, rz, rix, rln, rg, rd, ri, rv, rk, rdd, rwi, at0, at1, at2, at3, upd_at, List.getElem?_cons_zero, List.getElem?_cons_succ, Option.some.injEq, exists_eq_left', exists_eq_left, List.set_cons_zero, List.set_cons_succ, true_and, and_true, HO.lst.injEq, HO.tup.injEq, exists_and_left, exists_eq, exists_eq', Br.t, Br.f, Be.t, Be.f, List.cons.injEq, List.append_nil, scal, if_true, if_false, ite_true, ite_false, eq_self_iff_true, decide_true, decide_false, Bool.not_true, Bool.not_false, reduceIte, List.nil_append, List.cons_append, reduceCtorEq, false_and, exists_false, false_or, or_false, Int.reduceLT, ral, rmd, rsq, rlu, rdp, rrp, rrt, rtp, rzk, rsp5, Bool.true_or, Bool.false_or, Bool.or_false, Bool.or_true]
    refine ⟨_, (kindB hx rfl).2.2.2.2.2, ?_⟩
    simp only [and_assoc, rst, rs, re, ra, rq, rx, ro, rl, rl2, rsp, rz, rix, rln, rg, rd, ri, rv, rk, rdd, rwi, at0, at1, at2, at3, upd_at, List.getElem?_cons_zero, List.getElem?_cons_succ, Option.some.injEq, exists_eq_left', exists_eq_left, List.set_cons_zero, List.set_cons_succ, true_and, and_true, HO.lst.injEq, HO.tup.injEq, exists_and_left, exists_eq, exists_eq', Br.t, Br.f, Be.t, Be.f, List.cons.injEq, List.append_nil, scal, if_true, if_false, ite_true, ite_false, eq_self_iff_true, decide_true, decide_false, Bool.not_true, Bool.not_false, reduceIte, List.nil_append, List.cons_append, reduceCtorEq, false_and, exists_false, false_or, or_false, Int.reduceLT, ral, rmd, rsq, rlu, rdp, rrp, rrt, rtp, rzk, rsp5, Bool.true_or, Bool.false_or, Bool.or_false, Bool.or_true, hx]
    refine Br.n (fun c => absurd rfl c) fun _ => ?_
    simp only [and_assoc, rst, rs, re, ra, rq, rx, ro, rl, rl2, rsp, rz, rix, rln, rg, rd, ri, rv, rk, rdd, rwi, at0, at1, at2, at3, upd_at, List.getElem?_cons_zero, List.getElem?_cons_succ, Option.some.injEq, exists_eq_left', exists_eq_left, List.set_cons_zero, List.set_cons_succ, true_and, and_true, HO.lst.injEq, HO.tup.injEq, exists_and_left, exists_eq, exists_eq', Br.t, Br.f, Be.t, Be.f, List.cons.injEq, List.append_nil, scal, if_true, if_false, ite_true, ite_false, eq_self_iff_true, decide_true, decide_false, Bool.not_true, Bool.not_false, reduceIte, List.nil_append, List.cons_append, reduceCtorEq, false_and, exists_false, false_or, or_false, Int.reduceLT, ral, rmd, rsq, rlu, rdp, rrp, rrt, rtp, rzk, rsp5, Bool.true_or, Bool.false_or, Bool.or_false, Bool.or_true, hx]
    refine ⟨mdx, _, hma, rfl, _, rfl, m, om, hm, _, rfl, ?_⟩
    refine ⟨_, _, _, rfl, _, _, rfl, rfl, ta, ?_⟩
    cases hw : within a 0 (m.seeds - 1) with
    | false =>
      rw [hw, Bool.false_and] at q
      simp only [and_assoc, rst, rs, re, ra, rq, rx, ro, rl, rl2, rsp, rz, rix, rln, rg, rd, ri, rv, rk, rdd, rwi, at0, at1, at2, at3, upd_at, List.getElem?_cons_zero, List.getElem?_cons_succ, Option.some.injEq, exists_eq_left', exists_eq_left, List.set_cons_zero, List.set_cons_succ, true_and, and_true, HO.lst.injEq, HO.tup.injEq, exists_and_left, exists_eq, exists_eq', Br.t, Br.f, Be.t, Be.f, List.cons.injEq, List.append_nil, scal, if_true, if_false, ite_true, ite_false, eq_self_iff_true, decide_true, decide_false, Bool.not_true, Bool.not_false, reduceIte, List.nil_append, List.cons_append, reduceCtorEq, false_and, exists_false, false_or, or_false, Int.reduceLT, ral, rmd, rsq, rlu, rdp, rrp, rrt, rtp, rzk, rsp5, Bool.true_or, Bool.false_or, Bool.or_false, Bool.or_true, hw]
      exact q _ fun _ _ e => e
    | true =>
      rw [hw, Bool.true_and] at q
      simp only [and_assoc, rst, rs, re, ra, rq, rx, ro, rl, rl2, rsp, rz, rix, rln, rg, rd, ri, rv, rk, rdd, rwi, at0, at1, at2, at3, upd_at, List.getElem?_cons_zero, List.getElem?_cons_succ, Option.some.injEq, exists_eq_left', exists_eq_left, List.set_cons_zero, List.set_cons_succ, true_and, and_true, HO.lst.injEq, HO.tup.injEq, exists_and_left, exists_eq, exists_eq', Br.t, Br.f, Be.t, Be.f, List.cons.injEq, List.append_nil, scal, if_true, if_false, ite_true, ite_false, eq_self_iff_true, decide_true, decide_false, Bool.not_true, Bool.not_false, reduceIte, List.nil_append, List.cons_append, reduceCtorEq, false_and, exists_false, false_or, or_false, Int.reduceLT, ral, rmd, rsq, rlu, rdp, rrp, rrt, rtp, rzk, rsp5, Bool.true_or, Bool.false_or, Bool.or_false, Bool.or_true, hw, hx]
      refine ⟨mdx, _, hma, rfl, ?_⟩
      refine ⟨_, _, rfl, m, r, om, hm, hr', fun H1 s1 => ?_⟩
      cases r with
      | false =>
        rw [Bool.false_and] at q
        simp only [and_assoc, rst, rs, re, ra, rq, rx, ro, rl, rl2, rsp, rz, rix, rln, rg, rd, ri, rv, rk, rdd, rwi, at0, at1, at2, at3, upd_at, List.getElem?_cons_zero, List.getElem?_cons_succ, Option.some.injEq, exists_eq_left', exists_eq_left, List.set_cons_zero, List.set_cons_succ, true_and, and_true, HO.lst.injEq, HO.tup.injEq, exists_and_left, exists_eq, exists_eq', Br.t, Br.f, Be.t, Be.f, List.cons.injEq, List.append_nil, scal, if_true, if_false, ite_true, ite_false, eq_self_iff_true, decide_true, decide_false, Bool.not_true, Bool.not_false, reduceIte, List.nil_append, List.cons_append, reduceCtorEq, false_and, exists_false, false_or, or_false, Int.reduceLT, ral, rmd, rsq, rlu, rdp, rrp, rrt, rtp, rzk, rsp5, Bool.true_or, Bool.false_or, Bool.or_false, Bool.or_true]
        exact q _ s1
      | true =>
        rw [Bool.true_and] at q
        simp only [and_assoc, rst, rs, re, ra, rq, rx, ro, rl, rl2, rsp, rz, rix, rln, rg, rd, ri, rv, rk, rdd, rwi, at0, at1, at2, at3, upd_at, List.getElem?_cons_zero, List.getElem?_cons_succ, Option.some.injEq, exists_eq_left', exists_eq_left, List.set_cons_zero, List.set_cons_succ, true_and, and_true, HO.lst.injEq, HO.tup.injEq, exists_and_left, exists_eq, exists_eq', Br.t, Br.f, Be.t, Be.f, List.cons.injEq, List.append_nil, scal, if_true, if_false, ite_true, ite_false, eq_self_iff_true, decide_true, decide_false, Bool.not_true, Bool.not_false, reduceIte, List.nil_append, List.cons_append, reduceCtorEq, false_and, exists_false, false_or, or_false, Int.reduceLT, ral, rmd, rsq, rlu, rdp, rrp, rrt, rtp, rzk, rsp5, Bool.true_or, Bool.false_or, Bool.or_false, Bool.or_true, s1 _ _ hx]
        refine ⟨mdx, _, s1 _ _ hma, rfl, _, rfl, m, om.same s1, hm, ?_⟩
        refine ⟨_, _, _, rfl, _, _, rfl, rfl, tc.same s1, ?_⟩
        cases hw2 : within c 0 m.len with
        | false =>
          rw [hw2, Bool.false_and] at q
          simp only [and_assoc, rst, rs, re, ra, rq, rx, ro, rl, rl2, rsp, rz, rix, rln, rg, rd, ri, rv, rk, rdd, rwi, at0, at1, at2, at3, upd_at, List.getElem?_cons_zero, List.getElem?_cons_succ, Option.some.injEq, exists_eq_left', exists_eq_left, List.set_cons_zero, List.set_cons_succ, true_and, and_true, HO.lst.injEq, HO.tup.injEq, exists_and_left, exists_eq, exists_eq', Br.t, Br.f, Be.t, Be.f, List.cons.injEq, List.append_nil, scal, if_true, if_false, ite_true, ite_false, eq_self_iff_true, decide_true, decide_false, Bool.not_true, Bool.not_false, reduceIte, List.nil_append, List.cons_append, reduceCtorEq, false_and, exists_false, false_or, or_false, Int.reduceLT, ral, rmd, rsq, rlu, rdp, rrp, rrt, rtp, rzk, rsp5, Bool.true_or, Bool.false_or, Bool.or_false, Bool.or_true, hw2]
          exact q _ s1
        | true =>
          obtain ⟨z, rfl, z0, z1⟩ := within_int hw2
          rw [hw2, Bool.true_and, show iOf (.int z) = z from rfl] at q
          simp only [and_assoc, rst, rs, re, ra, rq, rx, ro, rl, rl2, rsp, rz, rix, rln, rg, rd, ri, rv, rk, rdd, rwi, at0, at1, at2, at3, upd_at, List.getElem?_cons_zero, List.getElem?_cons_succ, Option.some.injEq, exists_eq_left', exists_eq_left, List.set_cons_zero, List.set_cons_succ, true_and, and_true, HO.lst.injEq, HO.tup.injEq, exists_and_left, exists_eq, exists_eq', Br.t, Br.f, Be.t, Be.f, List.cons.injEq, List.append_nil, scal, if_true, if_false, ite_true, ite_false, eq_self_iff_true, decide_true, decide_false, Bool.not_true, Bool.not_false, reduceIte, List.nil_append, List.cons_append, reduceCtorEq, false_and, exists_false, false_or, or_false, Int.reduceLT, ral, rmd, rsq, rlu, rdp, rrp, rrt, rtp, rzk, rsp5, Bool.true_or, Bool.false_or, Bool.or_false, Bool.or_true, hw2, s1 _ _ hx]
          refine ⟨mdx, _, s1 _ _ hma, rfl, _, rfl, m, om.same s1, hm, ?_⟩
          simp only [and_assoc, rst, rs, re, ra, rq, rx, ro, rl, rl2, rsp, rz, rix, rln, rg, rd, ri, rv, rk, rdd, rwi, at0, at1, at2, at3, upd_at, List.getElem?_cons_zero, List.getElem?_cons_succ, Option.some.injEq, exists_eq_left', exists_eq_left, List.set_cons_zero, List.set_cons_succ, true_and, and_true, HO.lst.injEq, HO.tup.injEq, exists_and_left, exists_eq, exists_eq', Br.t, Br.f, Be.t, Be.f, List.cons.injEq, List.append_nil, scal, if_true, if_false, ite_true, ite_false, eq_self_iff_true, decide_true, decide_false, Bool.not_true, Bool.not_false, reduceIte, List.nil_append, List.cons_append, reduceCtorEq, false_and, exists_false, false_or, or_false, Int.reduceLT, ral, rmd, rsq, rlu, rdp, rrp, rrt, rtp, rzk, rsp5, Bool.true_or, Bool.false_or, Bool.or_false, Bool.or_true, s1 _ _ hx]
          refine ⟨_, _, _, rfl, _, _, rfl, rfl, td.same s1, q _ s1⟩
theorem ok_need_part (T : Tx K mg w) (c_is_part : Cal P w K mg base 4 "is_part" ["machine", "thing"] (sp_is_part K)) (c_NoRow : Exn P w K mg base "NoRow" "found") : Cal P w K mg base 5 "need_part" ["machine", "thing"] (sp_need_part K) := by
  refine cal_mk T.F_need_part T.g_need_part sc_need_part (len2 _) (fun _ _ _ _ _ _ us hl => match us, hl with | [_, _], _ => rfl) (fun cdv A outer s H vs Q E hr h => ?_)
  obtain ⟨v0, v1, rfl, h⟩ := h
  have hu := hu_of hr.r
  refine ⟨_, (pss_one (ps_if (pt_not (pt_val (pe_cal c_is_part hr (by decide) (passes_call (takes_of rfl rfl rfl rfl) fun _ _ _ _ h => h) rfl (pa_cons (pv 0) (pa_cons (pv 1) pa_nil))))) (pss_one (ps_rs1 c_NoRow rfl (takes_of rfl rfl rfl rfl) hr.r (by decide) rfl (pa_cons (pv 1) pa_nil))) pss_nil)), ?_⟩
  obtain ⟨m, r, om, hm, hp, q, e⟩ := h
  simp only [and_assoc, rst, rs, re, ra, rq, rx, ro, rl, rl2, rsp, rz, rix, rln, rg, rd, ri, rv, rk, rdd, rwi, at0, at1, at2, at3, upd_at, List.getElem?_cons_zero, List.getElem?_cons_succ, Option.some.injEq, exists_eq_left', exists_eq_left, List.set_cons_zero, List.set_cons_succ, true_and, and_true, HO.lst.injEq, HO.tup.injEq, exists_and_left, exists_eq, exists_eq', Br.t, Br.f, Be.t, Be.f, List.cons.injEq, List.append_nil, scal, if_true, if_false, ite_true, ite_false, eq_self_iff_true, decide_true, decide_false, Bool.not_true, Bool.not_false, reduceIte, List.nil_append, List.cons_append, reduceCtorEq, false_and, exists_false, false_or, or_false, Int.reduceLT, ral, rmd, rsq, rlu, rdp, rrp, rrt, rtp, rzk, rsp5, Bool.true_or, Bool.false_or, Bool.or_false, Bool.or_true]
  refine ⟨_, _, rfl, m, r, om, hm, hp, fun H' s => ?_⟩
  cases r with
  | true =>
    simp only [and_assoc, rst, rs, re, ra, rq, rx, ro, rl, rl2, rsp, rz, rix, rln, rg, rd, ri, rv, rk, rdd, rwi, at0, at1, at2, at3, upd_at, List.getElem?_cons_zero, List.getElem?_cons_succ, Option.some.injEq, exists_eq_left', exists_eq_left, List.set_cons_zero, List.set_cons_succ, true_and, and_true, HO.lst.injEq, HO.tup.injEq, exists_and_left, exists_eq, exists_eq', Br.t, Br.f, Be.t, Be.f, List.cons.injEq, List.append_nil, scal, if_true, if_false, ite_true, ite_false, eq_self_iff_true, decide_true, decide_false, Bool.not_true, Bool.not_false, reduceIte, List.nil_append, List.cons_append, reduceCtorEq, false_and, exists_false, false_or, or_false, Int.reduceLT, ral, rmd, rsq, rlu, rdp, rrp, rrt, rtp, rzk, rsp5, Bool.true_or, Bool.false_or, Bool.or_false, Bool.or_true]
    exact q rfl _ s
  | false =>
    simp only [and_assoc, rst, rs, re, ra, rq, rx, ro, rl, rl2, rsp, rz, rix, rln, rg, rd, ri, rv, rk, rdd, rwi, at0, at1, at2, at3, upd_at, List.getElem?_cons_zero, List.getElem?_cons_succ, Option.some.injEq, exists_eq_left', exists_eq_left, List.set_cons_zero, List.set_cons_succ, true_and, and_true, HO.lst.injEq, HO.tup.injEq, exists_and_left, exists_eq, exists_eq', Br.t, Br.f, Be.t, Be.f, List.cons.injEq, List.append_nil, scal, if_true, if_false, ite_true, ite_false, eq_self_iff_true, decide_true, decide_false, Bool.not_true, Bool.not_false, reduceIte, List.nil_append, List.cons_append, reduceCtorEq, false_and, exists_false, false_or, or_false, Int.reduceLT, ral, rmd, rsq, rlu, rdp, rrp, rrt, rtp, rzk, rsp5, Bool.true_or, Bool.false_or, Bool.or_false, Bool.or_true]
    exact fun d hd => e rfl _ d s hd
theorem fu_le : ∀ xs ys : List Int, fu xs ys ≤ xs.length ∧ fu xs ys ≤ ys.length
  | [], _ => ⟨Nat.zero_le _, Nat.zero_le _⟩
  | _ :: _, [] => ⟨Nat.zero_le _, Nat.zero_le _⟩
  | a :: r, b :: s => by
    have := fu_le r s
    show (if a = b then fu r s + 1 else 0) ≤ r.length + 1 ∧ (if a = b then fu r s + 1 else 0) ≤ s.length + 1
    split <;> omega
theorem ok_first_unlike (T : Tx K mg w)   : Cal P w K mg base 1 "first_unlike" ["one", "other"] (sp_first_unlike K) := by
  refine cal_mk T.F_first_unlike T.g_first_unlike sc_first_unlike (len2 _) (fun _ _ _ _ _ _ us hl => match us, hl with | [_, _], _ => rfl) (fun cdv A outer s H vs Q E hr h => ?_)
  obtain ⟨v0, v1, rfl, h⟩ := h
  have hu := hu_of hr.r
  refine ⟨_, (pss_cons (ps_set (i := 2) sc_first_unlike.nd rfl (Or.inl rfl) pe_int)
      (pss_cons (ps_while (passes_of rfl) (PW.pt (pw_and (pt_cmpR op_lt (pv 2) (pe_callB len_q (by rfl) T.n_len (by decide +kernel) (pa_cons (pv 0) pa_nil)) (nomark _)) (pw_and (pt_cmpR op_lt (pv 2) (pe_callB len_q (by rfl) T.n_len (by decide +kernel) (pa_cons (pv 1) pa_nil)) (nomark _)) (pw_and1 (pt_cmpR op_eq (pe_ix ix_q (pv 0) (pv 2) (fun _ _ => rfl)) (pe_ix ix_q (pv 1) (pv 2) (fun _ _ => rfl)) (nomark _)))))) (pss_one (ps_aug (i := 2) sc_first_unlike.nd rfl (Or.inl rfl) pe_int ip_add)))
      (pss_one (ps_ret (pv 2))))), ?_⟩
  obtain ⟨p, q', xs, ys, rfl, rfl, hp, hq, q⟩ := h
  simp only [and_assoc, rst, rs, re, ra, rq, rx, ro, rl, rl2, rsp, rz, rix, rln, rg, rd, ri, rv, rk, rdd, rwi, at0, at1, at2, at3, upd_at, List.getElem?_cons_zero, List.getElem?_cons_succ, Option.some.injEq, exists_eq_left', exists_eq_left, List.set_cons_zero, List.set_cons_succ, true_and, and_true, HO.lst.injEq, HO.tup.injEq, exists_and_left, exists_eq, exists_eq', Br.t, Br.f, Be.t, Be.f, List.cons.injEq, List.append_nil, scal, if_true, if_false, ite_true, ite_false, eq_self_iff_true, decide_true, decide_false, Bool.not_true, Bool.not_false, reduceIte, List.nil_append, List.cons_append, reduceCtorEq, false_and, exists_false, false_or, or_false, Int.reduceLT, ral, rmd, rsq, rlu, rdp, rrp, rrt, rtp, rzk, rsp5, Bool.true_or, Bool.false_or, Bool.or_false, Bool.or_true]
  refine wh (fun m σ H' => ∃ i : Nat, H' = H ∧ i + m = fu xs ys ∧ i + fu (xs.drop i) (ys.drop i) = fu xs ys ∧ σ = [some (.ref p), some (.ref q'), some (.int (i : Nat))]) (fu xs ys) ⟨0, rfl, by omega, by simp, rfl⟩ ?_
  rintro m σ H' ⟨i, rfl, hm, hf, rfl⟩
  have fl := fu_le xs ys
  have out : ∀ {c : Bool}, c = false → fu (xs.drop i) (ys.drop i) = 0 → Q (.int (i : Nat)) H' := fun {c} _ z => by
    rw [← hf, z, Nat.add_zero] at q
    exact q
  simp only [and_assoc, rst, rs, re, ra, rq, rx, ro, rl, rl2, rsp, rz, rix, rln, rg, rd, ri, rv, rk, rdd, rwi, at0, at1, at2, at3, upd_at, List.getElem?_cons_zero, List.getElem?_cons_succ, Option.some.injEq, exists_eq_left', exists_eq_left, List.set_cons_zero, List.set_cons_succ, true_and, and_true, HO.lst.injEq, HO.tup.injEq, exists_and_left, exists_eq, exists_eq', Br.t, Br.f, Be.t, Be.f, List.cons.injEq, List.append_nil, scal, if_true, if_false, ite_true, ite_false, eq_self_iff_true, decide_true, decide_false, Bool.not_true, Bool.not_false, reduceIte, List.nil_append, List.cons_append, reduceCtorEq, false_and, exists_false, false_or, or_false, Int.reduceLT, ral, rmd, rsq, rlu, rdp, rrp, rrt, rtp, rzk, rsp5, Bool.true_or, Bool.false_or, Bool.or_false, Bool.or_true, hp]
  refine Be.d (fun c => ?_) fun c => ?_
  · simp only [and_assoc, rst, rs, re, ra, rq, rx, ro, rl, rl2, rsp, rz, rix, rln, rg, rd, ri, rv, rk, rdd, rwi, at0, at1, at2, at3, upd_at, List.getElem?_cons_zero, List.getElem?_cons_succ, Option.some.injEq, exists_eq_left', exists_eq_left, List.set_cons_zero, List.set_cons_succ, true_and, and_true, HO.lst.injEq, HO.tup.injEq, exists_and_left, exists_eq, exists_eq', Br.t, Br.f, Be.t, Be.f, List.cons.injEq, List.append_nil, scal, if_true, if_false, ite_true, ite_false, eq_self_iff_true, decide_true, decide_false, Bool.not_true, Bool.not_false, reduceIte, List.nil_append, List.cons_append, reduceCtorEq, false_and, exists_false, false_or, or_false, Int.reduceLT, ral, rmd, rsq, rlu, rdp, rrp, rrt, rtp, rzk, rsp5, Bool.true_or, Bool.false_or, Bool.or_false, Bool.or_true, hq]
    refine Be.d (fun c2 => ?_) fun c2 => ?_
    · rw [List.length_map] at c c2
      have ix : i < xs.length := by omega
      have iy : i < ys.length := by omega
      have gx : atI (xs.map V.int) (i : Int) = some (V.int xs[i]) := atI_nat (by rw [List.getElem?_map, List.getElem?_eq_getElem ix]; rfl)
      have gy : atI (ys.map V.int) (i : Int) = some (V.int ys[i]) := atI_nat (by rw [List.getElem?_map, List.getElem?_eq_getElem iy]; rfl)
      rw [List.drop_eq_getElem_cons ix, List.drop_eq_getElem_cons iy] at hf out
      simp only [and_assoc, rst, rs, re, ra, rq, rx, ro, rl, rl2, rsp, rz, rix, rln, rg, rd, ri, rv, rk, rdd, rwi, at0, at1, at2, at3, upd_at, List.getElem?_cons_zero, List.getElem?_cons_succ, Option.some.injEq, exists_eq_left', exists_eq_left, List.set_cons_zero, List.set_cons_succ, true_and, and_true, HO.lst.injEq, HO.tup.injEq, exists_and_left, exists_eq, exists_eq', Br.t, Br.f, Be.t, Be.f, List.cons.injEq, List.append_nil, scal, if_true, if_false, ite_true, ite_false, eq_self_iff_true, decide_true, decide_false, Bool.not_true, Bool.not_false, reduceIte, List.nil_append, List.cons_append, reduceCtorEq, false_and, exists_false, false_or, or_false, Int.reduceLT, ral, rmd, rsq, rlu, rdp, rrp, rrt, rtp, rzk, rsp5, Bool.true_or, Bool.false_or, Bool.or_false, Bool.or_true, hp, hq]
      refine ⟨_, gx, _, gy, ?_⟩
      simp only [and_assoc, rst, rs, re, ra, rq, rx, ro, rl, rl2, rsp, rz, rix, rln, rg, rd, ri, rv, rk, rdd, rwi, at0, at1, at2, at3, upd_at, List.getElem?_cons_zero, List.getElem?_cons_succ, Option.some.injEq, exists_eq_left', exists_eq_left, List.set_cons_zero, List.set_cons_succ, true_and, and_true, HO.lst.injEq, HO.tup.injEq, exists_and_left, exists_eq, exists_eq', Br.t, Br.f, Be.t, Be.f, List.cons.injEq, List.append_nil, scal, if_true, if_false, ite_true, ite_false, eq_self_iff_true, decide_true, decide_false, Bool.not_true, Bool.not_false, reduceIte, List.nil_append, List.cons_append, reduceCtorEq, false_and, exists_false, false_or, or_false, Int.reduceLT, ral, rmd, rsq, rlu, rdp, rrp, rrt, rtp, rzk, rsp5, Bool.true_or, Bool.false_or, Bool.or_false, Bool.or_true]
      refine Br.d (fun c3 => ?_) fun c3 => ?_
      · have e1 : fu (xs[i] :: xs.drop (i + 1)) (ys[i] :: ys.drop (i + 1)) = fu (xs.drop (i + 1)) (ys.drop (i + 1)) + 1 := if_pos c3
        rw [e1] at hf
        refine Nx.go ?_
        simp only [and_assoc, rst, rs, re, ra, rq, rx, ro, rl, rl2, rsp, rz, rix, rln, rg, rd, ri, rv, rk, rdd, rwi, at0, at1, at2, at3, upd_at, List.getElem?_cons_zero, List.getElem?_cons_succ, Option.some.injEq, exists_eq_left', exists_eq_left, List.set_cons_zero, List.set_cons_succ, true_and, and_true, HO.lst.injEq, HO.tup.injEq, exists_and_left, exists_eq, exists_eq', Br.t, Br.f, Be.t, Be.f, List.cons.injEq, List.append_nil, scal, if_true, if_false, ite_true, ite_false, eq_self_iff_true, decide_true, decide_false, Bool.not_true, Bool.not_false, reduceIte, List.nil_append, List.cons_append, reduceCtorEq, false_and, exists_false, false_or, or_false, Int.reduceLT, ral, rmd, rsq, rlu, rdp, rrp, rrt, rtp, rzk, rsp5, Bool.true_or, Bool.false_or, Bool.or_false, Bool.or_true]
        exact ⟨m - 1, by omega, i + 1, by omega, by omega, rfl⟩
      · simp only [and_assoc, rst, rs, re, ra, rq, rx, ro, rl, rl2, rsp, rz, rix, rln, rg, rd, ri, rv, rk, rdd, rwi, at0, at1, at2, at3, upd_at, List.getElem?_cons_zero, List.getElem?_cons_succ, Option.some.injEq, exists_eq_left', exists_eq_left, List.set_cons_zero, List.set_cons_succ, true_and, and_true, HO.lst.injEq, HO.tup.injEq, exists_and_left, exists_eq, exists_eq', Br.t, Br.f, Be.t, Be.f, List.cons.injEq, List.append_nil, scal, if_true, if_false, ite_true, ite_false, eq_self_iff_true, decide_true, decide_false, Bool.not_true, Bool.not_false, reduceIte, List.nil_append, List.cons_append, reduceCtorEq, false_and, exists_false, false_or, or_false, Int.reduceLT, ral, rmd, rsq, rlu, rdp, rrp, rrt, rtp, rzk, rsp5, Bool.true_or, Bool.false_or, Bool.or_false, Bool.or_true]
        exact out (c := false) rfl (if_neg c3)
    · rw [List.length_map] at c2
      exact out (c := false) rfl (by rw [List.drop_eq_nil_of_le (as := ys) (by omega)]; cases xs.drop i <;> rfl)
  · rw [List.length_map] at c
    exact out (c := false) rfl (by rw [List.drop_eq_nil_of_le (as := xs) (by omega)]; rfl)
theorem lay_ints : ∀ ps : List Int, PyData.canLayAll0 (ps.map PyData.int) = true
  | [] => rfl
  | p :: r => by
    show (PyData.canLay0 (.int p) && PyData.canLayAll0 (r.map PyData.int)) = true
    rw [lay_ints r]
    rfl
theorem deep_ints : ∀ ps : List Int, PyData.depthAll (ps.map PyData.int) ≤ 0
  | [] => Nat.le_refl _
  | p :: r => by
    have := deep_ints r
    simp only [List.map_cons, PyData.depthAll, PyData.depth]
    omega
theorem ints_dp {K : Fg} {H : Hp} : ∀ ps : List Int, DpAll K H (ps.map V.int) (ps.map PyData.int)
  | [] => .nil
  | p :: r => .cons (.int p) (ints_dp r)
theorem ints_cd {K : Fg} {H : Hp} {p : Addr} {cs : List Int} (h : H p = some (.tup (cs.map V.int))) : Cd K H (.ref p) (.tuple (cs.map PyData.int)) := ⟨.tup (SqT.of h) (ints_dp cs), lay_ints cs, by
  have := deep_ints cs
  simp only [PyData.depth]
  omega⟩
theorem int_cd {K : Fg} {H : Hp} (z : Int) : Cd K H (.int z) (.int z) := ⟨.int z, rfl, Nat.zero_le _⟩
theorem str_cd {K : Fg} {H : Hp} {z : Str} (h : PyData.strOk z = true) : Cd K H (.str z) (.str z) := ⟨.str z, h, Nat.zero_le _⟩
theorem cd_shaped {K : Fg} {H : Hp} {x : V} {d : PyData} (h : Cd K H x d) : SeqAt.shaped d = true := shaped_of h.2.1 (by have := h.2.2; omega)
theorem ne_cd {K : Fg} {H : Hp} {x y : V} {d e : PyData} (h1 : Cd K H x d) (h2 : Cd K H y e) {Q : VK} (q : Q (.bl (!PyData.eqv d e)) H) : rNeA K x y H Q := .inl ⟨d, e, h1.1, h2.1, cd_shaped h1, cd_shaped h2, q⟩
theorem eq_cd {K : Fg} {H : Hp} {x y : V} {d e : PyData} (h1 : Cd K H x d) (h2 : Cd K H y e) {Q : VK} (q : Q (.bl (PyData.eqv d e)) H) : rEqA K x y H Q := .inl ⟨d, e, h1.1, h2.1, cd_shaped h1, cd_shaped h2, q⟩
theorem eqv_ints (xs ys : List Int) : PyData.eqv (.tuple (xs.map PyData.int)) (.tuple (ys.map PyData.int)) = decide (xs = ys) := by
  simp only [PyData.eqv, PySem.W.ked_eqvAll]
theorem ok_meeting (T : Tx K mg w) (c_need_part : Cal P w K mg base 5 "need_part" ["machine", "thing"] (sp_need_part K)) (c_first_unlike : Cal P w K mg base 1 "first_unlike" ["one", "other"] (sp_first_unlike K))  : Cal P w K mg base 6 "meeting" ["machine", "one", "other"] (sp_meeting K) := by
  refine cal_mk T.F_meeting T.g_meeting sc_meeting (len3 _) (fun _ _ _ _ _ _ us hl => match us, hl with | [_, _, _], _ => rfl) (fun cdv A outer s H vs Q E hr h => ?_)
  obtain ⟨v0, v1, v2, rfl, h⟩ := h
  have hu := hu_of hr.r
  refine ⟨_, (pss_cons (ps_expr (pe_cal c_need_part hr (by decide) (passes_call (takes_of rfl rfl rfl rfl) fun _ _ _ _ h => h) rfl (pa_cons (pv 0) (pa_cons (pv 1) pa_nil))))
      (pss_cons (ps_expr (pe_cal c_need_part hr (by decide) (passes_call (takes_of rfl rfl rfl rfl) fun _ _ _ _ h => h) rfl (pa_cons (pv 0) (pa_cons (pv 2) pa_nil))))
      (pss_cons (ps_if (pt_cmpR (op_neA hr.units) (pe_ix ix_q (pv 1) pe_int (fun _ _ => rfl)) (pe_ix ix_q (pv 2) pe_int (fun _ _ => rfl)) (nomark _)) (pss_one (ps_ret (pe_tupA (pa_cons pe_str pa_nil)))) pss_nil)
      (pss_cons (ps_if (pt_cmpR (op_neA hr.units) (pe_ix ix_q (pv 1) pe_int (fun _ _ => rfl)) (pe_ix ix_q (pv 2) pe_int (fun _ _ => rfl)) (nomark _)) (pss_one (ps_ret (pe_tupA (pa_cons pe_str (pa_cons (pe_cal c_first_unlike hr (by decide) (passes_call (takes_of rfl rfl rfl rfl) fun _ _ _ _ h => h) rfl (pa_cons (pe_ix ix_q (pv 1) pe_int (fun _ _ => rfl)) (pa_cons (pe_ix ix_q (pv 2) pe_int (fun _ _ => rfl)) pa_nil))) pa_nil))))) pss_nil)
      (pss_cons (ps_set (i := 3) sc_meeting.nd rfl (Or.inl rfl) (pe_callB (call_max2 rfl) (by rfl) T.n_max (by decide +kernel) (pa_cons (pe_ix ix_q (pv 1) pe_int (fun _ _ => rfl)) (pa_cons (pe_ix ix_q (pv 2) pe_int (fun _ _ => rfl)) pa_nil))))
      (pss_cons (ps_set (i := 4) sc_meeting.nd rfl (Or.inl rfl) (pe_callB (call_min2 rfl) (by rfl) T.n_min (by decide +kernel) (pa_cons (pe_op op_add (pe_ix ix_q (pv 1) pe_int (fun _ _ => rfl)) (pe_ix ix_q (pv 1) pe_int (fun _ _ => rfl))) (pa_cons (pe_op op_add (pe_ix ix_q (pv 2) pe_int (fun _ _ => rfl)) (pe_ix ix_q (pv 2) pe_int (fun _ _ => rfl))) pa_nil))))
      (pss_cons (ps_if (pt_cmpR op_ge (pv 3) (pv 4) (nomark _)) (pss_one (ps_ret (pe_tupA (pa_cons pe_str pa_nil)))) pss_nil)
      (pss_one (ps_ret (pe_tupA (pa_cons pe_str (pa_cons (pv 3) (pa_cons (pe_op op_sub (pv 4) (pv 3)) pa_nil))))))))))))), ?_⟩
  obtain ⟨m, om, hm, r1, r2, p1, p2, e1, e2, g⟩ := h
  refine seqI fun rr hr => ?_
  simp only [and_assoc, rst, rs, re, ra, rq, rx, ro, rl, rl2, rsp, rz, rix, rln, rg, rd, ri, rv, rk, rdd, rwi, at0, at1, at2, at3, upd_at, List.getElem?_cons_zero, List.getElem?_cons_succ, Option.some.injEq, exists_eq_left', exists_eq_left, List.set_cons_zero, List.set_cons_succ, true_and, and_true, HO.lst.injEq, HO.tup.injEq, exists_and_left, exists_eq, exists_eq', Br.t, Br.f, Be.t, Be.f, List.cons.injEq, List.append_nil, scal, if_true, if_false, ite_true, ite_false, eq_self_iff_true, decide_true, decide_false, Bool.not_true, Bool.not_false, reduceIte, List.nil_append, List.cons_append, reduceCtorEq, false_and, exists_false, false_or, or_false, Int.reduceLT, ral, rmd, rsq, rlu, rdp, rrp, rrt, rtp, rzk, rsp5, Bool.true_or, Bool.false_or, Bool.or_false, Bool.or_true]
  refine ⟨_, _, rfl, m, r1, om, hm, p1, fun c1 H1 s1 => ?_, e1⟩
  subst hr
  refine seqI fun rr hr => ?_
  simp only [and_assoc, rst, rs, re, ra, rq, rx, ro, rl, rl2, rsp, rz, rix, rln, rg, rd, ri, rv, rk, rdd, rwi, at0, at1, at2, at3, upd_at, List.getElem?_cons_zero, List.getElem?_cons_succ, Option.some.injEq, exists_eq_left', exists_eq_left, List.set_cons_zero, List.set_cons_succ, true_and, and_true, HO.lst.injEq, HO.tup.injEq, exists_and_left, exists_eq, exists_eq', Br.t, Br.f, Be.t, Be.f, List.cons.injEq, List.append_nil, scal, if_true, if_false, ite_true, ite_false, eq_self_iff_true, decide_true, decide_false, Bool.not_true, Bool.not_false, reduceIte, List.nil_append, List.cons_append, reduceCtorEq, false_and, exists_false, false_or, or_false, Int.reduceLT, ral, rmd, rsq, rlu, rdp, rrp, rrt, rtp, rzk, rsp5, Bool.true_or, Bool.false_or, Bool.or_false, Bool.or_true]
  refine ⟨_, _, rfl, m, r2, om.same s1, hm, p2.same s1, fun c2 H2 s2 => ?_, fun c2 => (e2 c1 c2).same s1⟩
  have s12 := Same.trans s1 s2
  subst c1 c2
  obtain ⟨s, ts, so⟩ := part_true p1
  obtain ⟨t, tt, to⟩ := part_true p2
  have q := g rfl rfl s t ts so tt to
  clear g e1 e2
  have ts2 := ts.same s12
  have tt2 := tt.same s12
  obtain ⟨x, xp, rfl, hx, hxp⟩ := id ts2
  obtain ⟨y, yp, rfl, hy, hyp⟩ := id tt2
  subst hr
  refine seqI fun rr hr => ?_
  simp only [and_assoc, rst, rs, re, ra, rq, rx, ro, rl, rl2, rsp, rz, rix, rln, rg, rd, ri, rv, rk, rdd, rwi, at0, at1, at2, at3, upd_at, List.getElem?_cons_zero, List.getElem?_cons_succ, Option.some.injEq, exists_eq_left', exists_eq_left, List.set_cons_zero, List.set_cons_succ, true_and, and_true, HO.lst.injEq, HO.tup.injEq, exists_and_left, exists_eq, exists_eq', Br.t, Br.f, Be.t, Be.f, List.cons.injEq, List.append_nil, scal, if_true, if_false, ite_true, ite_false, eq_self_iff_true, decide_true, decide_false, Bool.not_true, Bool.not_false, reduceIte, List.nil_append, List.cons_append, reduceCtorEq, false_and, exists_false, false_or, or_false, Int.reduceLT, ral, rmd, rsq, rlu, rdp, rrp, rrt, rtp, rzk, rsp5, Bool.true_or, Bool.false_or, Bool.or_false, Bool.or_true, hx, hy]
  refine ne_cd (int_cd _) (int_cd _) ?_
  rw [eqv_int]
  refine ⟨_, rfl, Br.n (fun c => ?_) fun c => ?_⟩
  · simp only [and_assoc, rst, rs, re, ra, rq, rx, ro, rl, rl2, rsp, rz, rix, rln, rg, rd, ri, rv, rk, rdd, rwi, at0, at1, at2, at3, upd_at, List.getElem?_cons_zero, List.getElem?_cons_succ, Option.some.injEq, exists_eq_left', exists_eq_left, List.set_cons_zero, List.set_cons_succ, true_and, and_true, HO.lst.injEq, HO.tup.injEq, exists_and_left, exists_eq, exists_eq', Br.t, Br.f, Be.t, Be.f, List.cons.injEq, List.append_nil, scal, if_true, if_false, ite_true, ite_false, eq_self_iff_true, decide_true, decide_false, Bool.not_true, Bool.not_false, reduceIte, List.nil_append, List.cons_append, reduceCtorEq, false_and, exists_false, false_or, or_false, Int.reduceLT, ral, rmd, rsq, rlu, rdp, rrp, rrt, rtp, rzk, rsp5, Bool.true_or, Bool.false_or, Bool.or_false, Bool.or_true]
    refine fun p H3 a3 => q _ _ (Same.trans s12 a3.s) ?_
    rw [a3.e, mrow, mw, mn, if_pos c, if_pos c]
    rfl
  · simp only [and_assoc, rst, rs, re, ra, rq, rx, ro, rl, rl2, rsp, rz, rix, rln, rg, rd, ri, rv, rk, rdd, rwi, at0, at1, at2, at3, upd_at, List.getElem?_cons_zero, List.getElem?_cons_succ, Option.some.injEq, exists_eq_left', exists_eq_left, List.set_cons_zero, List.set_cons_succ, true_and, and_true, HO.lst.injEq, HO.tup.injEq, exists_and_left, exists_eq, exists_eq', Br.t, Br.f, Be.t, Be.f, List.cons.injEq, List.append_nil, scal, if_true, if_false, ite_true, ite_false, eq_self_iff_true, decide_true, decide_false, Bool.not_true, Bool.not_false, reduceIte, List.nil_append, List.cons_append, reduceCtorEq, false_and, exists_false, false_or, or_false, Int.reduceLT, ral, rmd, rsq, rlu, rdp, rrp, rrt, rtp, rzk, rsp5, Bool.true_or, Bool.false_or, Bool.or_false, Bool.or_true]
    subst hr
    refine seqI fun rr hr => ?_
    simp only [and_assoc, rst, rs, re, ra, rq, rx, ro, rl, rl2, rsp, rz, rix, rln, rg, rd, ri, rv, rk, rdd, rwi, at0, at1, at2, at3, upd_at, List.getElem?_cons_zero, List.getElem?_cons_succ, Option.some.injEq, exists_eq_left', exists_eq_left, List.set_cons_zero, List.set_cons_succ, true_and, and_true, HO.lst.injEq, HO.tup.injEq, exists_and_left, exists_eq, exists_eq', Br.t, Br.f, Be.t, Be.f, List.cons.injEq, List.append_nil, scal, if_true, if_false, ite_true, ite_false, eq_self_iff_true, decide_true, decide_false, Bool.not_true, Bool.not_false, reduceIte, List.nil_append, List.cons_append, reduceCtorEq, false_and, exists_false, false_or, or_false, Int.reduceLT, ral, rmd, rsq, rlu, rdp, rrp, rrt, rtp, rzk, rsp5, Bool.true_or, Bool.false_or, Bool.or_false, Bool.or_true, hx, hy]
    refine ne_cd (ints_cd hxp) (ints_cd hyp) ?_
    rw [eqv_ints]
    refine ⟨_, rfl, Br.n (fun c2 => ?_) fun c2 => ?_⟩
    · simp only [and_assoc, rst, rs, re, ra, rq, rx, ro, rl, rl2, rsp, rz, rix, rln, rg, rd, ri, rv, rk, rdd, rwi, at0, at1, at2, at3, upd_at, List.getElem?_cons_zero, List.getElem?_cons_succ, Option.some.injEq, exists_eq_left', exists_eq_left, List.set_cons_zero, List.set_cons_succ, true_and, and_true, HO.lst.injEq, HO.tup.injEq, exists_and_left, exists_eq, exists_eq', Br.t, Br.f, Be.t, Be.f, List.cons.injEq, List.append_nil, scal, if_true, if_false, ite_true, ite_false, eq_self_iff_true, decide_true, decide_false, Bool.not_true, Bool.not_false, reduceIte, List.nil_append, List.cons_append, reduceCtorEq, false_and, exists_false, false_or, or_false, Int.reduceLT, ral, rmd, rsq, rlu, rdp, rrp, rrt, rtp, rzk, rsp5, Bool.true_or, Bool.false_or, Bool.or_false, Bool.or_true, hx, hy]
      refine ⟨_, _, rfl, xp, yp, _, _, rfl, rfl, hxp, hyp, fun p H3 a3 => q _ _ (Same.trans s12 a3.s) ?_⟩
      rw [a3.e, mrow, mw, mn, if_neg (Decidable.not_not.mpr c), if_neg (Decidable.not_not.mpr c), if_pos c2, if_pos c2]
      rfl
    · simp only [and_assoc, rst, rs, re, ra, rq, rx, ro, rl, rl2, rsp, rz, rix, rln, rg, rd, ri, rv, rk, rdd, rwi, at0, at1, at2, at3, upd_at, List.getElem?_cons_zero, List.getElem?_cons_succ, Option.some.injEq, exists_eq_left', exists_eq_left, List.set_cons_zero, List.set_cons_succ, true_and, and_true, HO.lst.injEq, HO.tup.injEq, exists_and_left, exists_eq, exists_eq', Br.t, Br.f, Be.t, Be.f, List.cons.injEq, List.append_nil, scal, if_true, if_false, ite_true, ite_false, eq_self_iff_true, decide_true, decide_false, Bool.not_true, Bool.not_false, reduceIte, List.nil_append, List.cons_append, reduceCtorEq, false_and, exists_false, false_or, or_false, Int.reduceLT, ral, rmd, rsq, rlu, rdp, rrp, rrt, rtp, rzk, rsp5, Bool.true_or, Bool.false_or, Bool.or_false, Bool.or_true]
      subst hr
      refine seqI fun rr hr => ?_
      simp only [and_assoc, rst, rs, re, ra, rq, rx, ro, rl, rl2, rsp, rz, rix, rln, rg, rd, ri, rv, rk, rdd, rwi, at0, at1, at2, at3, upd_at, List.getElem?_cons_zero, List.getElem?_cons_succ, Option.some.injEq, exists_eq_left', exists_eq_left, List.set_cons_zero, List.set_cons_succ, true_and, and_true, HO.lst.injEq, HO.tup.injEq, exists_and_left, exists_eq, exists_eq', Br.t, Br.f, Be.t, Be.f, List.cons.injEq, List.append_nil, scal, if_true, if_false, ite_true, ite_false, eq_self_iff_true, decide_true, decide_false, Bool.not_true, Bool.not_false, reduceIte, List.nil_append, List.cons_append, reduceCtorEq, false_and, exists_false, false_or, or_false, Int.reduceLT, ral, rmd, rsq, rlu, rdp, rrp, rrt, rtp, rzk, rsp5, Bool.true_or, Bool.false_or, Bool.or_false, Bool.or_true, hx, hy]
      have ef : (if t.place > s.place then t.place else s.place) = mfirst s t := by
        unfold mfirst
        split <;> omega
      rw [ef]
      subst hr
      refine seqI fun rr hr => ?_
      simp only [and_assoc, rst, rs, re, ra, rq, rx, ro, rl, rl2, rsp, rz, rix, rln, rg, rd, ri, rv, rk, rdd, rwi, at0, at1, at2, at3, upd_at, List.getElem?_cons_zero, List.getElem?_cons_succ, Option.some.injEq, exists_eq_left', exists_eq_left, List.set_cons_zero, List.set_cons_succ, true_and, and_true, HO.lst.injEq, HO.tup.injEq, exists_and_left, exists_eq, exists_eq', Br.t, Br.f, Be.t, Be.f, List.cons.injEq, List.append_nil, scal, if_true, if_false, ite_true, ite_false, eq_self_iff_true, decide_true, decide_false, Bool.not_true, Bool.not_false, reduceIte, List.nil_append, List.cons_append, reduceCtorEq, false_and, exists_false, false_or, or_false, Int.reduceLT, ral, rmd, rsq, rlu, rdp, rrp, rrt, rtp, rzk, rsp5, Bool.true_or, Bool.false_or, Bool.or_false, Bool.or_true, hx, hy]
      have eb : (if t.place + t.many < s.place + s.many then t.place + t.many else s.place + s.many) = mbehind s t := by
        unfold mbehind
        split <;> omega
      rw [eb]
      subst hr
      refine seqI fun rr hr => ?_
      simp only [and_assoc, rst, rs, re, ra, rq, rx, ro, rl, rl2, rsp, rz, rix, rln, rg, rd, ri, rv, rk, rdd, rwi, at0, at1, at2, at3, upd_at, List.getElem?_cons_zero, List.getElem?_cons_succ, Option.some.injEq, exists_eq_left', exists_eq_left, List.set_cons_zero, List.set_cons_succ, true_and, and_true, HO.lst.injEq, HO.tup.injEq, exists_and_left, exists_eq, exists_eq', Br.t, Br.f, Be.t, Be.f, List.cons.injEq, List.append_nil, scal, if_true, if_false, ite_true, ite_false, eq_self_iff_true, decide_true, decide_false, Bool.not_true, Bool.not_false, reduceIte, List.nil_append, List.cons_append, reduceCtorEq, false_and, exists_false, false_or, or_false, Int.reduceLT, ral, rmd, rsq, rlu, rdp, rrp, rrt, rtp, rzk, rsp5, Bool.true_or, Bool.false_or, Bool.or_false, Bool.or_true]
      refine Br.d (fun c3 => ?_) fun c3 => ?_
      · simp only [and_assoc, rst, rs, re, ra, rq, rx, ro, rl, rl2, rsp, rz, rix, rln, rg, rd, ri, rv, rk, rdd, rwi, at0, at1, at2, at3, upd_at, List.getElem?_cons_zero, List.getElem?_cons_succ, Option.some.injEq, exists_eq_left', exists_eq_left, List.set_cons_zero, List.set_cons_succ, true_and, and_true, HO.lst.injEq, HO.tup.injEq, exists_and_left, exists_eq, exists_eq', Br.t, Br.f, Be.t, Be.f, List.cons.injEq, List.append_nil, scal, if_true, if_false, ite_true, ite_false, eq_self_iff_true, decide_true, decide_false, Bool.not_true, Bool.not_false, reduceIte, List.nil_append, List.cons_append, reduceCtorEq, false_and, exists_false, false_or, or_false, Int.reduceLT, ral, rmd, rsq, rlu, rdp, rrp, rrt, rtp, rzk, rsp5, Bool.true_or, Bool.false_or, Bool.or_false, Bool.or_true]
        refine fun p H3 a3 => q _ _ (Same.trans s12 a3.s) ?_
        rw [a3.e, mrow, mw, mn, if_neg (Decidable.not_not.mpr c), if_neg (Decidable.not_not.mpr c), if_neg (Decidable.not_not.mpr c2), if_neg (Decidable.not_not.mpr c2), if_pos c3, if_pos c3]
        rfl
      · simp only [and_assoc, rst, rs, re, ra, rq, rx, ro, rl, rl2, rsp, rz, rix, rln, rg, rd, ri, rv, rk, rdd, rwi, at0, at1, at2, at3, upd_at, List.getElem?_cons_zero, List.getElem?_cons_succ, Option.some.injEq, exists_eq_left', exists_eq_left, List.set_cons_zero, List.set_cons_succ, true_and, and_true, HO.lst.injEq, HO.tup.injEq, exists_and_left, exists_eq, exists_eq', Br.t, Br.f, Be.t, Be.f, List.cons.injEq, List.append_nil, scal, if_true, if_false, ite_true, ite_false, eq_self_iff_true, decide_true, decide_false, Bool.not_true, Bool.not_false, reduceIte, List.nil_append, List.cons_append, reduceCtorEq, false_and, exists_false, false_or, or_false, Int.reduceLT, ral, rmd, rsq, rlu, rdp, rrp, rrt, rtp, rzk, rsp5, Bool.true_or, Bool.false_or, Bool.or_false, Bool.or_true]
        subst hr
        simp only [and_assoc, rst, rs, re, ra, rq, rx, ro, rl, rl2, rsp, rz, rix, rln, rg, rd, ri, rv, rk, rdd, rwi, at0, at1, at2, at3, upd_at, List.getElem?_cons_zero, List.getElem?_cons_succ, Option.some.injEq, exists_eq_left', exists_eq_left, List.set_cons_zero, List.set_cons_succ, true_and, and_true, HO.lst.injEq, HO.tup.injEq, exists_and_left, exists_eq, exists_eq', Br.t, Br.f, Be.t, Be.f, List.cons.injEq, List.append_nil, scal, if_true, if_false, ite_true, ite_false, eq_self_iff_true, decide_true, decide_false, Bool.not_true, Bool.not_false, reduceIte, List.nil_append, List.cons_append, reduceCtorEq, false_and, exists_false, false_or, or_false, Int.reduceLT, ral, rmd, rsq, rlu, rdp, rrp, rrt, rtp, rzk, rsp5, Bool.true_or, Bool.false_or, Bool.or_false, Bool.or_true]
        refine fun p H3 a3 => q _ _ (Same.trans s12 a3.s) ?_
        rw [a3.e, mrow, mw, mn, if_neg (Decidable.not_not.mpr c), if_neg (Decidable.not_not.mpr c), if_neg (Decidable.not_not.mpr c2), if_neg (Decidable.not_not.mpr c2), if_neg c3, if_neg c3]
        rfl
theorem cut_tail (x : V) (xs : List V) : cutV (x :: xs) (some 1) none = xs := by
  have e : HT.sIx (x :: xs).length 0 (some 1) = 1 := by
    simp only [HT.sIx, List.length_cons]
    try simp
    try omega
  have e2 : HT.sIx (x :: xs).length (x :: xs).length none = xs.length + 1 := rfl
  rw [cutV, e, e2]
  show (xs.take (xs.length + 1 - 1)) = xs
  rw [Nat.add_sub_cancel, List.take_length]
theorem within_one (x : V) (n : Int) : within x n n = decide (x = .int n) := by
  cases x with
  | int z =>
    show decide (n ≤ z ∧ z ≤ n) = decide (V.int z = V.int n)
    by_cases h : z = n
    · rw [decide_eq_true (by omega), decide_eq_true (by rw [h])]
    · rw [decide_eq_false (by omega), decide_eq_false (by intro c; cases c; exact h rfl)]
  | _ => rfl
theorem eqs_all : ∀ (xs : List V) (ns : List Int), xs.length = ns.length → (List.zipWith (fun x n => within x n n) xs ns).all id = eqs xs ns
  | [], [], _ => rfl
  | x :: r, n :: s, h => by
    rw [List.zipWith_cons_cons, List.all_cons, eqs_all r s (Nat.succ.inj h), eqs, id, within_one]
  | [], _ :: _, h => by cases h
  | _ :: _, [], h => by cases h
end
end Law

-- RDX ral, rmd, rsq, rlu, rdp, rrp, rrt, rtp, rzk, rsp5, Bool.true_or, Bool.false_or, Bool.or_false, Bool.or_true
set_option pp.deepTerms true
set_option pp.maxSteps 100000
namespace Law
open PySem PySem.Spec PyProof.Rows L2 Sw
section
variable {P : Program} {w : World} {K : Fg} {mg : Str → Option Value} {base : Heap}
theorem ok__law_take (T : Tx K mg w)   : Cal P w K mg base 1 "_law_take" ["box", "many"] (sp__law_take K) := by
  refine cal_mk T.F__law_take T.g__law_take sc__law_take (len2 _) (fun _ _ _ _ _ _ us hl => match us, hl with | [_, _], _ => rfl) (fun cdv A outer s H vs Q E hr h => ?_)
  obtain ⟨v0, v1, rfl, h⟩ := h
  have hu := hu_of hr.r
  refine ⟨_, (pss_cons (ps_if (pt_cmpR op_gt (pe_ix ix_q (pv 0) pe_int (fun _ _ => rfl)) pe_int (nomark _)) (pss_cons (ps_set (i := 2) sc__law_take.nd rfl (Or.inl rfl) (pe_op op_mod (pe_ix ix_q (pv 0) pe_int (fun _ _ => rfl)) (pv 1)))
      (pss_cons (ps_asg (pe_op op_fdivW (pe_ix ix_q (pv 0) pe_int (fun _ _ => rfl)) (pv 1)) (pg_sub (pv 0) pe_int set_list))
      (pss_one (ps_ret (pv 2))))) pss_nil)
      (pss_cons (ps_asg (pe_op op_add (pe_ix ix_q (pv 0) pe_int (fun _ _ => rfl)) pe_int) (pg_sub (pv 0) pe_int set_list))
      (pss_cons (ps_set (i := 2) sc__law_take.nd rfl (Or.inl rfl) (pe_op op_mod (pe_op op_add (pe_op op_add (pe_op op_mulA (pe_ix ix_q (pv 0) pe_int (fun _ _ => rfl)) pe_int) (pe_op op_mulA pe_int (pe_ix ix_q (pv 0) pe_int (fun _ _ => rfl)))) pe_int) pe_int))
      (pss_cons (ps_set (i := 2) sc__law_take.nd rfl (Or.inl rfl) (pe_op op_mod (pe_op op_add (pe_op op_add (pe_op op_mulA (pv 2) (pv 2)) (pe_op op_mulA pe_int (pe_ix ix_q (pv 0) pe_int (fun _ _ => rfl)))) pe_int) pe_int))
      (pss_one (ps_ret (pe_op op_mod (pe_op op_mod (pe_op op_mulA (pv 2) (pv 2)) pe_int) (pv 1)))))))), ?_⟩
  obtain ⟨p, n, rfl, ⟨x0, x1, x2, hb⟩, rfl, n0, n1, q⟩ := h
  have n2 : CDivW x0 n := wide_div n0 (b := 65) (by omega) (by decide) (by decide)
  simp only [and_assoc, rst, rs, re, ra, rq, rx, ro, rl, rl2, rsp, rz, rix, rln, rg, rd, ri, rv, rk, rdd, rwi, at0, at1, at2, at3, upd_at, List.getElem?_cons_zero, List.getElem?_cons_succ, Option.some.injEq, exists_eq_left', exists_eq_left, List.set_cons_zero, List.set_cons_succ, true_and, and_true, HO.lst.injEq, HO.tup.injEq, exists_and_left, exists_eq, exists_eq', Br.t, Br.f, Be.t, Be.f, List.cons.injEq, List.append_nil, scal, if_true, if_false, ite_true, ite_false, eq_self_iff_true, decide_true, decide_false, Bool.not_true, Bool.not_false, reduceIte, List.nil_append, List.cons_append, reduceCtorEq, false_and, exists_false, false_or, or_false, Int.reduceLT, ral, rmd, rsq, rlu, rdp, rrp, rrt, rtp, rzk, rsp5, Bool.true_or, Bool.false_or, Bool.or_false, Bool.or_true, hb]
  refine Br.d (fun c => ?_) fun c => ?_
  · simp only [and_assoc, rst, rs, re, ra, rq, rx, ro, rl, rl2, rsp, rz, rix, rln, rg, rd, ri, rv, rk, rdd, rwi, at0, at1, at2, at3, upd_at, List.getElem?_cons_zero, List.getElem?_cons_succ, Option.some.injEq, exists_eq_left', exists_eq_left, List.set_cons_zero, List.set_cons_succ, true_and, and_true, HO.lst.injEq, HO.tup.injEq, exists_and_left, exists_eq, exists_eq', Br.t, Br.f, Be.t, Be.f, List.cons.injEq, List.append_nil, scal, if_true, if_false, ite_true, ite_false, eq_self_iff_true, decide_true, decide_false, Bool.not_true, Bool.not_false, reduceIte, List.nil_append, List.cons_append, reduceCtorEq, false_and, exists_false, false_or, or_false, Int.reduceLT, ral, rmd, rsq, rlu, rdp, rrp, rrt, rtp, rzk, rsp5, Bool.true_or, Bool.false_or, Bool.or_false, Bool.or_true, hb]
    exact ⟨n0, n2, q _ _ (Int.emod_nonneg _ (by omega)) (Int.emod_lt_of_pos _ n0) ⟨_, _, _, upd_same⟩ fun a ha => upd_ne ha⟩
  · simp only [and_assoc, rst, rs, re, ra, rq, rx, ro, rl, rl2, rsp, rz, rix, rln, rg, rd, ri, rv, rk, rdd, rwi, at0, at1, at2, at3, upd_at, List.getElem?_cons_zero, List.getElem?_cons_succ, Option.some.injEq, exists_eq_left', exists_eq_left, List.set_cons_zero, List.set_cons_succ, true_and, and_true, HO.lst.injEq, HO.tup.injEq, exists_and_left, exists_eq, exists_eq', Br.t, Br.f, Be.t, Be.f, List.cons.injEq, List.append_nil, scal, if_true, if_false, ite_true, ite_false, eq_self_iff_true, decide_true, decide_false, Bool.not_true, Bool.not_false, reduceIte, List.nil_append, List.cons_append, reduceCtorEq, false_and, exists_false, false_or, or_false, Int.reduceLT, ral, rmd, rsq, rlu, rdp, rrp, rrt, rtp, rzk, rsp5, Bool.true_or, Bool.false_or, Bool.or_false, Bool.or_true, hb]
    exact ⟨small_mul (by decide) (by decide), small_mul' (by decide) (by decide), mod_mul _ _ (by decide) (by decide), small_mul' (by decide) (by decide), mod_mul _ _ (by decide) (by decide), n0, q _ _ (Int.emod_nonneg _ (by omega)) (Int.emod_lt_of_pos _ n0) ⟨_, _, _, upd_same⟩ fun a ha => upd_ne ha⟩
theorem ok__law_box (T : Tx K mg w)   : Cal P w K mg base 1 "_law_box" ["cell"] (sp__law_box K) := by
  refine cal_mk T.F__law_box T.g__law_box sc__law_box (len1 _) (fun _ _ _ _ _ _ us hl => match us, hl with | [_], _ => rfl) (fun cdv A outer s H vs Q E hr h => ?_)
  obtain ⟨v0, rfl, h⟩ := h
  have hu := hu_of hr.r
  refine ⟨_, (pss_cons (ps_if (pt_cmpR op_ge (pv 0) (pe_op op_pow pe_int pe_int) (nomark _)) (pss_one (ps_ret (pe_lstA (pa_cons (pv 0) (pa_cons (pe_op op_mod (pv 0) pe_int) (pa_cons pe_int pa_nil)))))) pss_nil)
      (pss_one (ps_ret (pe_lstA (pa_cons pe_int (pa_cons (pe_op op_mod (pv 0) pe_int) (pa_cons pe_int pa_nil))))))), ?_⟩
  obtain ⟨z, rfl, q⟩ := h
  simp only [and_assoc, rst, rs, re, ra, rq, rx, ro, rl, rl2, rsp, rz, rix, rln, rg, rd, ri, rv, rk, rdd, rwi, at0, at1, at2, at3, upd_at, List.getElem?_cons_zero, List.getElem?_cons_succ, Option.some.injEq, exists_eq_left', exists_eq_left, List.set_cons_zero, List.set_cons_succ, true_and, and_true, HO.lst.injEq, HO.tup.injEq, exists_and_left, exists_eq, exists_eq', Br.t, Br.f, Be.t, Be.f, List.cons.injEq, List.append_nil, scal, if_true, if_false, ite_true, ite_false, eq_self_iff_true, decide_true, decide_false, Bool.not_true, Bool.not_false, reduceIte, List.nil_append, List.cons_append, reduceCtorEq, false_and, exists_false, false_or, or_false, Int.reduceLT, ral, rmd, rsq, rlu, rdp, rrp, rrt, rtp, rzk, rsp5, Bool.true_or, Bool.false_or, Bool.or_false, Bool.or_true]
  refine ⟨⟨by decide, by decide, by decide⟩, ?_⟩
  refine Br.d (fun c => ?_) fun c => ?_
  · simp only [and_assoc, rst, rs, re, ra, rq, rx, ro, rl, rl2, rsp, rz, rix, rln, rg, rd, ri, rv, rk, rdd, rwi, at0, at1, at2, at3, upd_at, List.getElem?_cons_zero, List.getElem?_cons_succ, Option.some.injEq, exists_eq_left', exists_eq_left, List.set_cons_zero, List.set_cons_succ, true_and, and_true, HO.lst.injEq, HO.tup.injEq, exists_and_left, exists_eq, exists_eq', Br.t, Br.f, Be.t, Be.f, List.cons.injEq, List.append_nil, scal, if_true, if_false, ite_true, ite_false, eq_self_iff_true, decide_true, decide_false, Bool.not_true, Bool.not_false, reduceIte, List.nil_append, List.cons_append, reduceCtorEq, false_and, exists_false, false_or, or_false, Int.reduceLT, ral, rmd, rsq, rlu, rdp, rrp, rrt, rtp, rzk, rsp5, Bool.true_or, Bool.false_or, Bool.or_false, Bool.or_true]
    exact fun p H2 al => q p _ al.s al.f ⟨_, _, _, al.e⟩
  · simp only [and_assoc, rst, rs, re, ra, rq, rx, ro, rl, rl2, rsp, rz, rix, rln, rg, rd, ri, rv, rk, rdd, rwi, at0, at1, at2, at3, upd_at, List.getElem?_cons_zero, List.getElem?_cons_succ, Option.some.injEq, exists_eq_left', exists_eq_left, List.set_cons_zero, List.set_cons_succ, true_and, and_true, HO.lst.injEq, HO.tup.injEq, exists_and_left, exists_eq, exists_eq', Br.t, Br.f, Be.t, Be.f, List.cons.injEq, List.append_nil, scal, if_true, if_false, ite_true, ite_false, eq_self_iff_true, decide_true, decide_false, Bool.not_true, Bool.not_false, reduceIte, List.nil_append, List.cons_append, reduceCtorEq, false_and, exists_false, false_or, or_false, Int.reduceLT, ral, rmd, rsq, rlu, rdp, rrp, rrt, rtp, rzk, rsp5, Bool.true_or, Bool.false_or, Bool.or_false, Bool.or_true]
    exact fun p H2 al => q p _ al.s al.f ⟨_, _, _, al.e⟩
theorem ok__law_cell_at (T : Tx K mg w)   : Cal P w K mg base 1 "_law_cell_at" ["script", "k"] (sp__law_cell_at K) := by
  refine cal_mk T.F__law_cell_at T.g__law_cell_at sc__law_cell_at (len2 _) (fun _ _ _ _ _ _ us hl => match us, hl with | [_, _], _ => rfl) (fun cdv A outer s H vs Q E hr h => ?_)
  obtain ⟨v0, v1, rfl, h⟩ := h
  have hu := hu_of hr.r
  refine ⟨_, (pss_cons (ps_if (pt_cmpR op_lt (pv 1) (pe_callB call_len_seq (by rfl) T.n_len (by decide +kernel) (pa_cons (pv 0) pa_nil)) (nomark _)) (pss_one (ps_ret (pe_ix ix_list (pv 0) (pv 1) (fun _ _ => rfl)))) pss_nil)
      (pss_one (ps_ret (pe_op op_add (pe_op op_mulA pe_int (pv 1)) pe_int)))), ?_⟩
  obtain ⟨a, ns, i, rfl, hS, rfl, hl, q⟩ := h
  simp only [and_assoc, rst, rs, re, ra, rq, rx, ro, rl, rl2, rsp, rz, rix, rln, rg, rd, ri, rv, rk, rdd, rwi, at0, at1, at2, at3, upd_at, List.getElem?_cons_zero, List.getElem?_cons_succ, Option.some.injEq, exists_eq_left', exists_eq_left, List.set_cons_zero, List.set_cons_succ, true_and, and_true, HO.lst.injEq, HO.tup.injEq, exists_and_left, exists_eq, exists_eq', Br.t, Br.f, Be.t, Be.f, List.cons.injEq, List.append_nil, scal, if_true, if_false, ite_true, ite_false, eq_self_iff_true, decide_true, decide_false, Bool.not_true, Bool.not_false, reduceIte, List.nil_append, List.cons_append, reduceCtorEq, false_and, exists_false, false_or, or_false, Int.reduceLT, ral, rmd, rsq, rlu, rdp, rrp, rrt, rtp, rzk, rsp5, Bool.true_or, Bool.false_or, Bool.or_false, Bool.or_true]
  refine ⟨_, .inl hS, ?_⟩
  refine Br.d (fun c => ?_) fun c => ?_
  · simp only [and_assoc, rst, rs, re, ra, rq, rx, ro, rl, rl2, rsp, rz, rix, rln, rg, rd, ri, rv, rk, rdd, rwi, at0, at1, at2, at3, upd_at, List.getElem?_cons_zero, List.getElem?_cons_succ, Option.some.injEq, exists_eq_left', exists_eq_left, List.set_cons_zero, List.set_cons_succ, true_and, and_true, HO.lst.injEq, HO.tup.injEq, exists_and_left, exists_eq, exists_eq', Br.t, Br.f, Be.t, Be.f, List.cons.injEq, List.append_nil, scal, if_true, if_false, ite_true, ite_false, eq_self_iff_true, decide_true, decide_false, Bool.not_true, Bool.not_false, reduceIte, List.nil_append, List.cons_append, reduceCtorEq, false_and, exists_false, false_or, or_false, Int.reduceLT, ral, rmd, rsq, rlu, rdp, rrp, rrt, rtp, rzk, rsp5, Bool.true_or, Bool.false_or, Bool.or_false, Bool.or_true]
    rw [List.length_map] at c
    have c2 : i < ns.length := by omega
    refine ⟨a, _, _, .int ns[i], rfl, rfl, hS, atI_nat (by rw [List.getElem?_map, List.getElem?_eq_getElem c2]; rfl), q _⟩
  · simp only [and_assoc, rst, rs, re, ra, rq, rx, ro, rl, rl2, rsp, rz, rix, rln, rg, rd, ri, rv, rk, rdd, rwi, at0, at1, at2, at3, upd_at, List.getElem?_cons_zero, List.getElem?_cons_succ, Option.some.injEq, exists_eq_left', exists_eq_left, List.set_cons_zero, List.set_cons_succ, true_and, and_true, HO.lst.injEq, HO.tup.injEq, exists_and_left, exists_eq, exists_eq', Br.t, Br.f, Be.t, Be.f, List.cons.injEq, List.append_nil, scal, if_true, if_false, ite_true, ite_false, eq_self_iff_true, decide_true, decide_false, Bool.not_true, Bool.not_false, reduceIte, List.nil_append, List.cons_append, reduceCtorEq, false_and, exists_false, false_or, or_false, Int.reduceLT, ral, rmd, rsq, rlu, rdp, rrp, rrt, rtp, rzk, rsp5, Bool.true_or, Bool.false_or, Bool.or_false, Bool.or_true]
    exact ⟨small_mul' (by decide) (by decide), q _⟩
theorem atk {r : Int} (h0 : 0 ≤ r) (h1 : r < 6) : ∃ k : Sk, atI [V.str (Str.ofString "plus"), V.str (Str.ofString "times"), V.str (Str.ofString "cross"), V.str (Str.ofString "fold"), V.str (Str.ofString "rise"), V.str (Str.ofString "turn")] r = some (.str k.nm) := by
  have : r = 0 ∨ r = 1 ∨ r = 2 ∨ r = 3 ∨ r = 4 ∨ r = 5 := by omega
  rcases this with rfl | rfl | rfl | rfl | rfl | rfl
  · exact ⟨.plus, rfl⟩
  · exact ⟨.times, rfl⟩
  · exact ⟨.cross, rfl⟩
  · exact ⟨.fold, rfl⟩
  · exact ⟨.rise, rfl⟩
  · exact ⟨.turn, rfl⟩
def Sk.far : Sk → Bool
  | .fold => true
  | .rise => true
  | .turn => true
  | _ => false
theorem in_far (k : Sk) : (if false = true then !inV (.str k.nm) [V.str (Str.ofString "fold"), V.str (Str.ofString "rise"), V.str (Str.ofString "turn")] else inV (.str k.nm) [V.str (Str.ofString "fold"), V.str (Str.ofString "rise"), V.str (Str.ofString "turn")]) = k.far := by
  cases k <;> decide +kernel
theorem ok__law_step (T : Tx K mg w) (c__law_take : Cal P w K mg base 1 "_law_take" ["box", "many"] (sp__law_take K))  : Cal P w K mg base 2 "_law_step" ["box"] (sp__law_step K) := by
  refine cal_mk T.F__law_step T.g__law_step sc__law_step (len1 _) (fun _ _ _ _ _ _ us hl => match us, hl with | [_], _ => rfl) (fun cdv A outer s H vs Q E hr h => ?_)
  obtain ⟨v0, rfl, h⟩ := h
  have hu := hu_of hr.r
  refine ⟨_, (pss_cons (ps_set (i := 1) sc__law_step.nd rfl (Or.inl rfl) (pe_ix ix_q (pe_lstA (pa_cons pe_str (pa_cons pe_str (pa_cons pe_str (pa_cons pe_str (pa_cons pe_str (pa_cons pe_str pa_nil))))))) (pe_cal c__law_take hr (by decide) passL rfl (pa_cons (pv 0) (pa_cons pe_int pa_nil))) (fun _ _ => rfl)))
      (pss_cons (ps_if (pt_cmpR (show OpR _ (compareOp .In) (rIn K false) from op_in_seq) (pv 1) (pe_lstA (pa_cons pe_str (pa_cons pe_str (pa_cons pe_str pa_nil)))) rfl) (pss_one (ps_ret (pe_tupA (pa_cons (pv 1) (pa_cons (pe_op op_add pe_int (pe_cal c__law_take hr (by decide) passL rfl (pa_cons (pv 0) (pa_cons (pe_ix ix_q (pe_lstA (pa_cons pe_int (pa_cons pe_int pa_nil))) (pe_cal c__law_take hr (by decide) passL rfl (pa_cons (pv 0) (pa_cons pe_int pa_nil))) (fun _ _ => rfl)) pa_nil)))) pa_nil))))) pss_nil)
      (pss_cons (ps_set (i := 2) sc__law_step.nd rfl (Or.inl rfl) (pe_ix ix_q (pe_lstA (pa_cons (pe_cal c__law_take hr (by decide) passL rfl (pa_cons (pv 0) (pa_cons pe_int pa_nil))) (pa_cons (pe_op op_add (pe_op op_pow pe_int pe_int) (pe_op op_mulA (pe_cal c__law_take hr (by decide) passL rfl (pa_cons (pv 0) (pa_cons (pe_op op_pow pe_int pe_int) pa_nil))) pe_int)) (pa_cons (pe_cal c__law_take hr (by decide) passL rfl (pa_cons (pv 0) (pa_cons (pe_op op_pow pe_int pe_int) pa_nil))) pa_nil)))) (pe_cal c__law_take hr (by decide) passL rfl (pa_cons (pv 0) (pa_cons pe_int pa_nil))) (fun _ _ => rfl)))
      (pss_cons (ps_if (PW.pt (pw_and (pt_cmpR op_eq (pv 1) pe_str (nomark _)) (pw_and1 (pt_cmpR op_eq (pe_op op_mod (pv 2) pe_int) pe_int (nomark _))))) (pss_one (ps_set (i := 2) sc__law_step.nd rfl (Or.inl rfl) (pe_op op_add (pv 2) pe_int))) pss_nil)
      (pss_one (ps_ret (pe_tupA (pa_cons (pv 1) (pa_cons (pv 2) pa_nil))))))))), ?_⟩
  obtain ⟨p, rfl, hw, q⟩ := h
  refine seqI fun rr hr => ?_
  simp only [and_assoc, rst, rs, re, ra, rq, rx, ro, rl, rl2, rsp, rz, rix, rln, rg, rd, ri, rv, rk, rdd, rwi, at0, at1, at2, at3, upd_at, List.getElem?_cons_zero, List.getElem?_cons_succ, Option.some.injEq, exists_eq_left', exists_eq_left, List.set_cons_zero, List.set_cons_succ, true_and, and_true, HO.lst.injEq, HO.tup.injEq, exists_and_left, exists_eq, exists_eq', Br.t, Br.f, Be.t, Be.f, List.cons.injEq, List.append_nil, scal, if_true, if_false, ite_true, ite_false, eq_self_iff_true, decide_true, decide_false, Bool.not_true, Bool.not_false, reduceIte, List.nil_append, List.cons_append, reduceCtorEq, false_and, exists_false, false_or, or_false, Int.reduceLT, ral, rmd, rsq, rlu, rdp, rrp, rrt, rtp, rzk, rsp5, Bool.true_or, Bool.false_or, Bool.or_false, Bool.or_true]
  intro d H1 a1
  obtain ⟨nd, w1, _⟩ := alW hw a1
  refine ⟨_, _, rfl, p, 6, rfl, w1.1, rfl, by decide, by decide, fun r H2 r0 r1 b2 e2 => ?_⟩
  obtain ⟨k, hk⟩ := atk r0 r1
  refine ⟨_, (e2 d nd).trans a1.e, _, rfl, _, rfl, _, hk, ?_⟩
  have w2 := Wl.ds w1 b2 e2
  clear hk e2
  subst hr
  refine seqI fun rr hr => ?_
  simp only [and_assoc, rst, rs, re, ra, rq, rx, ro, rl, rl2, rsp, rz, rix, rln, rg, rd, ri, rv, rk, rdd, rwi, at0, at1, at2, at3, upd_at, List.getElem?_cons_zero, List.getElem?_cons_succ, Option.some.injEq, exists_eq_left', exists_eq_left, List.set_cons_zero, List.set_cons_succ, true_and, and_true, HO.lst.injEq, HO.tup.injEq, exists_and_left, exists_eq, exists_eq', Br.t, Br.f, Be.t, Be.f, List.cons.injEq, List.append_nil, scal, if_true, if_false, ite_true, ite_false, eq_self_iff_true, decide_true, decide_false, Bool.not_true, Bool.not_false, reduceIte, List.nil_append, List.cons_append, reduceCtorEq, false_and, exists_false, false_or, or_false, Int.reduceLT, ral, rmd, rsq, rlu, rdp, rrp, rrt, rtp, rzk, rsp5, Bool.true_or, Bool.false_or, Bool.or_false, Bool.or_true]
  intro d2 H3 a3
  obtain ⟨nd3, w3', _⟩ := alW w2.1 a3
  have w3 := Wl.trans w2 w3'
  refine ⟨d2, _, rfl, .inl (SqL.of a3.e), rfl, rfl, ?_⟩
  rw [in_far]
  refine ⟨_, rfl, Br.of (fun c => ?_) fun c => ?_⟩
  · simp only [and_assoc, rst, rs, re, ra, rq, rx, ro, rl, rl2, rsp, rz, rix, rln, rg, rd, ri, rv, rk, rdd, rwi, at0, at1, at2, at3, upd_at, List.getElem?_cons_zero, List.getElem?_cons_succ, Option.some.injEq, exists_eq_left', exists_eq_left, List.set_cons_zero, List.set_cons_succ, true_and, and_true, HO.lst.injEq, HO.tup.injEq, exists_and_left, exists_eq, exists_eq', Br.t, Br.f, Be.t, Be.f, List.cons.injEq, List.append_nil, scal, if_true, if_false, ite_true, ite_false, eq_self_iff_true, decide_true, decide_false, Bool.not_true, Bool.not_false, reduceIte, List.nil_append, List.cons_append, reduceCtorEq, false_and, exists_false, false_or, or_false, Int.reduceLT, ral, rmd, rsq, rlu, rdp, rrp, rrt, rtp, rzk, rsp5, Bool.true_or, Bool.false_or, Bool.or_false, Bool.or_true]
    intro d3 H4 a4
    obtain ⟨nd4, w4, _⟩ := alW w3.1 a4
    refine ⟨_, _, rfl, p, 2, rfl, w4.1, rfl, by decide, by decide, fun r2 H5 s0 s1 b5 e5 => ?_⟩
    have hx : ∃ m : Int, 1 ≤ m ∧ m ≤ 63 ∧ atI [V.int 7, V.int 63] r2 = some (.int m) := by
      have : r2 = 0 ∨ r2 = 1 := by omega
      rcases this with rfl | rfl
      · exact ⟨7, by decide, by decide, rfl⟩
      · exact ⟨63, by decide, by decide, rfl⟩
    obtain ⟨m, m0, m1, hx⟩ := hx
    refine ⟨_, (e5 d3 nd4).trans a4.e, _, rfl, _, rfl, _, hx, ?_⟩
    have w5 := Wl.ds (Wl.trans w3 w4) b5 e5
    refine ⟨_, _, rfl, p, m, rfl, b5, rfl, by omega, by omega, fun z H6 z0 z1 b6 e6 => ⟨_, rfl, fun g H7 a7 => ?_⟩⟩
    obtain ⟨ng, w7, hg⟩ := alW b6 a7
    refine q _ (k, 1 + z) _ (Wl.trans (Wl.ds w5 b6 e6) w7) ⟨g, rfl, hg⟩ ?_
    cases k <;> first | exact Bool.noConfusion (show false = true from c) | exact ⟨by show 1 ≤ 1 + z; omega, by show 1 + z ≤ 63; omega⟩
  · simp only [and_assoc, rst, rs, re, ra, rq, rx, ro, rl, rl2, rsp, rz, rix, rln, rg, rd, ri, rv, rk, rdd, rwi, at0, at1, at2, at3, upd_at, List.getElem?_cons_zero, List.getElem?_cons_succ, Option.some.injEq, exists_eq_left', exists_eq_left, List.set_cons_zero, List.set_cons_succ, true_and, and_true, HO.lst.injEq, HO.tup.injEq, exists_and_left, exists_eq, exists_eq', Br.t, Br.f, Be.t, Be.f, List.cons.injEq, List.append_nil, scal, if_true, if_false, ite_true, ite_false, eq_self_iff_true, decide_true, decide_false, Bool.not_true, Bool.not_false, reduceIte, List.nil_append, List.cons_append, reduceCtorEq, false_and, exists_false, false_or, or_false, Int.reduceLT, ral, rmd, rsq, rlu, rdp, rrp, rrt, rtp, rzk, rsp5, Bool.true_or, Bool.false_or, Bool.or_false, Bool.or_true]
    subst hr
    refine seqI fun rr hr => ?_
    simp only [and_assoc, rst, rs, re, ra, rq, rx, ro, rl, rl2, rsp, rz, rix, rln, rg, rd, ri, rv, rk, rdd, rwi, at0, at1, at2, at3, upd_at, List.getElem?_cons_zero, List.getElem?_cons_succ, Option.some.injEq, exists_eq_left', exists_eq_left, List.set_cons_zero, List.set_cons_succ, true_and, and_true, HO.lst.injEq, HO.tup.injEq, exists_and_left, exists_eq, exists_eq', Br.t, Br.f, Be.t, Be.f, List.cons.injEq, List.append_nil, scal, if_true, if_false, ite_true, ite_false, eq_self_iff_true, decide_true, decide_false, Bool.not_true, Bool.not_false, reduceIte, List.nil_append, List.cons_append, reduceCtorEq, false_and, exists_false, false_or, or_false, Int.reduceLT, ral, rmd, rsq, rlu, rdp, rrp, rrt, rtp, rzk, rsp5, Bool.true_or, Bool.false_or, Bool.or_false, Bool.or_true]
    refine ⟨_, _, rfl, p, 300, rfl, w3.1, rfl, by decide, by decide, fun y1 H4 u0 u1 b4 e4 => ?_⟩
    refine ⟨⟨by decide, by decide, by decide⟩, ⟨by decide, by decide, by decide⟩, _, _, rfl, p, 10 ^ 9, rfl, b4, rfl, by decide, by decide, fun y2 H5 u2 u3 b5 e5 => ?_⟩
    refine ⟨_, rfl, small_mul (by decide) (by decide), ⟨by decide, by decide, by decide⟩, _, _, rfl, p, 2 ^ 31, rfl, b5, rfl, by decide, by decide, fun y3 H6 u4 u5 b6 e6 => ?_⟩
    refine fun d3 H7 a7 => ?_
    obtain ⟨nd7, w7, _⟩ := alW b6 a7
    have W7 := Wl.trans (Wl.ds (Wl.ds (Wl.ds w3 b4 e4) b5 e5) b6 e6) w7
    refine ⟨_, _, rfl, p, 3, rfl, w7.1, rfl, by decide, by decide, fun r3 H8 v0 v1 b8 e8 => ?_⟩
    have W8 := Wl.ds W7 b8 e8
    have hx : ∃ z : Int, 0 ≤ z ∧ z ≤ 2 ^ 63 + 10 ^ 10 ∧ atI [V.int y1, V.int (2 ^ Int.toNat 63 + y2 * 3), V.int y3] r3 = some (.int z) := by
      have e63 : (2 : Int) ^ Int.toNat 63 = 2 ^ 63 := rfl
      have : r3 = 0 ∨ r3 = 1 ∨ r3 = 2 := by omega
      rcases this with rfl | rfl | rfl
      · exact ⟨y1, by omega, by omega, rfl⟩
      · exact ⟨2 ^ Int.toNat 63 + y2 * 3, by omega, by omega, rfl⟩
      · exact ⟨y3, by omega, by omega, rfl⟩
    obtain ⟨z, z0, z1, hx⟩ := hx
    refine ⟨_, (e8 d3 nd7).trans a7.e, _, rfl, _, rfl, _, hx, ?_⟩
    have fin : ∀ z', stOk k z' → ∀ g H9, Al H8 g (.tup [.str k.nm, .int z']) H9 → Q (.ref g) H9 := fun z' ok g H9 a9 => by
      obtain ⟨ng, w9, hg⟩ := alW b8 a9
      exact q _ (k, z') _ (Wl.trans W8 w9) ⟨g, rfl, hg⟩ ok
    have plain : k ≠ .times → stOk k z := fun n => by
      cases k <;> first | exact absurd rfl n | exact Bool.noConfusion (show true = false from c) | exact ⟨z0, by omega⟩
    subst hr
    refine seqI fun rr hr => ?_
    simp only [and_assoc, rst, rs, re, ra, rq, rx, ro, rl, rl2, rsp, rz, rix, rln, rg, rd, ri, rv, rk, rdd, rwi, at0, at1, at2, at3, upd_at, List.getElem?_cons_zero, List.getElem?_cons_succ, Option.some.injEq, exists_eq_left', exists_eq_left, List.set_cons_zero, List.set_cons_succ, true_and, and_true, HO.lst.injEq, HO.tup.injEq, exists_and_left, exists_eq, exists_eq', Br.t, Br.f, Be.t, Be.f, List.cons.injEq, List.append_nil, scal, if_true, if_false, ite_true, ite_false, eq_self_iff_true, decide_true, decide_false, Bool.not_true, Bool.not_false, reduceIte, List.nil_append, List.cons_append, reduceCtorEq, false_and, exists_false, false_or, or_false, Int.reduceLT, ral, rmd, rsq, rlu, rdp, rrp, rrt, rtp, rzk, rsp5, Bool.true_or, Bool.false_or, Bool.or_false, Bool.or_true]
    refine Be.d (fun c2 => ?_) fun c2 => ?_
    · have ek : k = .times := by
        cases k <;> first | rfl | exact absurd c2 (by simp only [Sk.nm]; decide +kernel)
      subst ek
      refine Br.d (fun c3 => ?_) fun c3 => ?_
      · simp only [and_assoc, rst, rs, re, ra, rq, rx, ro, rl, rl2, rsp, rz, rix, rln, rg, rd, ri, rv, rk, rdd, rwi, at0, at1, at2, at3, upd_at, List.getElem?_cons_zero, List.getElem?_cons_succ, Option.some.injEq, exists_eq_left', exists_eq_left, List.set_cons_zero, List.set_cons_succ, true_and, and_true, HO.lst.injEq, HO.tup.injEq, exists_and_left, exists_eq, exists_eq', Br.t, Br.f, Be.t, Be.f, List.cons.injEq, List.append_nil, scal, if_true, if_false, ite_true, ite_false, eq_self_iff_true, decide_true, decide_false, Bool.not_true, Bool.not_false, reduceIte, List.nil_append, List.cons_append, reduceCtorEq, false_and, exists_false, false_or, or_false, Int.reduceLT, ral, rmd, rsq, rlu, rdp, rrp, rrt, rtp, rzk, rsp5, Bool.true_or, Bool.false_or, Bool.or_false, Bool.or_true]
        subst hr
        simp only [and_assoc, rst, rs, re, ra, rq, rx, ro, rl, rl2, rsp, rz, rix, rln, rg, rd, ri, rv, rk, rdd, rwi, at0, at1, at2, at3, upd_at, List.getElem?_cons_zero, List.getElem?_cons_succ, Option.some.injEq, exists_eq_left', exists_eq_left, List.set_cons_zero, List.set_cons_succ, true_and, and_true, HO.lst.injEq, HO.tup.injEq, exists_and_left, exists_eq, exists_eq', Br.t, Br.f, Be.t, Be.f, List.cons.injEq, List.append_nil, scal, if_true, if_false, ite_true, ite_false, eq_self_iff_true, decide_true, decide_false, Bool.not_true, Bool.not_false, reduceIte, List.nil_append, List.cons_append, reduceCtorEq, false_and, exists_false, false_or, or_false, Int.reduceLT, ral, rmd, rsq, rlu, rdp, rrp, rrt, rtp, rzk, rsp5, Bool.true_or, Bool.false_or, Bool.or_false, Bool.or_true]
        exact fin _ ⟨by omega, by omega, by omega⟩
      · simp only [and_assoc, rst, rs, re, ra, rq, rx, ro, rl, rl2, rsp, rz, rix, rln, rg, rd, ri, rv, rk, rdd, rwi, at0, at1, at2, at3, upd_at, List.getElem?_cons_zero, List.getElem?_cons_succ, Option.some.injEq, exists_eq_left', exists_eq_left, List.set_cons_zero, List.set_cons_succ, true_and, and_true, HO.lst.injEq, HO.tup.injEq, exists_and_left, exists_eq, exists_eq', Br.t, Br.f, Be.t, Be.f, List.cons.injEq, List.append_nil, scal, if_true, if_false, ite_true, ite_false, eq_self_iff_true, decide_true, decide_false, Bool.not_true, Bool.not_false, reduceIte, List.nil_append, List.cons_append, reduceCtorEq, false_and, exists_false, false_or, or_false, Int.reduceLT, ral, rmd, rsq, rlu, rdp, rrp, rrt, rtp, rzk, rsp5, Bool.true_or, Bool.false_or, Bool.or_false, Bool.or_true]
        subst hr
        simp only [and_assoc, rst, rs, re, ra, rq, rx, ro, rl, rl2, rsp, rz, rix, rln, rg, rd, ri, rv, rk, rdd, rwi, at0, at1, at2, at3, upd_at, List.getElem?_cons_zero, List.getElem?_cons_succ, Option.some.injEq, exists_eq_left', exists_eq_left, List.set_cons_zero, List.set_cons_succ, true_and, and_true, HO.lst.injEq, HO.tup.injEq, exists_and_left, exists_eq, exists_eq', Br.t, Br.f, Be.t, Be.f, List.cons.injEq, List.append_nil, scal, if_true, if_false, ite_true, ite_false, eq_self_iff_true, decide_true, decide_false, Bool.not_true, Bool.not_false, reduceIte, List.nil_append, List.cons_append, reduceCtorEq, false_and, exists_false, false_or, or_false, Int.reduceLT, ral, rmd, rsq, rlu, rdp, rrp, rrt, rtp, rzk, rsp5, Bool.true_or, Bool.false_or, Bool.or_false, Bool.or_true]
        exact fin _ ⟨by omega, by omega, by omega⟩
    · subst hr
      simp only [and_assoc, rst, rs, re, ra, rq, rx, ro, rl, rl2, rsp, rz, rix, rln, rg, rd, ri, rv, rk, rdd, rwi, at0, at1, at2, at3, upd_at, List.getElem?_cons_zero, List.getElem?_cons_succ, Option.some.injEq, exists_eq_left', exists_eq_left, List.set_cons_zero, List.set_cons_succ, true_and, and_true, HO.lst.injEq, HO.tup.injEq, exists_and_left, exists_eq, exists_eq', Br.t, Br.f, Be.t, Be.f, List.cons.injEq, List.append_nil, scal, if_true, if_false, ite_true, ite_false, eq_self_iff_true, decide_true, decide_false, Bool.not_true, Bool.not_false, reduceIte, List.nil_append, List.cons_append, reduceCtorEq, false_and, exists_false, false_or, or_false, Int.reduceLT, ral, rmd, rsq, rlu, rdp, rrp, rrt, rtp, rzk, rsp5, Bool.true_or, Bool.false_or, Bool.or_false, Bool.or_true]
      exact fin _ (plain fun e => c2 (by rw [e]; rfl))
theorem StT.upd {H : Hp} {D : Addr} {l : List V} {o : HO} (h : H D = some (.lst l)) {s : Sk × Int} {v : V} (k : StT H s v) : StT (upd H D o) s v := by
  obtain ⟨p, e, h2⟩ := k
  exact ⟨p, e, by rw [upd_ne (fun z => by rw [z, h] at h2; cases h2)]; exact h2⟩
theorem wo_upd {p D : Addr} {H : Hp} {o : HO} (n : D ≠ p) : wo p (upd H D o) = upd (wo p H) D o := by
  funext a
  show (if a = p then none else if a = D then some o else H a) = (if a = D then some o else if a = p then none else H a)
  by_cases h : a = p
  · rw [if_pos h, if_neg (fun z => n (z.symm.trans h)), if_pos h]
  · rw [if_neg h, if_neg h]
theorem ok__law_machine (T : Tx K mg w) (c__law_take : Cal P w K mg base 1 "_law_take" ["box", "many"] (sp__law_take K)) (c__law_step : Cal P w K mg base 2 "_law_step" ["box"] (sp__law_step K))  : Cal P w K mg base 3 "_law_machine" ["box"] (sp__law_machine K) := by
  refine cal_mk T.F__law_machine T.g__law_machine sc__law_machine (len1 _) (fun _ _ _ _ _ _ us hl => match us, hl with | [_], _ => rfl) (fun cdv A outer s H vs Q E hr h => ?_)
  obtain ⟨v0, rfl, h⟩ := h
  have hu := hu_of hr.r
  refine ⟨_, (pss_cons (ps_asg (pe_ix ix_q (pe_lstA (pa_cons (pe_tupA (pa_cons (pe_cal c__law_take hr (by decide) passL rfl (pa_cons (pv 0) (pa_cons pe_int pa_nil))) (pa_cons (pe_op op_add pe_int (pe_cal c__law_take hr (by decide) passL rfl (pa_cons (pv 0) (pa_cons pe_int pa_nil)))) pa_nil))) (pa_cons (pe_tupA (pa_cons pe_int (pa_cons pe_int pa_nil))) pa_nil))) (pe_callTy call_int1 (by rfl) T.n_int (by decide +kernel) (pa_cons (pe_cmpR op_eq (pe_cal c__law_take hr (by decide) passL rfl (pa_cons (pv 0) (pa_cons pe_int pa_nil))) pe_int (nomark _)) pa_nil)) (fun _ _ => rfl)) (pg_tupQ rfl (pgs_cons (pg_name (i := 1) sc__law_machine.nd rfl (Or.inl rfl)) (pgs_cons (pg_name (i := 2) sc__law_machine.nd rfl (Or.inl rfl)) pgs_nil)) (gname_len (gname_len (fun _ _ _ _ h => gnil_len h)))))
      (pss_cons (ps_set (i := 3) sc__law_machine.nd rfl (Or.inl rfl) (pe_op op_add pe_int (pe_cal c__law_take hr (by decide) passL rfl (pa_cons (pv 0) (pa_cons pe_int pa_nil)))))
      (pss_cons (ps_set (i := 4) sc__law_machine.nd rfl (Or.inl rfl) (pe_ix ix_q (pe_lstA (pa_cons (pe_cal c__law_take hr (by decide) passL rfl (pa_cons (pv 0) (pa_cons pe_int pa_nil))) (pa_cons (pe_cal c__law_take hr (by decide) passL rfl (pa_cons (pv 0) (pa_cons pe_int pa_nil))) pa_nil))) (pe_callTy call_int1 (by rfl) T.n_int (by decide +kernel) (pa_cons (pe_cmpR op_eq (pe_cal c__law_take hr (by decide) passL rfl (pa_cons (pv 0) (pa_cons pe_int pa_nil))) pe_int (nomark _)) pa_nil)) (fun _ _ => rfl)))
      (pss_cons (ps_set (i := 4) sc__law_machine.nd rfl (Or.inl rfl) (pe_callB (call_min2 rfl) (by rfl) T.n_min (by decide +kernel) (pa_cons (pv 4) (pa_cons (pe_op op_sub (pe_op op_sub pe_int (pe_op op_mulA (pv 2) (pv 1))) (pv 3)) pa_nil))))
      (pss_cons (ps_while (passes_of rfl) (pt_cmpR op_lt (pe_op op_add (pe_op op_add (pv 4) (pe_op op_mulA (pv 2) (pv 1))) (pv 3)) pe_int (nomark _)) (pss_one (ps_set (i := 3) sc__law_machine.nd rfl (Or.inl rfl) (pe_op op_add (pv 3) pe_int))))
      (pss_one (ps_ret (pe_tupA (pa_cons (pv 4) (pa_cons (pv 2) (pa_cons (pv 1) (pa_cons (pv 3) (pa_cons (pe_lc (own := [("k", 5)]) (g := (gName 5)) rfl sc__law_machine.nd (pi_range1 (by rfl) T.n_range (pa_cons (pe_cal c__law_take hr (by decide) passL rfl (pa_cons (pv 0) (pa_cons pe_int pa_nil))) pa_nil)) (blkOk_by (N := nm__law_machine) (sc := defScope s__law_machine) (by decide +kernel)) (fun _ _ _ _ _ => (pg_name (i := 5) sc__law_machine.nd rfl (Or.inl rfl))) (fun _ _ _ _ _ => pts_nil) (fun _ _ _ _ _ => (pe_cal c__law_step hr (by decide) passL rfl (pa_cons (pv 0) pa_nil)))) pa_nil))))))))))))), ?_⟩
  obtain ⟨p, rfl, hw, q⟩ := h
  refine seqI fun rr hr => ?_
  simp only [and_assoc, rst, rs, re, ra, rq, rx, ro, rl, rl2, rsp, rz, rix, rln, rg, rd, ri, rv, rk, rdd, rwi, at0, at1, at2, at3, upd_at, List.getElem?_cons_zero, List.getElem?_cons_succ, Option.some.injEq, exists_eq_left', exists_eq_left, List.set_cons_zero, List.set_cons_succ, true_and, and_true, HO.lst.injEq, HO.tup.injEq, exists_and_left, exists_eq, exists_eq', Br.t, Br.f, Be.t, Be.f, List.cons.injEq, List.append_nil, scal, if_true, if_false, ite_true, ite_false, eq_self_iff_true, decide_true, decide_false, Bool.not_true, Bool.not_false, reduceIte, List.nil_append, List.cons_append, reduceCtorEq, false_and, exists_false, false_or, or_false, Int.reduceLT, ral, rmd, rsq, rlu, rdp, rrp, rrt, rtp, rzk, rsp5, Bool.true_or, Bool.false_or, Bool.or_false, Bool.or_true]
  refine ⟨_, _, rfl, p, 5, rfl, hw, rfl, by decide, by decide, fun d1 H1 d0 d5 b1 e1 => ⟨_, _, rfl, p, 3, rfl, b1, rfl, by decide, by decide, fun c1 H2 c0 c3 b2 e2 => ⟨_, rfl, fun t1 H3 a3 t2 H4 a4 l H5 a5 => ?_⟩⟩⟩
  obtain ⟨n3, w3, _⟩ := alW b2 a3
  obtain ⟨n4, w4, _⟩ := alW w3.1 a4
  obtain ⟨n5, w5, _⟩ := alW w4.1 a5
  refine ⟨_, _, rfl, p, 8, rfl, w5.1, rfl, by decide, by decide, fun c H6 y0 y1 b6 e6 => ?_⟩
  have W6 : Wl p H H6 := Wl.ds (Wl.trans (Wl.ds (Wl.ds (Wl.refl hw) b1 e1) b2 e2) (Wl.trans w3 (Wl.trans w4 w5))) b6 e6
  have h3 : H6 t1 = some (.tup [.int d1, .int (1 + c1)]) := (e6 _ n3).trans (a5.k (a4.k a3.e))
  have h4 : H6 t2 = some (.tup [.int 6, .int 5]) := (e6 _ n4).trans (a5.k a4.e)
  have key : ∃ (t : Addr) (dd bb : Nat), atI [V.ref t1, V.ref t2] (if decide (V.int c = V.int 0) = true then 1 else 0) = some (.ref t) ∧ H6 t = some (.tup [.int (dd : Nat), .int (bb : Nat)]) ∧ dd ≤ 6 ∧ 1 ≤ bb ∧ bb ≤ 5 ∧ bb * dd ≤ 30 := by
    by_cases z : V.int c = V.int 0
    · rw [if_pos (decide_eq_true z)]
      exact ⟨t2, 6, 5, rfl, h4, by decide, by decide, by decide, by decide⟩
    · rw [if_neg (by rw [decide_eq_false z]; decide)]
      refine ⟨t1, d1.toNat, (1 + c1).toNat, rfl, by rw [h3, Int.toNat_of_nonneg d0, Int.toNat_of_nonneg (by omega)], by omega, by omega, by omega, ?_⟩
      have : (1 + c1).toNat * d1.toNat ≤ 3 * 4 := Nat.mul_le_mul (by omega) (by omega)
      omega
  obtain ⟨t, dd, bb, ht, h6, dd6, bb1, bb5, bd⟩ := key
  refine ⟨rfl, _, (e6 l n5).trans a5.e, _, rfl, _, ht, ?_⟩
  refine ⟨t, rfl, _, h6, rfl, _, rfl, _, _, rfl, _, _, rfl, rfl, ?_⟩
  clear h3 h4 ht h6 e6 a3 a4 a5 w3 w4 w5 e1 e2
  subst hr
  refine seqI fun rr hr => ?_
  simp only [and_assoc, rst, rs, re, ra, rq, rx, ro, rl, rl2, rsp, rz, rix, rln, rg, rd, ri, rv, rk, rdd, rwi, at0, at1, at2, at3, upd_at, List.getElem?_cons_zero, List.getElem?_cons_succ, Option.some.injEq, exists_eq_left', exists_eq_left, List.set_cons_zero, List.set_cons_succ, true_and, and_true, HO.lst.injEq, HO.tup.injEq, exists_and_left, exists_eq, exists_eq', Br.t, Br.f, Be.t, Be.f, List.cons.injEq, List.append_nil, scal, if_true, if_false, ite_true, ite_false, eq_self_iff_true, decide_true, decide_false, Bool.not_true, Bool.not_false, reduceIte, List.nil_append, List.cons_append, reduceCtorEq, false_and, exists_false, false_or, or_false, Int.reduceLT, ral, rmd, rsq, rlu, rdp, rrp, rrt, rtp, rzk, rsp5, Bool.true_or, Bool.false_or, Bool.or_false, Bool.or_true]
  refine ⟨_, _, rfl, p, 7, rfl, b6, rfl, by decide, by decide, fun g7 H7 g0 g1 b7 e7 => ⟨_, rfl, ?_⟩⟩
  have W7 := Wl.ds W6 b7 e7
  subst hr
  refine seqI fun rr hr => ?_
  simp only [and_assoc, rst, rs, re, ra, rq, rx, ro, rl, rl2, rsp, rz, rix, rln, rg, rd, ri, rv, rk, rdd, rwi, at0, at1, at2, at3, upd_at, List.getElem?_cons_zero, List.getElem?_cons_succ, Option.some.injEq, exists_eq_left', exists_eq_left, List.set_cons_zero, List.set_cons_succ, true_and, and_true, HO.lst.injEq, HO.tup.injEq, exists_and_left, exists_eq, exists_eq', Br.t, Br.f, Be.t, Be.f, List.cons.injEq, List.append_nil, scal, if_true, if_false, ite_true, ite_false, eq_self_iff_true, decide_true, decide_false, Bool.not_true, Bool.not_false, reduceIte, List.nil_append, List.cons_append, reduceCtorEq, false_and, exists_false, false_or, or_false, Int.reduceLT, ral, rmd, rsq, rlu, rdp, rrp, rrt, rtp, rzk, rsp5, Bool.true_or, Bool.false_or, Bool.or_false, Bool.or_true]
  refine ⟨_, _, rfl, p, 7, rfl, b7, rfl, by decide, by decide, fun x1 H8 u0 u1 b8 e8 => ⟨_, _, rfl, p, 33, rfl, b8, rfl, by decide, by decide, fun x2 H9 u2 u3 b9 e9 d H10 a10 => ?_⟩⟩
  obtain ⟨n10, w10, _⟩ := alW b9 a10
  refine ⟨_, _, rfl, p, 4, rfl, w10.1, rfl, by decide, by decide, fun x3 H11 u4 u5 b11 e11 => ?_⟩
  have W11 := Wl.ds (Wl.trans (Wl.ds (Wl.ds W7 b8 e8) b9 e9) w10) b11 e11
  have key : ∃ z : Int, 0 ≤ z ∧ z ≤ 32 ∧ atI [V.int x1, V.int x2] (if decide (V.int x3 = V.int 0) = true then 1 else 0) = some (.int z) := by
    by_cases z : V.int x3 = V.int 0
    · rw [if_pos (decide_eq_true z)]
      exact ⟨x2, by omega, by omega, rfl⟩
    · rw [if_neg (by rw [decide_eq_false z]; decide)]
      exact ⟨x1, by omega, by omega, rfl⟩
  obtain ⟨z, z0, z1, hz⟩ := key
  refine ⟨rfl, _, (e11 d n10).trans a10.e, _, rfl, _, hz, ?_⟩
  clear hz e11 e9 e8 a10 w10
  subst hr
  refine seqI fun rr hr => ?_
  simp only [and_assoc, rst, rs, re, ra, rq, rx, ro, rl, rl2, rsp, rz, rix, rln, rg, rd, ri, rv, rk, rdd, rwi, at0, at1, at2, at3, upd_at, List.getElem?_cons_zero, List.getElem?_cons_succ, Option.some.injEq, exists_eq_left', exists_eq_left, List.set_cons_zero, List.set_cons_succ, true_and, and_true, HO.lst.injEq, HO.tup.injEq, exists_and_left, exists_eq, exists_eq', Br.t, Br.f, Be.t, Be.f, List.cons.injEq, List.append_nil, scal, if_true, if_false, ite_true, ite_false, eq_self_iff_true, decide_true, decide_false, Bool.not_true, Bool.not_false, reduceIte, List.nil_append, List.cons_append, reduceCtorEq, false_and, exists_false, false_or, or_false, Int.reduceLT, ral, rmd, rsq, rlu, rdp, rrp, rrt, rtp, rzk, rsp5, Bool.true_or, Bool.false_or, Bool.or_false, Bool.or_true]
  refine ⟨small_mul (by omega) (by omega), ?_⟩
  have key : ∃ (sb pl pr : Nat), (if 64 - (bb : Int) * (dd : Int) - (1 + g7) < z then 64 - (bb : Int) * (dd : Int) - (1 + g7) else z) = ((sb : Nat) : Int) ∧ (1 + g7) = ((pl : Nat) : Int) ∧ pr = bb * dd ∧ (bb : Int) * (dd : Int) = ((pr : Nat) : Int) ∧ sb ≤ 32 ∧ 1 ≤ pl ∧ pl ≤ 7 ∧ sb + pr + pl ≤ 64 := by
    have e : (bb : Int) * (dd : Int) = ((bb * dd : Nat) : Int) := by simp
    rw [e]
    generalize bb * dd = pr at bd ⊢
    by_cases y : 64 - (pr : Int) - (1 + g7) < z
    · rw [if_pos y]
      exact ⟨(64 - (pr : Int) - (1 + g7)).toNat, (1 + g7).toNat, pr, by omega, by omega, rfl, rfl, by omega, by omega, by omega, by omega⟩
    · rw [if_neg y]
      exact ⟨z.toNat, (1 + g7).toNat, pr, by omega, by omega, rfl, rfl, by omega, by omega, by omega, by omega⟩
  obtain ⟨sb, pl0, pr, esb, epl, hpr, epr, sb32, pl1, pl7, sum⟩ := key
  rw [esb, epl]
  subst hr
  refine seqI fun rr hr => ?_
  simp only [and_assoc, rst, rs, re, ra, rq, rx, ro, rl, rl2, rsp, rz, rix, rln, rg, rd, ri, rv, rk, rdd, rwi, at0, at1, at2, at3, upd_at, List.getElem?_cons_zero, List.getElem?_cons_succ, Option.some.injEq, exists_eq_left', exists_eq_left, List.set_cons_zero, List.set_cons_succ, true_and, and_true, HO.lst.injEq, HO.tup.injEq, exists_and_left, exists_eq, exists_eq', Br.t, Br.f, Be.t, Be.f, List.cons.injEq, List.append_nil, scal, if_true, if_false, ite_true, ite_false, eq_self_iff_true, decide_true, decide_false, Bool.not_true, Bool.not_false, reduceIte, List.nil_append, List.cons_append, reduceCtorEq, false_and, exists_false, false_or, or_false, Int.reduceLT, ral, rmd, rsq, rlu, rdp, rrp, rrt, rtp, rzk, rsp5, Bool.true_or, Bool.false_or, Bool.or_false, Bool.or_true]
  refine wh (fun n σ H' => ∃ pl : Nat, H' = H11 ∧ pl + n = 20 ∧ 1 ≤ pl ∧ pl ≤ 16 ∧ sb + pr + pl ≤ 64 ∧ σ = [some (.ref p), some (.int (dd : Nat)), some (.int (bb : Nat)), some (.int (pl : Nat)), some (.int (sb : Nat)), none]) (20 - pl0) ⟨pl0, rfl, by omega, by omega, by omega, by omega, rfl⟩ ?_
  rintro n σ H' ⟨pl, rfl, hn, l1, l16, lsum, rfl⟩
  simp only [and_assoc, rst, rs, re, ra, rq, rx, ro, rl, rl2, rsp, rz, rix, rln, rg, rd, ri, rv, rk, rdd, rwi, at0, at1, at2, at3, upd_at, List.getElem?_cons_zero, List.getElem?_cons_succ, Option.some.injEq, exists_eq_left', exists_eq_left, List.set_cons_zero, List.set_cons_succ, true_and, and_true, HO.lst.injEq, HO.tup.injEq, exists_and_left, exists_eq, exists_eq', Br.t, Br.f, Be.t, Be.f, List.cons.injEq, List.append_nil, scal, if_true, if_false, ite_true, ite_false, eq_self_iff_true, decide_true, decide_false, Bool.not_true, Bool.not_false, reduceIte, List.nil_append, List.cons_append, reduceCtorEq, false_and, exists_false, false_or, or_false, Int.reduceLT, ral, rmd, rsq, rlu, rdp, rrp, rrt, rtp, rzk, rsp5, Bool.true_or, Bool.false_or, Bool.or_false, Bool.or_true]
  refine ⟨small_mul (by omega) (by omega), ?_⟩
  rw [epr]
  refine Br.d (fun c2 => ?_) fun c2 => ?_
  · refine Nx.go ?_
    simp only [and_assoc, rst, rs, re, ra, rq, rx, ro, rl, rl2, rsp, rz, rix, rln, rg, rd, ri, rv, rk, rdd, rwi, at0, at1, at2, at3, upd_at, List.getElem?_cons_zero, List.getElem?_cons_succ, Option.some.injEq, exists_eq_left', exists_eq_left, List.set_cons_zero, List.set_cons_succ, true_and, and_true, HO.lst.injEq, HO.tup.injEq, exists_and_left, exists_eq, exists_eq', Br.t, Br.f, Be.t, Be.f, List.cons.injEq, List.append_nil, scal, if_true, if_false, ite_true, ite_false, eq_self_iff_true, decide_true, decide_false, Bool.not_true, Bool.not_false, reduceIte, List.nil_append, List.cons_append, reduceCtorEq, false_and, exists_false, false_or, or_false, Int.reduceLT, ral, rmd, rsq, rlu, rdp, rrp, rrt, rtp, rzk, rsp5, Bool.true_or, Bool.false_or, Bool.or_false, Bool.or_true]
    exact ⟨n - 1, by omega, pl + 1, by omega, by omega, by omega, by omega, by omega⟩
  · subst hr
    simp only [and_assoc, rst, rs, re, ra, rq, rx, ro, rl, rl2, rsp, rz, rix, rln, rg, rd, ri, rv, rk, rdd, rwi, at0, at1, at2, at3, upd_at, List.getElem?_cons_zero, List.getElem?_cons_succ, Option.some.injEq, exists_eq_left', exists_eq_left, List.set_cons_zero, List.set_cons_succ, true_and, and_true, HO.lst.injEq, HO.tup.injEq, exists_and_left, exists_eq, exists_eq', Br.t, Br.f, Be.t, Be.f, List.cons.injEq, List.append_nil, scal, if_true, if_false, ite_true, ite_false, eq_self_iff_true, decide_true, decide_false, Bool.not_true, Bool.not_false, reduceIte, List.nil_append, List.cons_append, reduceCtorEq, false_and, exists_false, false_or, or_false, Int.reduceLT, ral, rmd, rsq, rlu, rdp, rrp, rrt, rtp, rzk, rsp5, Bool.true_or, Bool.false_or, Bool.or_false, Bool.or_true]
    refine ⟨_, _, rfl, p, 6, rfl, b11, rfl, by decide, by decide, fun st H12 v0 v1 b12 e12 => ⟨st, rfl, by omega, by omega, ?_⟩⟩
    have W12 := Wl.ds W11 b12 e12
    refine LC.rng (fun D i G => D ≠ p ∧ ∃ ss xs, Wl p H12 G ∧ G D = some (.lst xs) ∧ All2 (StT (wo p G)) ss xs ∧ ss.length = i ∧ ∀ s ∈ ss, stOk s.1 s.2) (fun D hD => ?_) ?_ ?_
    · obtain ⟨nD, wD⟩ := newW (o := .lst []) b12 hD
      exact ⟨nD, [], [], wD, upd_same, True.intro, rfl, fun _ z => by cases z⟩
    · rintro D i G hD hi ⟨nD, ss, xs, wG, hd, al, len, ok⟩
      simp only [and_assoc, rst, rs, re, ra, rq, rx, ro, rl, rl2, rsp, rz, rix, rln, rg, rd, ri, rv, rk, rdd, rwi, at0, at1, at2, at3, upd_at, List.getElem?_cons_zero, List.getElem?_cons_succ, Option.some.injEq, exists_eq_left', exists_eq_left, List.set_cons_zero, List.set_cons_succ, true_and, and_true, HO.lst.injEq, HO.tup.injEq, exists_and_left, exists_eq, exists_eq', Br.t, Br.f, Be.t, Be.f, List.cons.injEq, List.append_nil, scal, if_true, if_false, ite_true, ite_false, eq_self_iff_true, decide_true, decide_false, Bool.not_true, Bool.not_false, reduceIte, List.nil_append, List.cons_append, reduceCtorEq, false_and, exists_false, false_or, or_false, Int.reduceLT, ral, rmd, rsq, rlu, rdp, rrp, rrt, rtp, rzk, rsp5, Bool.true_or, Bool.false_or, Bool.or_false, Bool.or_true]
      refine ⟨_, rfl, p, rfl, wG.1, fun v s G2 w2 sv so => ?_⟩
      have hd2 := w2.at nD hd
      have hlx := al.len
      refine ⟨_, hd2, by rw [sizeLine_eq]; omega, nD, Wl.mut (Wl.trans wG w2) nD hD, ss ++ [s], ?_, ?_, ?_⟩
      · have hd3 : wo p G2 D = some (.lst xs) := by rw [wo_at nD]; exact hd2
        rw [wo_upd nD]
        exact All2.snoc (StT.upd hd3 sv) (All2.imp (fun _ _ k => StT.upd hd3 (k.same w2.2)) al)
      · rw [List.length_append, len]
        rfl
      · intro s' hs'
        rcases List.mem_append.mp hs' with h | h
        · exact ok s' h
        · rw [List.mem_singleton.mp h]
          exact so
    · rintro D G hD ⟨nD, ss, xs, wG, hd, al, len, ok⟩
      intro g H13 a13
      obtain ⟨ng, w13, hg⟩ := alW wG.1 a13
      have hdw : wo p H13 D = some (.lst xs) := w13.2 _ _ (by rw [wo_at nD]; exact hd)
      exact q _ ⟨sb, bb, dd, pl⟩ ss _ (Wl.trans W12 (Wl.trans wG w13)) ⟨sb32, bb1, bb5, dd6, l1, l16, by show 4 ≤ sb + bb * dd + pl; rw [← hpr]; omega, by show sb + bb * dd + pl ≤ 64; rw [← hpr]; exact lsum⟩ ⟨g, D, xs, rfl, hg, hdw, All2.imp (fun _ _ k => k.same w13.2) al, by omega, ok⟩
theorem made1 {K : Fg} {H : Hp} {k : Sk} {z : Int} {x dx d dx' : Addr} {o1 o2 : HO} {os : List V} (hx : H x = none) (hd : H dx = none) (h : H d = some (.lst os)) :
    Same H (upd (upd (upd H dx o1) x o2) x (.ins (He.ga K k.cl) dx' [("much", .int z)])) ∧ ObS K (upd (upd (upd H dx o1) x o2) x (.ins (He.ga K k.cl) dx' [("much", .int z)])) (k, z) (.ref x) ∧
    (upd (upd (upd H dx o1) x o2) x (.ins (He.ga K k.cl) dx' [("much", .int z)])) d = some (.lst os) := by
  have s : Same H (upd (upd (upd H dx o1) x o2) x (.ins (He.ga K k.cl) dx' [("much", .int z)])) := fun a o e => by
    have n1 := ne_of_none e hx
    rw [upd_ne n1, upd_ne n1, upd_ne (ne_of_none e hd)]
    exact e
  exact ⟨s, ⟨x, dx', rfl, upd_same⟩, s _ _ h⟩
theorem ObS.upd {K : Fg} {H : Hp} {D : Addr} {l : List V} {o : HO} (h : H D = some (.lst l)) {s : Sk × Int} {v : V} (k : ObS K H s v) : ObS K (upd H D o) s v := by
  obtain ⟨a, dx, e, h2⟩ := k
  exact ⟨a, dx, e, by rw [upd_ne (fun z => by rw [z, h] at h2; cases h2)]; exact h2⟩
theorem ok__law_made (T : Tx K mg w) (c_Plus_init : CalM P w K mg base 5 "Plus" "__init__" ["self", "n"] (sp_Plus_init K)) (c_Times_init : CalM P w K mg base 6 "Times" "__init__" ["self", "n"] (sp_Times_init K)) (c_Cross_init : CalM P w K mg base 5 "Cross" "__init__" ["self", "n"] (sp_Cross_init K)) (c_Fold_init : CalM P w K mg base 5 "Fold" "__init__" ["self", "k"] (sp_Fold_init K)) (c_Rise_init : CalM P w K mg base 5 "Rise" "__init__" ["self", "k"] (sp_Rise_init K)) (c_Turn_init : CalM P w K mg base 5 "Turn" "__init__" ["self", "k"] (sp_Turn_init K)) (c_Machine_init : CalM P w K mg base 7 "Machine" "__init__" ["self", "seed_bits", "part_bits", "depth", "place_bits", "steps"] (sp_Machine_init K))  : Cal P w K mg base 9 "_law_made" ["m"] (sp__law_made K) := by
  refine cal_mk T.F__law_made T.g__law_made sc__law_made (len1 _) (fun _ _ _ _ _ _ us hl => match us, hl with | [_], _ => rfl) (fun cdv A outer s H vs Q E hr h => ?_)
  obtain ⟨v0, rfl, h⟩ := h
  have hu := hu_of hr.r
  refine ⟨_, (pss_cons (ps_set (i := 1) sc__law_made.nd rfl (Or.inl rfl) (pe_lstA pa_nil))
      (pss_cons (ps_for (passes_of rfl) rfl (pi_q (pe_ix ix_q (pv 0) pe_int (fun _ _ => rfl))) (pg_tupQ rfl (pgs_cons (pg_name (i := 2) sc__law_made.nd rfl (Or.inl rfl)) (pgs_cons (pg_name (i := 3) sc__law_made.nd rfl (Or.inl rfl)) pgs_nil)) (gname_len (gname_len (fun _ _ _ _ h => gnil_len h)))) (pss_one (ps_if (pt_cmpR op_eq (pv 2) pe_str (nomark _)) (pss_one (ps_expr (pe_ml PySem.F.slot_list_append PySem.F.type_list_append mt_append (pv 1) (pa_cons (pe_mk c_Plus_init T.mk_Plus T.g_Plus hr (by decide) passL rfl (pa_cons (pv 3) pa_nil)) pa_nil)))) (pss_one (ps_if (pt_cmpR op_eq (pv 2) pe_str (nomark _)) (pss_one (ps_expr (pe_ml PySem.F.slot_list_append PySem.F.type_list_append mt_append (pv 1) (pa_cons (pe_mk c_Times_init T.mk_Times T.g_Times hr (by decide) passL rfl (pa_cons (pv 3) pa_nil)) pa_nil)))) (pss_one (ps_if (pt_cmpR op_eq (pv 2) pe_str (nomark _)) (pss_one (ps_expr (pe_ml PySem.F.slot_list_append PySem.F.type_list_append mt_append (pv 1) (pa_cons (pe_mk c_Cross_init T.mk_Cross T.g_Cross hr (by decide) passL rfl (pa_cons (pv 3) pa_nil)) pa_nil)))) (pss_one (ps_if (pt_cmpR op_eq (pv 2) pe_str (nomark _)) (pss_one (ps_expr (pe_ml PySem.F.slot_list_append PySem.F.type_list_append mt_append (pv 1) (pa_cons (pe_mk c_Fold_init T.mk_Fold T.g_Fold hr (by decide) passL rfl (pa_cons (pv 3) pa_nil)) pa_nil)))) (pss_one (ps_if (pt_cmpR op_eq (pv 2) pe_str (nomark _)) (pss_one (ps_expr (pe_ml PySem.F.slot_list_append PySem.F.type_list_append mt_append (pv 1) (pa_cons (pe_mk c_Rise_init T.mk_Rise T.g_Rise hr (by decide) passL rfl (pa_cons (pv 3) pa_nil)) pa_nil)))) (pss_one (ps_expr (pe_ml PySem.F.slot_list_append PySem.F.type_list_append mt_append (pv 1) (pa_cons (pe_mk c_Turn_init T.mk_Turn T.g_Turn hr (by decide) passL rfl (pa_cons (pv 3) pa_nil)) pa_nil)))))))))))))))
      (pss_one (ps_ret (pe_mk c_Machine_init T.mk_Machine T.g_Machine hr (by decide) passL rfl (pa_cons (pe_ix ix_q (pv 0) pe_int (fun _ _ => rfl)) (pa_cons (pe_ix ix_q (pv 0) pe_int (fun _ _ => rfl)) (pa_cons (pe_ix ix_q (pv 0) pe_int (fun _ _ => rfl)) (pa_cons (pe_ix ix_q (pv 0) pe_int (fun _ _ => rfl)) (pa_cons (pv 1) pa_nil)))))))))), ?_⟩
  obtain ⟨m, ss, hm, ⟨tp, tq, xs, rfl, h1, h2, al, hl, ok⟩, q⟩ := h
  have ll := al.len
  refine seqI fun rr hr => ?_
  simp only [and_assoc, rst, rs, re, ra, rq, rx, ro, rl, rl2, rsp, rz, rix, rln, rg, rd, ri, rv, rk, rdd, rwi, at0, at1, at2, at3, upd_at, List.getElem?_cons_zero, List.getElem?_cons_succ, Option.some.injEq, exists_eq_left', exists_eq_left, List.set_cons_zero, List.set_cons_succ, true_and, and_true, HO.lst.injEq, HO.tup.injEq, exists_and_left, exists_eq, exists_eq', Br.t, Br.f, Be.t, Be.f, List.cons.injEq, List.append_nil, scal, if_true, if_false, ite_true, ite_false, eq_self_iff_true, decide_true, decide_false, Bool.not_true, Bool.not_false, reduceIte, List.nil_append, List.cons_append, reduceCtorEq, false_and, exists_false, false_or, or_false, Int.reduceLT, ral, rmd, rsq, rlu, rdp, rrp, rrt, rtp, rzk, rsp5, Bool.true_or, Bool.false_or, Bool.or_false, Bool.or_true]
  intro d H2 a2
  subst hr
  refine seqI fun rr hr => ?_
  have h1' := a2.k h1
  have h2' := a2.k h2
  simp only [and_assoc, rst, rs, re, ra, rq, rx, ro, rl, rl2, rsp, rz, rix, rln, rg, rd, ri, rv, rk, rdd, rwi, at0, at1, at2, at3, upd_at, List.getElem?_cons_zero, List.getElem?_cons_succ, Option.some.injEq, exists_eq_left', exists_eq_left, List.set_cons_zero, List.set_cons_succ, true_and, and_true, HO.lst.injEq, HO.tup.injEq, exists_and_left, exists_eq, exists_eq', Br.t, Br.f, Be.t, Be.f, List.cons.injEq, List.append_nil, scal, if_true, if_false, ite_true, ite_false, eq_self_iff_true, decide_true, decide_false, Bool.not_true, Bool.not_false, reduceIte, List.nil_append, List.cons_append, reduceCtorEq, false_and, exists_false, false_or, or_false, Int.reduceLT, ral, rmd, rsq, rlu, rdp, rrp, rrt, rtp, rzk, rsp5, Bool.true_or, Bool.false_or, Bool.or_false, Bool.or_true, h1']
  refine ⟨_, rfl, tq, rfl, _, h2', _, rfl, FI.seq (o := .lst xs) rfl (fun i σ H' => ∃ v2 v3 os, Same H H' ∧ (∀ a o, a ≠ d → H2 a = some o → H' a = some o) ∧ H' d = some (.lst os) ∧ All2 (ObS K H') (ss.take i) os ∧ σ = [some (.ref tp), some (.ref d), v2, v3]) ⟨none, none, [], a2.s, fun _ _ _ e => e, a2.e, True.intro, rfl⟩ (fun i σ H' _ ⟨_, _, _, _, k, _⟩ => k _ _ (fun e => by rw [e] at h2; rw [a2.f] at h2; cases h2) h2') ?_ ?_⟩
  · rintro i x σ H' hx ⟨v2, v3, os, s, k2, hd, alo, rfl⟩
    have hi : i < xs.length := (List.getElem?_eq_some_iff.mp hx).1
    obtain ⟨⟨k, z⟩, y, hs, hy, ⟨sp, e, hsp⟩⟩ := al.at (i := i) (by omega)
    rw [hx] at hy
    cases hy
    subst e
    have so := ok _ (List.mem_of_getElem? hs)
    have hlo := alo.len
    rw [List.length_take] at hlo
    simp only [and_assoc, rst, rs, re, ra, rq, rx, ro, rl, rl2, rsp, rz, rix, rln, rg, rd, ri, rv, rk, rdd, rwi, at0, at1, at2, at3, upd_at, List.getElem?_cons_zero, List.getElem?_cons_succ, Option.some.injEq, exists_eq_left', exists_eq_left, List.set_cons_zero, List.set_cons_succ, true_and, and_true, HO.lst.injEq, HO.tup.injEq, exists_and_left, exists_eq, exists_eq', Br.t, Br.f, Be.t, Be.f, List.cons.injEq, List.append_nil, scal, if_true, if_false, ite_true, ite_false, eq_self_iff_true, decide_true, decide_false, Bool.not_true, Bool.not_false, reduceIte, List.nil_append, List.cons_append, reduceCtorEq, false_and, exists_false, false_or, or_false, Int.reduceLT, ral, rmd, rsq, rlu, rdp, rrp, rrt, rtp, rzk, rsp5, Bool.true_or, Bool.false_or, Bool.or_false, Bool.or_true]
    refine ⟨_, s _ _ hsp, rfl, _, rfl, ?_⟩
    simp only [and_assoc, rst, rs, re, ra, rq, rx, ro, rl, rl2, rsp, rz, rix, rln, rg, rd, ri, rv, rk, rdd, rwi, at0, at1, at2, at3, upd_at, List.getElem?_cons_zero, List.getElem?_cons_succ, Option.some.injEq, exists_eq_left', exists_eq_left, List.set_cons_zero, List.set_cons_succ, true_and, and_true, HO.lst.injEq, HO.tup.injEq, exists_and_left, exists_eq, exists_eq', Br.t, Br.f, Be.t, Be.f, List.cons.injEq, List.append_nil, scal, if_true, if_false, ite_true, ite_false, eq_self_iff_true, decide_true, decide_false, Bool.not_true, Bool.not_false, reduceIte, List.nil_append, List.cons_append, reduceCtorEq, false_and, exists_false, false_or, or_false, Int.reduceLT, ral, rmd, rsq, rlu, rdp, rrp, rrt, rtp, rzk, rsp5, Bool.true_or, Bool.false_or, Bool.or_false, Bool.or_true]
    have step : ∀ (x dx dx' : Addr) (o1 o2 : HO), H' x = none → H' dx = none → ∃ os', (upd (upd (upd H' dx o1) x o2) x (.ins (He.ga K k.cl) dx' [("much", .int z)])) d = some (.lst os') ∧ os'.length < sizeLine ∧
        Same H (upd (upd (upd (upd H' dx o1) x o2) x (.ins (He.ga K k.cl) dx' [("much", .int z)])) d (.lst (os' ++ [.ref x]))) ∧ (∀ a o, a ≠ d → H2 a = some o → (if a = d then some (HO.lst (os' ++ [.ref x])) else (upd (upd (upd H' dx o1) x o2) x (.ins (He.ga K k.cl) dx' [("much", .int z)])) a) = some o) ∧
        All2 (ObS K (upd (upd (upd (upd H' dx o1) x o2) x (.ins (He.ga K k.cl) dx' [("much", .int z)])) d (.lst (os' ++ [.ref x])))) (ss.take (i + 1)) (os' ++ [.ref x]) := fun x dx dx' o1 o2 hx hdx => by
      obtain ⟨s1, ob, hd1⟩ := made1 (K := K) (k := k) (z := z) (dx' := dx') (o1 := o1) (o2 := o2) hx hdx hd
      refine ⟨os, hd1, by rw [sizeLine_eq]; omega, Same.mut (Same.trans s s1) a2.f, fun a o n e => by rw [if_neg n]; exact s1 _ _ (k2 a o n e), ?_⟩
      rw [take_snoc hs]
      exact All2.snoc (ob.upd hd1) (All2.imp (fun _ _ k => (k.same s1).upd hd1) alo)
    clear alo k2 al ok hs
    cases k
    · refine Br.d (fun c => ?_) (fun c => absurd rfl c)
      simp only [and_assoc, rst, rs, re, ra, rq, rx, ro, rl, rl2, rsp, rz, rix, rln, rg, rd, ri, rv, rk, rdd, rwi, at0, at1, at2, at3, upd_at, List.getElem?_cons_zero, List.getElem?_cons_succ, Option.some.injEq, exists_eq_left', exists_eq_left, List.set_cons_zero, List.set_cons_succ, true_and, and_true, HO.lst.injEq, HO.tup.injEq, exists_and_left, exists_eq, exists_eq', Br.t, Br.f, Be.t, Be.f, List.cons.injEq, List.append_nil, scal, if_true, if_false, ite_true, ite_false, eq_self_iff_true, decide_true, decide_false, Bool.not_true, Bool.not_false, reduceIte, List.nil_append, List.cons_append, reduceCtorEq, false_and, exists_false, false_or, or_false, Int.reduceLT, ral, rmd, rsq, rlu, rdp, rrp, rrt, rtp, rzk, rsp5, Bool.true_or, Bool.false_or, Bool.or_false, Bool.or_true]
      exact ⟨_, hd, fun x dx hx hdx nd => ⟨_, _, rfl, x, z, ⟨rfl, dx, upd_same⟩, rfl, so, fun dx' => ⟨rfl, step x dx dx' _ _ hx hdx⟩⟩⟩
    · refine Br.d (fun c => absurd c (by decide +kernel)) (fun _ => ?_)
      simp only [and_assoc, rst, rs, re, ra, rq, rx, ro, rl, rl2, rsp, rz, rix, rln, rg, rd, ri, rv, rk, rdd, rwi, at0, at1, at2, at3, upd_at, List.getElem?_cons_zero, List.getElem?_cons_succ, Option.some.injEq, exists_eq_left', exists_eq_left, List.set_cons_zero, List.set_cons_succ, true_and, and_true, HO.lst.injEq, HO.tup.injEq, exists_and_left, exists_eq, exists_eq', Br.t, Br.f, Be.t, Be.f, List.cons.injEq, List.append_nil, scal, if_true, if_false, ite_true, ite_false, eq_self_iff_true, decide_true, decide_false, Bool.not_true, Bool.not_false, reduceIte, List.nil_append, List.cons_append, reduceCtorEq, false_and, exists_false, false_or, or_false, Int.reduceLT, ral, rmd, rsq, rlu, rdp, rrp, rrt, rtp, rzk, rsp5, Bool.true_or, Bool.false_or, Bool.or_false, Bool.or_true]
      refine Br.d (fun c => ?_) (fun c => absurd rfl c)
      simp only [and_assoc, rst, rs, re, ra, rq, rx, ro, rl, rl2, rsp, rz, rix, rln, rg, rd, ri, rv, rk, rdd, rwi, at0, at1, at2, at3, upd_at, List.getElem?_cons_zero, List.getElem?_cons_succ, Option.some.injEq, exists_eq_left', exists_eq_left, List.set_cons_zero, List.set_cons_succ, true_and, and_true, HO.lst.injEq, HO.tup.injEq, exists_and_left, exists_eq, exists_eq', Br.t, Br.f, Be.t, Be.f, List.cons.injEq, List.append_nil, scal, if_true, if_false, ite_true, ite_false, eq_self_iff_true, decide_true, decide_false, Bool.not_true, Bool.not_false, reduceIte, List.nil_append, List.cons_append, reduceCtorEq, false_and, exists_false, false_or, or_false, Int.reduceLT, ral, rmd, rsq, rlu, rdp, rrp, rrt, rtp, rzk, rsp5, Bool.true_or, Bool.false_or, Bool.or_false, Bool.or_true]
      exact ⟨_, hd, fun x dx hx hdx nd => ⟨_, _, rfl, x, z, ⟨rfl, dx, upd_same⟩, rfl, so, fun dx' => ⟨rfl, step x dx dx' _ _ hx hdx⟩⟩⟩
    · refine Br.d (fun c => absurd c (by decide +kernel)) (fun _ => ?_)
      simp only [and_assoc, rst, rs, re, ra, rq, rx, ro, rl, rl2, rsp, rz, rix, rln, rg, rd, ri, rv, rk, rdd, rwi, at0, at1, at2, at3, upd_at, List.getElem?_cons_zero, List.getElem?_cons_succ, Option.some.injEq, exists_eq_left', exists_eq_left, List.set_cons_zero, List.set_cons_succ, true_and, and_true, HO.lst.injEq, HO.tup.injEq, exists_and_left, exists_eq, exists_eq', Br.t, Br.f, Be.t, Be.f, List.cons.injEq, List.append_nil, scal, if_true, if_false, ite_true, ite_false, eq_self_iff_true, decide_true, decide_false, Bool.not_true, Bool.not_false, reduceIte, List.nil_append, List.cons_append, reduceCtorEq, false_and, exists_false, false_or, or_false, Int.reduceLT, ral, rmd, rsq, rlu, rdp, rrp, rrt, rtp, rzk, rsp5, Bool.true_or, Bool.false_or, Bool.or_false, Bool.or_true]
      refine Br.d (fun c => absurd c (by decide +kernel)) (fun _ => ?_)
      simp only [and_assoc, rst, rs, re, ra, rq, rx, ro, rl, rl2, rsp, rz, rix, rln, rg, rd, ri, rv, rk, rdd, rwi, at0, at1, at2, at3, upd_at, List.getElem?_cons_zero, List.getElem?_cons_succ, Option.some.injEq, exists_eq_left', exists_eq_left, List.set_cons_zero, List.set_cons_succ, true_and, and_true, HO.lst.injEq, HO.tup.injEq, exists_and_left, exists_eq, exists_eq', Br.t, Br.f, Be.t, Be.f, List.cons.injEq, List.append_nil, scal, if_true, if_false, ite_true, ite_false, eq_self_iff_true, decide_true, decide_false, Bool.not_true, Bool.not_false, reduceIte, List.nil_append, List.cons_append, reduceCtorEq, false_and, exists_false, false_or, or_false, Int.reduceLT, ral, rmd, rsq, rlu, rdp, rrp, rrt, rtp, rzk, rsp5, Bool.true_or, Bool.false_or, Bool.or_false, Bool.or_true]
      refine Br.d (fun c => ?_) (fun c => absurd rfl c)
      simp only [and_assoc, rst, rs, re, ra, rq, rx, ro, rl, rl2, rsp, rz, rix, rln, rg, rd, ri, rv, rk, rdd, rwi, at0, at1, at2, at3, upd_at, List.getElem?_cons_zero, List.getElem?_cons_succ, Option.some.injEq, exists_eq_left', exists_eq_left, List.set_cons_zero, List.set_cons_succ, true_and, and_true, HO.lst.injEq, HO.tup.injEq, exists_and_left, exists_eq, exists_eq', Br.t, Br.f, Be.t, Be.f, List.cons.injEq, List.append_nil, scal, if_true, if_false, ite_true, ite_false, eq_self_iff_true, decide_true, decide_false, Bool.not_true, Bool.not_false, reduceIte, List.nil_append, List.cons_append, reduceCtorEq, false_and, exists_false, false_or, or_false, Int.reduceLT, ral, rmd, rsq, rlu, rdp, rrp, rrt, rtp, rzk, rsp5, Bool.true_or, Bool.false_or, Bool.or_false, Bool.or_true]
      exact ⟨_, hd, fun x dx hx hdx nd => ⟨_, _, rfl, x, z, ⟨rfl, dx, upd_same⟩, rfl, so, fun dx' => ⟨rfl, step x dx dx' _ _ hx hdx⟩⟩⟩
    · refine Br.d (fun c => absurd c (by decide +kernel)) (fun _ => ?_)
      simp only [and_assoc, rst, rs, re, ra, rq, rx, ro, rl, rl2, rsp, rz, rix, rln, rg, rd, ri, rv, rk, rdd, rwi, at0, at1, at2, at3, upd_at, List.getElem?_cons_zero, List.getElem?_cons_succ, Option.some.injEq, exists_eq_left', exists_eq_left, List.set_cons_zero, List.set_cons_succ, true_and, and_true, HO.lst.injEq, HO.tup.injEq, exists_and_left, exists_eq, exists_eq', Br.t, Br.f, Be.t, Be.f, List.cons.injEq, List.append_nil, scal, if_true, if_false, ite_true, ite_false, eq_self_iff_true, decide_true, decide_false, Bool.not_true, Bool.not_false, reduceIte, List.nil_append, List.cons_append, reduceCtorEq, false_and, exists_false, false_or, or_false, Int.reduceLT, ral, rmd, rsq, rlu, rdp, rrp, rrt, rtp, rzk, rsp5, Bool.true_or, Bool.false_or, Bool.or_false, Bool.or_true]
      refine Br.d (fun c => absurd c (by decide +kernel)) (fun _ => ?_)
      simp only [and_assoc, rst, rs, re, ra, rq, rx, ro, rl, rl2, rsp, rz, rix, rln, rg, rd, ri, rv, rk, rdd, rwi, at0, at1, at2, at3, upd_at, List.getElem?_cons_zero, List.getElem?_cons_succ, Option.some.injEq, exists_eq_left', exists_eq_left, List.set_cons_zero, List.set_cons_succ, true_and, and_true, HO.lst.injEq, HO.tup.injEq, exists_and_left, exists_eq, exists_eq', Br.t, Br.f, Be.t, Be.f, List.cons.injEq, List.append_nil, scal, if_true, if_false, ite_true, ite_false, eq_self_iff_true, decide_true, decide_false, Bool.not_true, Bool.not_false, reduceIte, List.nil_append, List.cons_append, reduceCtorEq, false_and, exists_false, false_or, or_false, Int.reduceLT, ral, rmd, rsq, rlu, rdp, rrp, rrt, rtp, rzk, rsp5, Bool.true_or, Bool.false_or, Bool.or_false, Bool.or_true]
      refine Br.d (fun c => absurd c (by decide +kernel)) (fun _ => ?_)
      simp only [and_assoc, rst, rs, re, ra, rq, rx, ro, rl, rl2, rsp, rz, rix, rln, rg, rd, ri, rv, rk, rdd, rwi, at0, at1, at2, at3, upd_at, List.getElem?_cons_zero, List.getElem?_cons_succ, Option.some.injEq, exists_eq_left', exists_eq_left, List.set_cons_zero, List.set_cons_succ, true_and, and_true, HO.lst.injEq, HO.tup.injEq, exists_and_left, exists_eq, exists_eq', Br.t, Br.f, Be.t, Be.f, List.cons.injEq, List.append_nil, scal, if_true, if_false, ite_true, ite_false, eq_self_iff_true, decide_true, decide_false, Bool.not_true, Bool.not_false, reduceIte, List.nil_append, List.cons_append, reduceCtorEq, false_and, exists_false, false_or, or_false, Int.reduceLT, ral, rmd, rsq, rlu, rdp, rrp, rrt, rtp, rzk, rsp5, Bool.true_or, Bool.false_or, Bool.or_false, Bool.or_true]
      refine Br.d (fun c => ?_) (fun c => absurd rfl c)
      simp only [and_assoc, rst, rs, re, ra, rq, rx, ro, rl, rl2, rsp, rz, rix, rln, rg, rd, ri, rv, rk, rdd, rwi, at0, at1, at2, at3, upd_at, List.getElem?_cons_zero, List.getElem?_cons_succ, Option.some.injEq, exists_eq_left', exists_eq_left, List.set_cons_zero, List.set_cons_succ, true_and, and_true, HO.lst.injEq, HO.tup.injEq, exists_and_left, exists_eq, exists_eq', Br.t, Br.f, Be.t, Be.f, List.cons.injEq, List.append_nil, scal, if_true, if_false, ite_true, ite_false, eq_self_iff_true, decide_true, decide_false, Bool.not_true, Bool.not_false, reduceIte, List.nil_append, List.cons_append, reduceCtorEq, false_and, exists_false, false_or, or_false, Int.reduceLT, ral, rmd, rsq, rlu, rdp, rrp, rrt, rtp, rzk, rsp5, Bool.true_or, Bool.false_or, Bool.or_false, Bool.or_true]
      exact ⟨_, hd, fun x dx hx hdx nd => ⟨_, _, rfl, x, z, ⟨rfl, dx, upd_same⟩, rfl, so, fun dx' => ⟨rfl, step x dx dx' _ _ hx hdx⟩⟩⟩
    · refine Br.d (fun c => absurd c (by decide +kernel)) (fun _ => ?_)
      simp only [and_assoc, rst, rs, re, ra, rq, rx, ro, rl, rl2, rsp, rz, rix, rln, rg, rd, ri, rv, rk, rdd, rwi, at0, at1, at2, at3, upd_at, List.getElem?_cons_zero, List.getElem?_cons_succ, Option.some.injEq, exists_eq_left', exists_eq_left, List.set_cons_zero, List.set_cons_succ, true_and, and_true, HO.lst.injEq, HO.tup.injEq, exists_and_left, exists_eq, exists_eq', Br.t, Br.f, Be.t, Be.f, List.cons.injEq, List.append_nil, scal, if_true, if_false, ite_true, ite_false, eq_self_iff_true, decide_true, decide_false, Bool.not_true, Bool.not_false, reduceIte, List.nil_append, List.cons_append, reduceCtorEq, false_and, exists_false, false_or, or_false, Int.reduceLT, ral, rmd, rsq, rlu, rdp, rrp, rrt, rtp, rzk, rsp5, Bool.true_or, Bool.false_or, Bool.or_false, Bool.or_true]
      refine Br.d (fun c => absurd c (by decide +kernel)) (fun _ => ?_)
      simp only [and_assoc, rst, rs, re, ra, rq, rx, ro, rl, rl2, rsp, rz, rix, rln, rg, rd, ri, rv, rk, rdd, rwi, at0, at1, at2, at3, upd_at, List.getElem?_cons_zero, List.getElem?_cons_succ, Option.some.injEq, exists_eq_left', exists_eq_left, List.set_cons_zero, List.set_cons_succ, true_and, and_true, HO.lst.injEq, HO.tup.injEq, exists_and_left, exists_eq, exists_eq', Br.t, Br.f, Be.t, Be.f, List.cons.injEq, List.append_nil, scal, if_true, if_false, ite_true, ite_false, eq_self_iff_true, decide_true, decide_false, Bool.not_true, Bool.not_false, reduceIte, List.nil_append, List.cons_append, reduceCtorEq, false_and, exists_false, false_or, or_false, Int.reduceLT, ral, rmd, rsq, rlu, rdp, rrp, rrt, rtp, rzk, rsp5, Bool.true_or, Bool.false_or, Bool.or_false, Bool.or_true]
      refine Br.d (fun c => absurd c (by decide +kernel)) (fun _ => ?_)
      simp only [and_assoc, rst, rs, re, ra, rq, rx, ro, rl, rl2, rsp, rz, rix, rln, rg, rd, ri, rv, rk, rdd, rwi, at0, at1, at2, at3, upd_at, List.getElem?_cons_zero, List.getElem?_cons_succ, Option.some.injEq, exists_eq_left', exists_eq_left, List.set_cons_zero, List.set_cons_succ, true_and, and_true, HO.lst.injEq, HO.tup.injEq, exists_and_left, exists_eq, exists_eq', Br.t, Br.f, Be.t, Be.f, List.cons.injEq, List.append_nil, scal, if_true, if_false, ite_true, ite_false, eq_self_iff_true, decide_true, decide_false, Bool.not_true, Bool.not_false, reduceIte, List.nil_append, List.cons_append, reduceCtorEq, false_and, exists_false, false_or, or_false, Int.reduceLT, ral, rmd, rsq, rlu, rdp, rrp, rrt, rtp, rzk, rsp5, Bool.true_or, Bool.false_or, Bool.or_false, Bool.or_true]
      refine Br.d (fun c => absurd c (by decide +kernel)) (fun _ => ?_)
      simp only [and_assoc, rst, rs, re, ra, rq, rx, ro, rl, rl2, rsp, rz, rix, rln, rg, rd, ri, rv, rk, rdd, rwi, at0, at1, at2, at3, upd_at, List.getElem?_cons_zero, List.getElem?_cons_succ, Option.some.injEq, exists_eq_left', exists_eq_left, List.set_cons_zero, List.set_cons_succ, true_and, and_true, HO.lst.injEq, HO.tup.injEq, exists_and_left, exists_eq, exists_eq', Br.t, Br.f, Be.t, Be.f, List.cons.injEq, List.append_nil, scal, if_true, if_false, ite_true, ite_false, eq_self_iff_true, decide_true, decide_false, Bool.not_true, Bool.not_false, reduceIte, List.nil_append, List.cons_append, reduceCtorEq, false_and, exists_false, false_or, or_false, Int.reduceLT, ral, rmd, rsq, rlu, rdp, rrp, rrt, rtp, rzk, rsp5, Bool.true_or, Bool.false_or, Bool.or_false, Bool.or_true]
      refine Br.d (fun c => ?_) (fun c => absurd rfl c)
      simp only [and_assoc, rst, rs, re, ra, rq, rx, ro, rl, rl2, rsp, rz, rix, rln, rg, rd, ri, rv, rk, rdd, rwi, at0, at1, at2, at3, upd_at, List.getElem?_cons_zero, List.getElem?_cons_succ, Option.some.injEq, exists_eq_left', exists_eq_left, List.set_cons_zero, List.set_cons_succ, true_and, and_true, HO.lst.injEq, HO.tup.injEq, exists_and_left, exists_eq, exists_eq', Br.t, Br.f, Be.t, Be.f, List.cons.injEq, List.append_nil, scal, if_true, if_false, ite_true, ite_false, eq_self_iff_true, decide_true, decide_false, Bool.not_true, Bool.not_false, reduceIte, List.nil_append, List.cons_append, reduceCtorEq, false_and, exists_false, false_or, or_false, Int.reduceLT, ral, rmd, rsq, rlu, rdp, rrp, rrt, rtp, rzk, rsp5, Bool.true_or, Bool.false_or, Bool.or_false, Bool.or_true]
      exact ⟨_, hd, fun x dx hx hdx nd => ⟨_, _, rfl, x, z, ⟨rfl, dx, upd_same⟩, rfl, so, fun dx' => ⟨rfl, step x dx dx' _ _ hx hdx⟩⟩⟩
    · refine Br.d (fun c => absurd c (by decide +kernel)) (fun _ => ?_)
      simp only [and_assoc, rst, rs, re, ra, rq, rx, ro, rl, rl2, rsp, rz, rix, rln, rg, rd, ri, rv, rk, rdd, rwi, at0, at1, at2, at3, upd_at, List.getElem?_cons_zero, List.getElem?_cons_succ, Option.some.injEq, exists_eq_left', exists_eq_left, List.set_cons_zero, List.set_cons_succ, true_and, and_true, HO.lst.injEq, HO.tup.injEq, exists_and_left, exists_eq, exists_eq', Br.t, Br.f, Be.t, Be.f, List.cons.injEq, List.append_nil, scal, if_true, if_false, ite_true, ite_false, eq_self_iff_true, decide_true, decide_false, Bool.not_true, Bool.not_false, reduceIte, List.nil_append, List.cons_append, reduceCtorEq, false_and, exists_false, false_or, or_false, Int.reduceLT, ral, rmd, rsq, rlu, rdp, rrp, rrt, rtp, rzk, rsp5, Bool.true_or, Bool.false_or, Bool.or_false, Bool.or_true]
      refine Br.d (fun c => absurd c (by decide +kernel)) (fun _ => ?_)
      simp only [and_assoc, rst, rs, re, ra, rq, rx, ro, rl, rl2, rsp, rz, rix, rln, rg, rd, ri, rv, rk, rdd, rwi, at0, at1, at2, at3, upd_at, List.getElem?_cons_zero, List.getElem?_cons_succ, Option.some.injEq, exists_eq_left', exists_eq_left, List.set_cons_zero, List.set_cons_succ, true_and, and_true, HO.lst.injEq, HO.tup.injEq, exists_and_left, exists_eq, exists_eq', Br.t, Br.f, Be.t, Be.f, List.cons.injEq, List.append_nil, scal, if_true, if_false, ite_true, ite_false, eq_self_iff_true, decide_true, decide_false, Bool.not_true, Bool.not_false, reduceIte, List.nil_append, List.cons_append, reduceCtorEq, false_and, exists_false, false_or, or_false, Int.reduceLT, ral, rmd, rsq, rlu, rdp, rrp, rrt, rtp, rzk, rsp5, Bool.true_or, Bool.false_or, Bool.or_false, Bool.or_true]
      refine Br.d (fun c => absurd c (by decide +kernel)) (fun _ => ?_)
      simp only [and_assoc, rst, rs, re, ra, rq, rx, ro, rl, rl2, rsp, rz, rix, rln, rg, rd, ri, rv, rk, rdd, rwi, at0, at1, at2, at3, upd_at, List.getElem?_cons_zero, List.getElem?_cons_succ, Option.some.injEq, exists_eq_left', exists_eq_left, List.set_cons_zero, List.set_cons_succ, true_and, and_true, HO.lst.injEq, HO.tup.injEq, exists_and_left, exists_eq, exists_eq', Br.t, Br.f, Be.t, Be.f, List.cons.injEq, List.append_nil, scal, if_true, if_false, ite_true, ite_false, eq_self_iff_true, decide_true, decide_false, Bool.not_true, Bool.not_false, reduceIte, List.nil_append, List.cons_append, reduceCtorEq, false_and, exists_false, false_or, or_false, Int.reduceLT, ral, rmd, rsq, rlu, rdp, rrp, rrt, rtp, rzk, rsp5, Bool.true_or, Bool.false_or, Bool.or_false, Bool.or_true]
      refine Br.d (fun c => absurd c (by decide +kernel)) (fun _ => ?_)
      simp only [and_assoc, rst, rs, re, ra, rq, rx, ro, rl, rl2, rsp, rz, rix, rln, rg, rd, ri, rv, rk, rdd, rwi, at0, at1, at2, at3, upd_at, List.getElem?_cons_zero, List.getElem?_cons_succ, Option.some.injEq, exists_eq_left', exists_eq_left, List.set_cons_zero, List.set_cons_succ, true_and, and_true, HO.lst.injEq, HO.tup.injEq, exists_and_left, exists_eq, exists_eq', Br.t, Br.f, Be.t, Be.f, List.cons.injEq, List.append_nil, scal, if_true, if_false, ite_true, ite_false, eq_self_iff_true, decide_true, decide_false, Bool.not_true, Bool.not_false, reduceIte, List.nil_append, List.cons_append, reduceCtorEq, false_and, exists_false, false_or, or_false, Int.reduceLT, ral, rmd, rsq, rlu, rdp, rrp, rrt, rtp, rzk, rsp5, Bool.true_or, Bool.false_or, Bool.or_false, Bool.or_true]
      refine Br.d (fun c => absurd c (by decide +kernel)) (fun _ => ?_)
      simp only [and_assoc, rst, rs, re, ra, rq, rx, ro, rl, rl2, rsp, rz, rix, rln, rg, rd, ri, rv, rk, rdd, rwi, at0, at1, at2, at3, upd_at, List.getElem?_cons_zero, List.getElem?_cons_succ, Option.some.injEq, exists_eq_left', exists_eq_left, List.set_cons_zero, List.set_cons_succ, true_and, and_true, HO.lst.injEq, HO.tup.injEq, exists_and_left, exists_eq, exists_eq', Br.t, Br.f, Be.t, Be.f, List.cons.injEq, List.append_nil, scal, if_true, if_false, ite_true, ite_false, eq_self_iff_true, decide_true, decide_false, Bool.not_true, Bool.not_false, reduceIte, List.nil_append, List.cons_append, reduceCtorEq, false_and, exists_false, false_or, or_false, Int.reduceLT, ral, rmd, rsq, rlu, rdp, rrp, rrt, rtp, rzk, rsp5, Bool.true_or, Bool.false_or, Bool.or_false, Bool.or_true]
      exact ⟨_, hd, fun x dx hx hdx nd => ⟨_, _, rfl, x, z, ⟨rfl, dx, upd_same⟩, rfl, so, fun dx' => ⟨rfl, step x dx dx' _ _ hx hdx⟩⟩⟩
  · rintro σ H' ⟨v2, v3, os, s, k2, hd, alo, rfl⟩
    subst hr
    rw [List.take_of_length_le (by omega)] at alo
    have h1b := s _ _ h1
    simp only [and_assoc, rst, rs, re, ra, rq, rx, ro, rl, rl2, rsp, rz, rix, rln, rg, rd, ri, rv, rk, rdd, rwi, at0, at1, at2, at3, upd_at, List.getElem?_cons_zero, List.getElem?_cons_succ, Option.some.injEq, exists_eq_left', exists_eq_left, List.set_cons_zero, List.set_cons_succ, true_and, and_true, HO.lst.injEq, HO.tup.injEq, exists_and_left, exists_eq, exists_eq', Br.t, Br.f, Be.t, Be.f, List.cons.injEq, List.append_nil, scal, if_true, if_false, ite_true, ite_false, eq_self_iff_true, decide_true, decide_false, Bool.not_true, Bool.not_false, reduceIte, List.nil_append, List.cons_append, reduceCtorEq, false_and, exists_false, false_or, or_false, Int.reduceLT, ral, rmd, rsq, rlu, rdp, rrp, rrt, rtp, rzk, rsp5, Bool.true_or, Bool.false_or, Bool.or_false, Bool.or_true, h1b]
    intro x dx hx hdx nd
    have hlo := alo.len
    refine ⟨_, _, _, _, _, _, rfl, x, m, d, ss, os, ⟨rfl, dx, upd_same⟩, hm, rfl, rfl, rfl, rfl, rfl, ne_of_none hd hx, by rw [upd_ne (ne_of_none hd hx), upd_ne (ne_of_none hd hdx)]; exact hd, All2.imp (fun _ _ o => o.same (mkA hx hdx)) alo, by omega, fun H3 k3 ob => ⟨rfl, q _ H3 (Same.trans s (mkS hx hdx k3)) ⟨x, rfl, Same.free s hx⟩ ob⟩⟩
theorem one_shl (k : Nat) : (1 : Int) * 2 ^ ((k : Int)).toNat = 2 ^ k := by rw [Int.one_mul, Int.toNat_natCast]
theorem p2k : ∀ k : Nat, k ≤ 64 → (1 : Int) ≤ 2 ^ k ∧ (2 : Int) ^ k ≤ 2 ^ 64 := by decide +kernel
theorem ok__law_seed (T : Tx K mg w) (c__law_take : Cal P w K mg base 1 "_law_take" ["box", "many"] (sp__law_take K))  : Cal P w K mg base 2 "_law_seed" ["box", "m"] (sp__law_seed K) := by
  refine cal_mk T.F__law_seed T.g__law_seed sc__law_seed (len2 _) (fun _ _ _ _ _ _ us hl => match us, hl with | [_, _], _ => rfl) (fun cdv A outer s H vs Q E hr h => ?_)
  obtain ⟨v0, v1, rfl, h⟩ := h
  have hu := hu_of hr.r
  refine ⟨_, (pss_one (ps_ret (pe_cal c__law_take hr (by decide) passL rfl (pa_cons (pv 0) (pa_cons (pe_op op_shlW pe_int (pe_ix ix_q (pv 1) pe_int (fun _ _ => rfl))) pa_nil))))), ?_⟩
  obtain ⟨p, m, ss, rfl, hw, hm, tm, q⟩ := h
  obtain ⟨tp, tq, xs, rfl, h1, h2, _⟩ := tm
  simp only [and_assoc, rst, rs, re, ra, rq, rx, ro, rl, rl2, rsp, rz, rix, rln, rg, rd, ri, rv, rk, rdd, rwi, at0, at1, at2, at3, upd_at, List.getElem?_cons_zero, List.getElem?_cons_succ, Option.some.injEq, exists_eq_left', exists_eq_left, List.set_cons_zero, List.set_cons_succ, true_and, and_true, HO.lst.injEq, HO.tup.injEq, exists_and_left, exists_eq, exists_eq', Br.t, Br.f, Be.t, Be.f, List.cons.injEq, List.append_nil, scal, if_true, if_false, ite_true, ite_false, eq_self_iff_true, decide_true, decide_false, Bool.not_true, Bool.not_false, reduceIte, List.nil_append, List.cons_append, reduceCtorEq, false_and, exists_false, false_or, or_false, Int.reduceLT, ral, rmd, rsq, rlu, rdp, rrp, rrt, rtp, rzk, rsp5, Bool.true_or, Bool.false_or, Bool.or_false, Bool.or_true, wo_same _ _ h1]
  refine ⟨shl1 (by have := hm.1; omega), ?_⟩
  rw [one_shl]
  have b := p2k m.sb (by have := hm.1; omega)
  exact ⟨_, _, rfl, p, _, rfl, hw, rfl, by omega, b.2, fun r H1 r0 r1 b1 e1 => q r H1 (Wl.draw b1 e1) r0 r1⟩
theorem ok__law_path (T : Tx K mg w) (c__law_take : Cal P w K mg base 1 "_law_take" ["box", "many"] (sp__law_take K))  : Cal P w K mg base 2 "_law_path" ["box", "m"] (sp__law_path K) := by
  refine cal_mk T.F__law_path T.g__law_path sc__law_path (len2 _) (fun _ _ _ _ _ _ us hl => match us, hl with | [_, _], _ => rfl) (fun cdv A outer s H vs Q E hr h => ?_)
  obtain ⟨v0, v1, rfl, h⟩ := h
  have hu := hu_of hr.r
  refine ⟨_, (pss_cons (ps_set (i := 2) sc__law_path.nd rfl (Or.inr rfl) (pe_op op_sub (pe_op op_shlW pe_int (pe_ix ix_q (pv 1) pe_int (fun _ _ => rfl))) pe_int))
      (pss_one (ps_ret (pe_callTy tup_al (by rfl) T.n_tuple (by decide +kernel) (pa_cons (pe_lc (own := [("k", 3)]) (g := (gName 3)) rfl sc__law_path.nd (pi_range1 (by rfl) T.n_range (pa_cons (pe_cal c__law_take hr (by decide) passL rfl (pa_cons (pv 0) (pa_cons (pe_op op_add (pe_ix ix_q (pv 1) pe_int (fun _ _ => rfl)) pe_int) pa_nil))) pa_nil)) (blkOk_by (N := nm__law_path) (sc := defScope s__law_path) (by decide +kernel)) (fun _ _ _ _ _ => (pg_name (i := 3) sc__law_path.nd rfl (Or.inl rfl))) (fun _ _ _ _ _ => pts_nil) (fun _ _ _ _ _ => (pe_cal c__law_take hr (by decide) passL rfl (pa_cons (pv 0) (pa_cons (pv 2) pa_nil))))) pa_nil))))), ?_⟩
  obtain ⟨p, m, ss, rfl, hw, hm, tm, q⟩ := h
  obtain ⟨tp, tq, xs, rfl, h1, h2, _⟩ := tm
  obtain ⟨o1, o2, o3, o4, _⟩ := id hm
  simp only [and_assoc, rst, rs, re, ra, rq, rx, ro, rl, rl2, rsp, rz, rix, rln, rg, rd, ri, rv, rk, rdd, rwi, at0, at1, at2, at3, upd_at, List.getElem?_cons_zero, List.getElem?_cons_succ, Option.some.injEq, exists_eq_left', exists_eq_left, List.set_cons_zero, List.set_cons_succ, true_and, and_true, HO.lst.injEq, HO.tup.injEq, exists_and_left, exists_eq, exists_eq', Br.t, Br.f, Be.t, Be.f, List.cons.injEq, List.append_nil, scal, if_true, if_false, ite_true, ite_false, eq_self_iff_true, decide_true, decide_false, Bool.not_true, Bool.not_false, reduceIte, List.nil_append, List.cons_append, reduceCtorEq, false_and, exists_false, false_or, or_false, Int.reduceLT, ral, rmd, rsq, rlu, rdp, rrp, rrt, rtp, rzk, rsp5, Bool.true_or, Bool.false_or, Bool.or_false, Bool.or_true, wo_same _ _ h1]
  refine ⟨shl1 (by omega), ?_⟩
  rw [one_shl, show (2 : Int) ^ m.pb - 1 = m.parts from rfl]
  have pb : 1 ≤ m.parts ∧ m.parts ≤ 2 ^ 64 := by
    have : ∀ k : Nat, k ≤ 5 → 1 ≤ k → (1 : Int) ≤ 2 ^ k - 1 ∧ (2 : Int) ^ k - 1 ≤ 2 ^ 64 := by decide +kernel
    exact this m.pb o3 o2
  refine ⟨_, _, rfl, p, _, rfl, hw, rfl, by omega, by omega, fun n H1 n0 n1 b1 e1 => ⟨n, rfl, by omega, by omega, ?_⟩⟩
  refine LC.rng (fun D i G => D ≠ p ∧ ∃ cs : List Int, Wl p H1 G ∧ G D = some (.lst (cs.map V.int)) ∧ cs.length = i ∧ ∀ c ∈ cs, 0 ≤ c ∧ c < m.parts) (fun D hD => ?_) ?_ ?_
  · obtain ⟨nD, wD⟩ := newW (o := .lst []) b1 hD
    exact ⟨nD, [], wD, upd_same, rfl, fun _ z => by cases z⟩
  · rintro D i G hD hi ⟨nD, cs, wG, hd, len, ok⟩
    simp only [and_assoc, rst, rs, re, ra, rq, rx, ro, rl, rl2, rsp, rz, rix, rln, rg, rd, ri, rv, rk, rdd, rwi, at0, at1, at2, at3, upd_at, List.getElem?_cons_zero, List.getElem?_cons_succ, Option.some.injEq, exists_eq_left', exists_eq_left, List.set_cons_zero, List.set_cons_succ, true_and, and_true, HO.lst.injEq, HO.tup.injEq, exists_and_left, exists_eq, exists_eq', Br.t, Br.f, Be.t, Be.f, List.cons.injEq, List.append_nil, scal, if_true, if_false, ite_true, ite_false, eq_self_iff_true, decide_true, decide_false, Bool.not_true, Bool.not_false, reduceIte, List.nil_append, List.cons_append, reduceCtorEq, false_and, exists_false, false_or, or_false, Int.reduceLT, ral, rmd, rsq, rlu, rdp, rrp, rrt, rtp, rzk, rsp5, Bool.true_or, Bool.false_or, Bool.or_false, Bool.or_true]
    refine ⟨_, _, rfl, p, _, rfl, wG.1, rfl, by omega, pb.2, fun c G2 c0 c1 b2 e2 => ?_⟩
    have hd2 := (e2 D nD).trans hd
    refine ⟨_, hd2, by rw [List.length_map, sizeLine_eq]; omega, nD, Wl.mut (Wl.ds wG b2 e2) nD hD, cs ++ [c], by rw [List.map_append]; rfl, by rw [List.length_append, len]; rfl, ?_⟩
    intro c' hc'
    rcases List.mem_append.mp hc' with h | h
    · exact ok c' h
    · rw [List.mem_singleton.mp h]
      exact ⟨c0, c1⟩
  · rintro D G hD ⟨nD, cs, wG, hd, len, ok⟩
    refine ⟨D, rfl, _, hd, fun l G2 a2 => ?_⟩
    obtain ⟨nl, w2, hl⟩ := alW wG.1 a2
    exact q l cs _ (Wl.trans (Wl.draw b1 e1) (Wl.trans wG w2)) hl (by omega) ok
theorem ok__law_stretch (T : Tx K mg w) (c__law_take : Cal P w K mg base 1 "_law_take" ["box", "many"] (sp__law_take K)) (c__law_seed : Cal P w K mg base 2 "_law_seed" ["box", "m"] (sp__law_seed K)) (c__law_path : Cal P w K mg base 2 "_law_path" ["box", "m"] (sp__law_path K))  : Cal P w K mg base 3 "_law_stretch" ["box", "m"] (sp__law_stretch K) := by
  refine cal_mk T.F__law_stretch T.g__law_stretch sc__law_stretch (len2 _) (fun _ _ _ _ _ _ us hl => match us, hl with | [_, _], _ => rfl) (fun cdv A outer s H vs Q E hr h => ?_)
  obtain ⟨v0, v1, rfl, h⟩ := h
  have hu := hu_of hr.r
  refine ⟨_, (pss_cons (ps_set (i := 2) sc__law_stretch.nd rfl (Or.inl rfl) (pe_op op_shlW pe_int (pe_ix ix_q (pv 1) pe_int (fun _ _ => rfl))))
      (pss_cons (ps_set (i := 3) sc__law_stretch.nd rfl (Or.inl rfl) (pe_ix ix_q (pe_lstA (pa_cons pe_int (pa_cons (pv 2) (pa_cons (pe_cal c__law_take hr (by decide) passL rfl (pa_cons (pv 0) (pa_cons (pv 2) pa_nil))) pa_nil)))) (pe_cal c__law_take hr (by decide) passL rfl (pa_cons (pv 0) (pa_cons pe_int pa_nil))) (fun _ _ => rfl)))
      (pss_cons (ps_set (i := 4) sc__law_stretch.nd rfl (Or.inl rfl) (pe_ix ix_q (pe_lstA (pa_cons pe_int (pa_cons (pe_op op_sub (pv 2) (pv 3)) (pa_cons (pe_cal c__law_take hr (by decide) passL rfl (pa_cons (pv 0) (pa_cons (pe_op op_add (pe_op op_sub (pv 2) (pv 3)) pe_int) pa_nil))) pa_nil)))) (pe_cal c__law_take hr (by decide) passL rfl (pa_cons (pv 0) (pa_cons pe_int pa_nil))) (fun _ _ => rfl)))
      (pss_one (ps_ret (pe_tupA (pa_cons (pe_cal c__law_seed hr (by decide) passL rfl (pa_cons (pv 0) (pa_cons (pv 1) pa_nil))) (pa_cons (pe_cal c__law_path hr (by decide) passL rfl (pa_cons (pv 0) (pa_cons (pv 1) pa_nil))) (pa_cons (pv 3) (pa_cons (pe_callB (call_min2 rfl) (by rfl) T.n_min (by decide +kernel) (pa_cons (pv 4) (pa_cons pe_int pa_nil))) pa_nil)))))))))), ?_⟩
  obtain ⟨p, m, ss, rfl, hw, hm, tm, q⟩ := h
  obtain ⟨tp, tq, xs, rfl, h1, h2, _⟩ := id tm
  have lb := p2k m.lb (by have := hm.2.2.2.2.2.1; omega)
  refine seqI fun rr hr => ?_
  simp only [and_assoc, rst, rs, re, ra, rq, rx, ro, rl, rl2, rsp, rz, rix, rln, rg, rd, ri, rv, rk, rdd, rwi, at0, at1, at2, at3, upd_at, List.getElem?_cons_zero, List.getElem?_cons_succ, Option.some.injEq, exists_eq_left', exists_eq_left, List.set_cons_zero, List.set_cons_succ, true_and, and_true, HO.lst.injEq, HO.tup.injEq, exists_and_left, exists_eq, exists_eq', Br.t, Br.f, Be.t, Be.f, List.cons.injEq, List.append_nil, scal, if_true, if_false, ite_true, ite_false, eq_self_iff_true, decide_true, decide_false, Bool.not_true, Bool.not_false, reduceIte, List.nil_append, List.cons_append, reduceCtorEq, false_and, exists_false, false_or, or_false, Int.reduceLT, ral, rmd, rsq, rlu, rdp, rrp, rrt, rtp, rzk, rsp5, Bool.true_or, Bool.false_or, Bool.or_false, Bool.or_true, wo_same _ _ h1]
  refine ⟨shl1 (by have := hm.2.2.2.2.2.1; omega), ?_⟩
  rw [one_shl, show (2 : Int) ^ m.lb = m.len from rfl] at *
  subst hr
  refine seqI fun rr hr => ?_
  simp only [and_assoc, rst, rs, re, ra, rq, rx, ro, rl, rl2, rsp, rz, rix, rln, rg, rd, ri, rv, rk, rdd, rwi, at0, at1, at2, at3, upd_at, List.getElem?_cons_zero, List.getElem?_cons_succ, Option.some.injEq, exists_eq_left', exists_eq_left, List.set_cons_zero, List.set_cons_succ, true_and, and_true, HO.lst.injEq, HO.tup.injEq, exists_and_left, exists_eq, exists_eq', Br.t, Br.f, Be.t, Be.f, List.cons.injEq, List.append_nil, scal, if_true, if_false, ite_true, ite_false, eq_self_iff_true, decide_true, decide_false, Bool.not_true, Bool.not_false, reduceIte, List.nil_append, List.cons_append, reduceCtorEq, false_and, exists_false, false_or, or_false, Int.reduceLT, ral, rmd, rsq, rlu, rdp, rrp, rrt, rtp, rzk, rsp5, Bool.true_or, Bool.false_or, Bool.or_false, Bool.or_true]
  refine ⟨_, _, rfl, p, _, rfl, hw, rfl, by omega, lb.2, fun r H1 r0 r1 b1 e1 => ?_⟩
  have w1 := Wl.draw b1 e1
  refine fun d H2 a2 => ?_
  obtain ⟨n2, w2, _⟩ := alW b1 a2
  refine ⟨_, _, rfl, p, 3, rfl, w2.1, rfl, by decide, by decide, fun c H3 c0 c1 b3 e3 => ?_⟩
  have W3 := Wl.ds (Wl.trans w1 w2) b3 e3
  have hx : ∃ z : Int, 0 ≤ z ∧ z ≤ m.len ∧ atI [V.int 0, V.int m.len, V.int r] c = some (.int z) := by
    have : c = 0 ∨ c = 1 ∨ c = 2 := by omega
    rcases this with rfl | rfl | rfl
    · exact ⟨0, by omega, by omega, rfl⟩
    · exact ⟨m.len, by omega, by omega, rfl⟩
    · exact ⟨r, by omega, by omega, rfl⟩
  have lb16 : (2 : Int) ^ m.lb ≤ 2 ^ 16 := by
    have : ∀ k : Nat, k ≤ 16 → (2 : Int) ^ k ≤ 2 ^ 16 := by decide +kernel
    exact this m.lb hm.2.2.2.2.2.1
  have lb17 : m.len ≤ 2 ^ 16 := lb16
  obtain ⟨pl, pl0, pl1, hx⟩ := hx
  refine ⟨_, (e3 d n2).trans a2.e, _, rfl, _, rfl, _, hx, ?_⟩
  clear hx e3 a2 w2 e1
  subst hr
  refine seqI fun rr hr => ?_
  simp only [and_assoc, rst, rs, re, ra, rq, rx, ro, rl, rl2, rsp, rz, rix, rln, rg, rd, ri, rv, rk, rdd, rwi, at0, at1, at2, at3, upd_at, List.getElem?_cons_zero, List.getElem?_cons_succ, Option.some.injEq, exists_eq_left', exists_eq_left, List.set_cons_zero, List.set_cons_succ, true_and, and_true, HO.lst.injEq, HO.tup.injEq, exists_and_left, exists_eq, exists_eq', Br.t, Br.f, Be.t, Be.f, List.cons.injEq, List.append_nil, scal, if_true, if_false, ite_true, ite_false, eq_self_iff_true, decide_true, decide_false, Bool.not_true, Bool.not_false, reduceIte, List.nil_append, List.cons_append, reduceCtorEq, false_and, exists_false, false_or, or_false, Int.reduceLT, ral, rmd, rsq, rlu, rdp, rrp, rrt, rtp, rzk, rsp5, Bool.true_or, Bool.false_or, Bool.or_false, Bool.or_true]
  refine ⟨_, _, rfl, p, _, rfl, b3, rfl, by omega, by omega, fun r H4 r0 r1 b4 e4 => ?_⟩
  refine fun d H5 a5 => ?_
  obtain ⟨n5, w5, _⟩ := alW b4 a5
  refine ⟨_, _, rfl, p, 3, rfl, w5.1, rfl, by decide, by decide, fun c H6 c0 c1 b6 e6 => ?_⟩
  have W6 := Wl.ds (Wl.trans (Wl.ds W3 b4 e4) w5) b6 e6
  have hx : ∃ z : Int, 0 ≤ z ∧ z ≤ m.len - pl ∧ atI [V.int 0, V.int (m.len - pl), V.int r] c = some (.int z) := by
    have : c = 0 ∨ c = 1 ∨ c = 2 := by omega
    rcases this with rfl | rfl | rfl
    · exact ⟨0, by omega, by omega, rfl⟩
    · exact ⟨m.len - pl, by omega, by omega, rfl⟩
    · exact ⟨r, by omega, by omega, rfl⟩
  obtain ⟨ma, ma0, ma1, hx⟩ := hx
  refine ⟨_, (e6 d n5).trans a5.e, _, rfl, _, rfl, _, hx, ?_⟩
  clear hx e6 a5 w5 e4
  subst hr
  simp only [and_assoc, rst, rs, re, ra, rq, rx, ro, rl, rl2, rsp, rz, rix, rln, rg, rd, ri, rv, rk, rdd, rwi, at0, at1, at2, at3, upd_at, List.getElem?_cons_zero, List.getElem?_cons_succ, Option.some.injEq, exists_eq_left', exists_eq_left, List.set_cons_zero, List.set_cons_succ, true_and, and_true, HO.lst.injEq, HO.tup.injEq, exists_and_left, exists_eq, exists_eq', Br.t, Br.f, Be.t, Be.f, List.cons.injEq, List.append_nil, scal, if_true, if_false, ite_true, ite_false, eq_self_iff_true, decide_true, decide_false, Bool.not_true, Bool.not_false, reduceIte, List.nil_append, List.cons_append, reduceCtorEq, false_and, exists_false, false_or, or_false, Int.reduceLT, ral, rmd, rsq, rlu, rdp, rrp, rrt, rtp, rzk, rsp5, Bool.true_or, Bool.false_or, Bool.or_false, Bool.or_true]
  refine ⟨_, _, rfl, p, m, ss, rfl, b6, hm, tm.same W6.2, fun sd H7 W7 s0 s1 => ?_⟩
  refine ⟨_, _, rfl, p, m, ss, rfl, W7.1, hm, (tm.same W6.2).same W7.2, fun qa cs H8 W8 hq cl cok => ?_⟩
  intro g H9 a9
  obtain ⟨ng, w9, hg⟩ := alW W8.1 a9
  exact q _ ⟨sd, cs, pl, if 40 < ma then 40 else ma⟩ _ (Wl.trans W6 (Wl.trans W7 (Wl.trans W8 w9))) ⟨g, qa, rfl, hg, w9.2 _ _ hq⟩ ⟨⟨s0, s1⟩, cl, cok, ⟨pl0, pl1⟩, by show 0 ≤ if 40 < ma then 40 else ma; split <;> omega, by show (if 40 < ma then 40 else ma) ≤ m.len - pl; split <;> omega⟩ (by show (if 40 < ma then 40 else ma) ≤ 40; split <;> omega)
end
end Law

/-! parts of tuples -/
namespace Law
open PySem PySem.Spec PyProof.Rows L2 Sw
theorem cut_mem {y : V} {xs : List V} {a b : Option Int} (h : y ∈ cutV xs a b) : y ∈ xs := by
  unfold cutV at h
  exact List.mem_of_mem_drop (List.mem_of_mem_take h)
theorem cut_len (xs : List V) (a b : Option Int) : (cutV xs a b).length ≤ xs.length := by
  unfold cutV
  rw [List.length_take, List.length_drop]
  omega
theorem cut_init (cs : List Int) : ∃ ys : List Int, cutV (cs.map V.int) none (some (-1)) = ys.map V.int ∧ ys.length = cs.length - 1 ∧ ∀ y ∈ ys, y ∈ cs := by
  refine ⟨cs.take (cs.length - 1), ?_, by rw [List.length_take]; omega, fun y h => List.mem_of_mem_take h⟩
  have e : HT.sIx (cs.map V.int).length (cs.map V.int).length (some (-1)) = cs.length - 1 := by
    simp only [HT.sIx, List.length_map]
    rw [if_pos (by decide)]
    omega
  have e2 : HT.sIx (cs.map V.int).length 0 none = 0 := rfl
  rw [cutV, e, e2, List.map_take]
  rfl
theorem strOk_of (s : String) : PyData.strOk (Str.ofString s) = true := by
  rw [PySem.Str.ofString_eq_toList]
  show ((s.toList.map Char.toNat).toArray.all fun c => decide (c < 0x110000)) = true
  rw [← Array.all_toList, List.all_eq_true]
  intro c hc
  obtain ⟨d, _, rfl⟩ := List.mem_map.mp hc
  refine decide_eq_true ?_
  have h := d.valid
  have e : d.toNat = d.val.toNat := rfl
  rcases h with h | h
  · have : d.val.toNat < 0xd800 := h
    omega
  · have : d.val.toNat < 0x110000 := h.2
    omega
/-! ### data laid out by the thing -/
theorem cd_int {K : Fg} {H : Hp} (z : Int) : CD K H (.int z) := ⟨⟨_, rfl⟩, _, int_cd z⟩
theorem cd_bl {K : Fg} {H : Hp} (b : Bool) : CD K H (.bl b) := ⟨⟨_, rfl⟩, _, .bl b, rfl, Nat.zero_le _⟩
theorem cd_non {K : Fg} {H : Hp} : CD K H .non := ⟨⟨_, rfl⟩, _, .non, rfl, Nat.zero_le _⟩
theorem cd_str {K : Fg} {H : Hp} {z : Str} (h : PyData.strOk z = true) : CD K H (.str z) := ⟨⟨_, rfl⟩, _, str_cd h⟩
theorem due_cd {K : Fg} {H : Hp} {q : Addr} {w : Str} {ns : List Int} (h : H q = some (.tup (.str w :: ns.map V.int))) (so : PyData.strOk w = true) : CD K H (.ref q) := by
  refine ⟨⟨"tuple", by rw [tyN, h]; rfl⟩, .tuple (.str w :: ns.map PyData.int), .tup (SqT.of h) (.cons (.str w) (ints_dp ns)), ?_, ?_⟩
  · show (PyData.canLay0 (.str w) && PyData.canLayAll0 (ns.map PyData.int)) = true
    rw [lay_ints, show PyData.canLay0 (.str w) = PyData.strOk w from rfl, so]
    rfl
  · have := deep_ints ns
    simp only [PyData.depth, PyData.depthAll]
    omega
theorem forg_tup {K : Fg} {H : Hp} {g : Addr} {xs : List V} (h : H g = some (.tup xs)) (l : xs.length ≤ 100) (c : ∀ y ∈ xs, CD K H y) : Forg K H (.ref g) := .inr ⟨g, xs, rfl, h, l, c⟩
theorem forg_lst {K : Fg} {H : Hp} {g : Addr} {xs : List V} (h : H g = some (.lst xs)) : Forg K H (.ref g) := .inl ⟨(kindB h rfl).2.2.2.2.2, _, (kindB h rfl).2.2.2.2.1⟩
theorem wo_t {p g : Addr} {H : Hp} {xs : List V} (W : Well H p) (h : H g = some (.tup xs)) : wo p H g = some (.tup xs) := by
  rw [wo_at (fun e => by obtain ⟨_, _, _, ep⟩ := W; rw [e, ep] at h; cases h)]
  exact h
theorem atI_ex {L : List V} {Pr : V → Prop} (bag : ∀ v ∈ L, Pr v) {c : Int} (c0 : 0 ≤ c) (c1 : c < L.length) : ∃ x, atI L c = some x ∧ Pr x := by
  obtain ⟨n, rfl⟩ := Int.eq_ofNat_of_zero_le c0
  have hn : n < L.length := by omega
  exact ⟨L[n], atI_nat (List.getElem?_eq_getElem hn), bag _ (List.getElem_mem hn)⟩
end Law

-- RDX ral, rmd, rsq, rlu, rdp, rrp, rrt, rtp, rzk, rsp5, Bool.true_or, Bool.false_or, Bool.or_false, Bool.or_true
namespace Law
open PySem PySem.Spec PyProof.Rows L2 Sw
section
variable {P : Program} {w : World} {K : Fg} {mg : Str → Option Value} {base : Heap}
theorem mrow_seed {s t : Sx} (c : s.seed ≠ t.seed) : mrow s t = [.str "seed"] := by
  rw [mrow, mw, mn, if_pos c, if_pos c]
  rfl
theorem mrow_path {s t : Sx} (c : s.seed = t.seed) (c2 : s.path ≠ t.path) : mrow s t = [.str "path", .int (fu s.path t.path : Nat)] := by
  simp only [mrow, mw, mn, c, c2, ne_eq, not_true_eq_false, not_false_eq_true, if_true, if_false]
  rfl
theorem mrow_ends {s t : Sx} (c : s.seed = t.seed) (c2 : s.path = t.path) (c3 : mbehind s t ≤ mfirst s t) : mrow s t = [.str "ends"] := by
  simp only [mrow, mw, mn, c, c2, c3, ne_eq, not_true_eq_false, not_false_eq_true, if_true, if_false]
  rfl
theorem mrow_meets {s t : Sx} (c : s.seed = t.seed) (c2 : s.path = t.path) (c3 : ¬ mbehind s t ≤ mfirst s t) : mrow s t = [.str "meets", .int (mfirst s t), .int (mbehind s t - mfirst s t)] := by
  simp only [mrow, mw, mn, c, c2, c3, ne_eq, not_true_eq_false, not_false_eq_true, if_true, if_false]
  rfl
def dg (N : Nat) (p : List Int) : List Int := p.map (· + 1) ++ List.replicate (N - p.length) 0
theorem dg_len {N : Nat} {p : List Int} (h : p.length ≤ N) : (dg N p).length = N := by
  rw [dg, List.length_append, List.length_map, List.length_replicate]
  omega
theorem fu_dg : ∀ (p q : List Int) (N : Nat), p.length ≤ N → q.length ≤ N → (∀ c ∈ p, 0 ≤ c) → (∀ c ∈ q, 0 ≤ c) → p ≠ q → dg N p ≠ dg N q ∧ fu (dg N p) (dg N q) = fu p q
  | [], [], _, _, _, _, _, n => absurd rfl n
  | [], c :: r, N, _, h, _, k, _ => by
    have c0 := k c (by simp)
    cases N with
    | zero => cases h
    | succ N =>
      have e1 : dg (N + 1) [] = 0 :: List.replicate N 0 := rfl
      have e2 : dg (N + 1) (c :: r) = (c + 1) :: (r.map (· + 1) ++ List.replicate (N + 1 - (r.length + 1)) 0) := rfl
      rw [e1, e2]
      have ne : (0 : Int) ≠ c + 1 := by omega
      exact ⟨fun z => ne (List.cons.inj z).1, by rw [fu, if_neg ne]; rfl⟩
  | c :: r, [], N, h, _, k, _, _ => by
    have c0 := k c (by simp)
    cases N with
    | zero => cases h
    | succ N =>
      have e1 : dg (N + 1) [] = 0 :: List.replicate N 0 := rfl
      have e2 : dg (N + 1) (c :: r) = (c + 1) :: (r.map (· + 1) ++ List.replicate (N + 1 - (r.length + 1)) 0) := rfl
      rw [e1, e2]
      have ne : c + 1 ≠ 0 := by omega
      exact ⟨fun z => ne (List.cons.inj z).1, by rw [fu, if_neg ne]; rfl⟩
  | a :: r, c :: q, N, h1, h2, k1, k2, n => by
    cases N with
    | zero => cases h1
    | succ N =>
      have e1 : dg (N + 1) (a :: r) = (a + 1) :: dg N r := by
        rw [dg, dg, List.map_cons, List.length_cons, Nat.add_sub_add_right]
        rfl
      have e2 : dg (N + 1) (c :: q) = (c + 1) :: dg N q := by
        rw [dg, dg, List.map_cons, List.length_cons, Nat.add_sub_add_right]
        rfl
      rw [e1, e2]
      by_cases e : a = c
      · subst e
        obtain ⟨i1, i2⟩ := fu_dg r q N (Nat.le_of_succ_le_succ h1) (Nat.le_of_succ_le_succ h2) (fun c h => k1 c (List.mem_cons_of_mem _ h)) (fun c h => k2 c (List.mem_cons_of_mem _ h)) (fun z => n (by rw [z]))
        exact ⟨fun z => i1 (List.cons.inj z).2, by rw [fu, if_pos rfl, i2, fu, if_pos rfl]⟩
      · have ne : a + 1 ≠ c + 1 := by omega
        exact ⟨fun z => ne (List.cons.inj z).1, by rw [fu, if_neg ne, fu, if_neg e]⟩
def diffs (xs ys : List Int) (n : Nat) : List Nat := (List.range n).filter fun k => decide (xs[k]? ≠ ys[k]?)
theorem diffs_self (xs : List Int) (n : Nat) : diffs xs xs n = [] := by
  rw [diffs, List.filter_eq_nil_iff]
  intro a _
  simp
theorem diffs_head : ∀ (xs ys : List Int), xs.length = ys.length → xs ≠ ys → ∃ r, diffs xs ys xs.length = fu xs ys :: r
  | [], [], _, n => absurd rfl n
  | a :: r, b :: s, h, n => by
    have h' : r.length = s.length := Nat.succ.inj h
    rw [diffs, List.length_cons, List.range_succ_eq_map]
    by_cases e : a = b
    · subst e
      obtain ⟨t, ht⟩ := diffs_head r s h' (fun z => n (by rw [z]))
      refine ⟨t.map Nat.succ, ?_⟩
      rw [List.filter_cons_of_neg (by simp), List.filter_map, fu, if_pos rfl]
      have e3 : (fun k => decide ((a :: r)[k]? ≠ (a :: s)[k]?)) ∘ Nat.succ = fun k => decide (r[k]? ≠ s[k]?) := rfl
      rw [e3]
      show List.map Nat.succ (diffs r s r.length) = _
      rw [ht]
      rfl
    · rw [List.filter_cons_of_pos (by simpa using e), fu, if_neg e]
      exact ⟨_, rfl⟩
  | [], _ :: _, h, _ => by cases h
  | _ :: _, [], h, _ => by cases h
def meets (a b n : Int) (i : Nat) : List Int := (List.range (min (a + i) (b + n) - max a b).toNat).map fun (k : Nat) => max a b + k
theorem meets_yes {a b n : Int} {i : Nat} (h1 : b ≤ a + i) (h2 : a + i < b + n) : meets a b n (i + 1) = meets a b n i ++ [a + i] := by
  have e : (min (a + ((i + 1 : Nat) : Int)) (b + n) - max a b).toNat = (min (a + i) (b + n) - max a b).toNat + 1 := by omega
  rw [meets, meets, e, List.range_succ, List.map_append, List.map_cons, List.map_nil]
  congr 2
  omega
theorem meets_no {a b n : Int} {i : Nat} (h : ¬ (b ≤ a + i ∧ a + i < b + n)) : meets a b n (i + 1) = meets a b n i := by
  have e : (min (a + ((i + 1 : Nat) : Int)) (b + n) - max a b).toNat = (min (a + i) (b + n) - max a b).toNat := by omega
  rw [meets, meets, e]
theorem ne_intsA {K : Fg} {H : Hp} {p q : Addr} {ns ms : List Int} (hp : SqL K H p (ns.map V.int)) (hq : SqL K H q (ms.map V.int)) {Q : VK} (k : Q (.bl (!decide (ns = ms))) H) : rNeA K (.ref p) (.ref q) H Q := by
  refine .inl ⟨_, _, .lst hp (dpI ns), .lst hq (dpI ms), shapeL, shapeL, ?_⟩
  rw [eqvI]
  exact k
theorem eq_intsA {K : Fg} {H : Hp} {p q : Addr} {ns ms : List Int} (hp : SqL K H p (ns.map V.int)) (hq : SqL K H q (ms.map V.int)) {Q : VK} (k : Q (.bl (decide (ns = ms))) H) : rEqA K (.ref p) (.ref q) H Q := .inl (eq_ints hp hq k)
theorem ok__law_meeting (T : Tx K mg w)   : Cal P w K mg base 1 "_law_meeting" ["m", "one", "other"] (sp__law_meeting K) := by
  refine cal_mk T.F__law_meeting T.g__law_meeting sc__law_meeting (len3 _) (fun _ _ _ _ _ _ us hl => match us, hl with | [_, _, _], _ => rfl) (fun cdv A outer s H vs Q E hr h => ?_)
  obtain ⟨v0, v1, v2, rfl, h⟩ := h
  have hu := hu_of hr.r
  refine ⟨_, (pss_cons (ps_if (pt_cmpR op_ne (pe_ix ix_q (pv 1) pe_int (fun _ _ => rfl)) (pe_ix ix_q (pv 2) pe_int (fun _ _ => rfl)) (nomark _)) (pss_one (ps_ret (pe_tupA (pa_cons pe_str pa_nil)))) pss_nil)
      (pss_cons (ps_set (i := 3) sc__law_meeting.nd rfl (Or.inr rfl) (pe_op op_catAl (pe_lc (own := [("child", 7)]) (g := (gName 7)) rfl sc__law_meeting.nd (pi_q (pe_ix ix_q (pv 1) pe_int (fun _ _ => rfl))) (blkOk_by (N := nm__law_meeting) (sc := defScope s__law_meeting) (by decide +kernel)) (fun _ _ _ _ _ => (pg_name (i := 7) sc__law_meeting.nd rfl (Or.inl rfl))) (fun _ _ _ _ _ => pts_nil) (fun _ _ _ _ _ => (pe_op op_add (pv 7) pe_int))) (pe_op op_repAl (pe_lstA (pa_cons pe_int pa_nil)) (pe_op op_sub (pe_ix ix_q (pv 0) pe_int (fun _ _ => rfl)) (pe_callB len_q (by rfl) T.n_len (by decide +kernel) (pa_cons (pe_ix ix_q (pv 1) pe_int (fun _ _ => rfl)) pa_nil))))))
      (pss_cons (ps_set (i := 4) sc__law_meeting.nd rfl (Or.inr rfl) (pe_op op_catAl (pe_lc (own := [("child", 7)]) (g := (gName 7)) rfl sc__law_meeting.nd (pi_q (pe_ix ix_q (pv 2) pe_int (fun _ _ => rfl))) (blkOk_by (N := nm__law_meeting) (sc := defScope s__law_meeting) (by decide +kernel)) (fun _ _ _ _ _ => (pg_name (i := 7) sc__law_meeting.nd rfl (Or.inl rfl))) (fun _ _ _ _ _ => pts_nil) (fun _ _ _ _ _ => (pe_op op_add (pv 7) pe_int))) (pe_op op_repAl (pe_lstA (pa_cons pe_int pa_nil)) (pe_op op_sub (pe_ix ix_q (pv 0) pe_int (fun _ _ => rfl)) (pe_callB len_q (by rfl) T.n_len (by decide +kernel) (pa_cons (pe_ix ix_q (pv 2) pe_int (fun _ _ => rfl)) pa_nil))))))
      (pss_cons (ps_setLc (i := 5) (own := [("k", 8)]) (g := (gName 8)) rfl sc__law_meeting.nd rfl rfl (sw_true rfl rfl rfl (by decide +kernel)) (pi_range1 (by rfl) T.n_range (pa_cons (pe_ix ix_q (pv 0) pe_int (fun _ _ => rfl)) pa_nil)) (blkOk_by (N := nm__law_meeting) (sc := defScope s__law_meeting) (by decide +kernel)) (fun _ _ _ _ _ => (pg_name (i := 8) sc__law_meeting.nd rfl (Or.inl rfl))) (fun _ _ _ _ _ => (pts_one (pt_cmpR op_ne (pe_ix ix_q (pv 3) (pv 8) (fun _ _ => rfl)) (pe_ix ix_q (pv 4) (pv 8) (fun _ _ => rfl)) (nomark _)))) (fun _ _ _ _ _ => (pv 8)))
      (pss_cons (ps_if (pt_cmpR (op_neA hr.units) (pv 5) (pe_lstA pa_nil) (nomark _)) (pss_one (ps_ret (pe_tupA (pa_cons pe_str (pa_cons (pe_ix ix_q (pv 5) pe_int (fun _ _ => rfl)) pa_nil))))) pss_nil)
      (pss_cons (ps_setLc (i := 6) (own := [("at", 9)]) (g := (gName 9)) rfl sc__law_meeting.nd rfl rfl (sw_true rfl rfl rfl (by decide +kernel)) (pi_range2 (by rfl) T.n_range (pa_cons (pe_ix ix_q (pv 1) pe_int (fun _ _ => rfl)) (pa_cons (pe_op op_add (pe_ix ix_q (pv 1) pe_int (fun _ _ => rfl)) (pe_ix ix_q (pv 1) pe_int (fun _ _ => rfl))) pa_nil))) (blkOk_by (N := nm__law_meeting) (sc := defScope s__law_meeting) (by decide +kernel)) (fun _ _ _ _ _ => (pg_name (i := 9) sc__law_meeting.nd rfl (Or.inl rfl))) (fun _ _ _ _ _ => (pts_one (pt_chain op_le op_lt (pe_ix ix_q (pv 2) pe_int (fun _ _ => rfl)) (pv 9) (pe_op op_add (pe_ix ix_q (pv 2) pe_int (fun _ _ => rfl)) (pe_ix ix_q (pv 2) pe_int (fun _ _ => rfl)))))) (fun _ _ _ _ _ => (pv 9)))
      (pss_cons (ps_if (pt_cmpR (op_eqA hr.units) (pv 6) (pe_lstA pa_nil) (nomark _)) (pss_one (ps_ret (pe_tupA (pa_cons pe_str pa_nil)))) pss_nil)
      (pss_one (ps_ret (pe_tupA (pa_cons pe_str (pa_cons (pe_ix ix_q (pv 6) pe_int (fun _ _ => rfl)) (pa_cons (pe_callB len_q (by rfl) T.n_len (by decide +kernel) (pa_cons (pv 6) pa_nil)) pa_nil))))))))))))), ?_⟩
  obtain ⟨m, ss, s, t, hm, hT, hs, ht, so, to', q⟩ := h
  obtain ⟨p, pq, rfl, h1, h2⟩ := hs
  obtain ⟨p', pq', rfl, h1', h2'⟩ := ht
  obtain ⟨tp, tq, xs, rfl, h3, _⟩ := hT
  refine seqI fun rr hr => ?_
  simp only [and_assoc, rst, rs, re, ra, rq, rx, ro, rl, rl2, rsp, rz, rix, rln, rg, rd, ri, rv, rk, rdd, rwi, at0, at1, at2, at3, upd_at, List.getElem?_cons_zero, List.getElem?_cons_succ, Option.some.injEq, exists_eq_left', exists_eq_left, List.set_cons_zero, List.set_cons_succ, true_and, and_true, HO.lst.injEq, HO.tup.injEq, exists_and_left, exists_eq, exists_eq', Br.t, Br.f, Be.t, Be.f, List.cons.injEq, List.append_nil, scal, if_true, if_false, ite_true, ite_false, eq_self_iff_true, decide_true, decide_false, Bool.not_true, Bool.not_false, reduceIte, List.nil_append, List.cons_append, reduceCtorEq, false_and, exists_false, false_or, or_false, Int.reduceLT, ral, rmd, rsq, rlu, rdp, rrp, rrt, rtp, rzk, rsp5, Bool.true_or, Bool.false_or, Bool.or_false, Bool.or_true]
  refine ⟨_, h1, _, rfl, _, rfl, _, h1', _, rfl, _, rfl, rfl, ?_⟩
  refine Br.n (fun c => ?_) fun c => ?_
  · simp only [and_assoc, rst, rs, re, ra, rq, rx, ro, rl, rl2, rsp, rz, rix, rln, rg, rd, ri, rv, rk, rdd, rwi, at0, at1, at2, at3, upd_at, List.getElem?_cons_zero, List.getElem?_cons_succ, Option.some.injEq, exists_eq_left', exists_eq_left, List.set_cons_zero, List.set_cons_succ, true_and, and_true, HO.lst.injEq, HO.tup.injEq, exists_and_left, exists_eq, exists_eq', Br.t, Br.f, Be.t, Be.f, List.cons.injEq, List.append_nil, scal, if_true, if_false, ite_true, ite_false, eq_self_iff_true, decide_true, decide_false, Bool.not_true, Bool.not_false, reduceIte, List.nil_append, List.cons_append, reduceCtorEq, false_and, exists_false, false_or, or_false, Int.reduceLT, ral, rmd, rsq, rlu, rdp, rrp, rrt, rtp, rzk, rsp5, Bool.true_or, Bool.false_or, Bool.or_false, Bool.or_true]
    intro g H2 a
    exact q g H2 a.s (by rw [a.e, mrow_seed (fun e => c (by rw [e]))])
  simp only [and_assoc, rst, rs, re, ra, rq, rx, ro, rl, rl2, rsp, rz, rix, rln, rg, rd, ri, rv, rk, rdd, rwi, at0, at1, at2, at3, upd_at, List.getElem?_cons_zero, List.getElem?_cons_succ, Option.some.injEq, exists_eq_left', exists_eq_left, List.set_cons_zero, List.set_cons_succ, true_and, and_true, HO.lst.injEq, HO.tup.injEq, exists_and_left, exists_eq, exists_eq', Br.t, Br.f, Be.t, Be.f, List.cons.injEq, List.append_nil, scal, if_true, if_false, ite_true, ite_false, eq_self_iff_true, decide_true, decide_false, Bool.not_true, Bool.not_false, reduceIte, List.nil_append, List.cons_append, reduceCtorEq, false_and, exists_false, false_or, or_false, Int.reduceLT, ral, rmd, rsq, rlu, rdp, rrp, rrt, rtp, rzk, rsp5, Bool.true_or, Bool.false_or, Bool.or_false, Bool.or_true]
  obtain ⟨ml, sl, tl⟩ : m.dp ≤ 16 ∧ s.path.length ≤ m.dp ∧ t.path.length ≤ m.dp := ⟨by have := hm; unfold Mc.ok at this; omega, so.2.1, to'.2.1⟩
  subst hr
  refine seqI fun rr hr => ?_
  simp only [and_assoc, rst, rs, re, ra, rq, rx, ro, rl, rl2, rsp, rz, rix, rln, rg, rd, ri, rv, rk, rdd, rwi, at0, at1, at2, at3, upd_at, List.getElem?_cons_zero, List.getElem?_cons_succ, Option.some.injEq, exists_eq_left', exists_eq_left, List.set_cons_zero, List.set_cons_succ, true_and, and_true, HO.lst.injEq, HO.tup.injEq, exists_and_left, exists_eq, exists_eq', Br.t, Br.f, Be.t, Be.f, List.cons.injEq, List.append_nil, scal, if_true, if_false, ite_true, ite_false, eq_self_iff_true, decide_true, decide_false, Bool.not_true, Bool.not_false, reduceIte, List.nil_append, List.cons_append, reduceCtorEq, false_and, exists_false, false_or, or_false, Int.reduceLT, ral, rmd, rsq, rlu, rdp, rrp, rrt, rtp, rzk, rsp5, Bool.true_or, Bool.false_or, Bool.or_false, Bool.or_true]
  refine ⟨_, h1, _, rfl, _, rfl, pq, rfl, _, h2, _, rfl, ?_⟩
  refine LC.seq (o := .tup (s.path.map V.int)) rfl (fun D i H' => Same H H' ∧ H' D = some (.lst (((s.path.take i).map (· + 1)).map V.int))) (fun D hD => ⟨Same.new hD, upd_same⟩) (fun D i H' _ _ h => h.1 _ _ h2) ?_ ?_
  · rintro D i x H' hD hx ⟨s1, hd⟩
    rw [List.getElem?_map] at hx
    obtain ⟨z, hz, rfl⟩ := Option.map_eq_some_iff.mp hx
    simp only [and_assoc, rst, rs, re, ra, rq, rx, ro, rl, rl2, rsp, rz, rix, rln, rg, rd, ri, rv, rk, rdd, rwi, at0, at1, at2, at3, upd_at, List.getElem?_cons_zero, List.getElem?_cons_succ, Option.some.injEq, exists_eq_left', exists_eq_left, List.set_cons_zero, List.set_cons_succ, true_and, and_true, HO.lst.injEq, HO.tup.injEq, exists_and_left, exists_eq, exists_eq', Br.t, Br.f, Be.t, Be.f, List.cons.injEq, List.append_nil, scal, if_true, if_false, ite_true, ite_false, eq_self_iff_true, decide_true, decide_false, Bool.not_true, Bool.not_false, reduceIte, List.nil_append, List.cons_append, reduceCtorEq, false_and, exists_false, false_or, or_false, Int.reduceLT, ral, rmd, rsq, rlu, rdp, rrp, rrt, rtp, rzk, rsp5, Bool.true_or, Bool.false_or, Bool.or_false, Bool.or_true]
    exact ⟨_, hd, by rw [List.length_map, List.length_map, List.length_take, sizeLine_eq]; omega, Same.mut s1 hD, by rw [take_snoc hz]; simp⟩
  · rintro D H' hD ⟨s1, hd⟩
    rw [List.length_map, List.take_length] at hd
    simp only [and_assoc, rst, rs, re, ra, rq, rx, ro, rl, rl2, rsp, rz, rix, rln, rg, rd, ri, rv, rk, rdd, rwi, at0, at1, at2, at3, upd_at, List.getElem?_cons_zero, List.getElem?_cons_succ, Option.some.injEq, exists_eq_left', exists_eq_left, List.set_cons_zero, List.set_cons_succ, true_and, and_true, HO.lst.injEq, HO.tup.injEq, exists_and_left, exists_eq, exists_eq', Br.t, Br.f, Be.t, Be.f, List.cons.injEq, List.append_nil, scal, if_true, if_false, ite_true, ite_false, eq_self_iff_true, decide_true, decide_false, Bool.not_true, Bool.not_false, reduceIte, List.nil_append, List.cons_append, reduceCtorEq, false_and, exists_false, false_or, or_false, Int.reduceLT, ral, rmd, rsq, rlu, rdp, rrp, rrt, rtp, rzk, rsp5, Bool.true_or, Bool.false_or, Bool.or_false, Bool.or_true]
    intro p1 H2 a1
    have S2 := Same.trans s1 a1.s
    refine ⟨_, S2 _ _ h3, _, rfl, _, rfl, _, S2 _ _ h1, _, rfl, _, rfl, pq, rfl, _, S2 _ _ h2, _, rfl, _, rfl, _, a1.e, ?_⟩
    rw [List.length_map]
    refine ⟨by omega, by omega, by rw [sizeLine_eq]; simp; omega, ?_⟩
    have er : (List.replicate ((m.dp : Nat) - (s.path.length : Nat) : Int).toNat [V.int 0]).flatten = (List.replicate (m.dp - s.path.length) (0 : Int)).map V.int := by
      rw [List.flatten_replicate_singleton, List.map_replicate]
      congr 1
      omega
    rw [er]
    intro p3 H3 a3
    refine ⟨_, (a3.s _ _ (a1.s _ _ hd)), _, a3.e, by rw [List.length_map, List.length_map, List.length_map, List.length_replicate, sizeLine_eq]; omega, ?_⟩
    intro d1 H4 a4
    have hd1 : H4 d1 = some (.lst ((dg m.dp s.path).map V.int)) := by rw [a4.e, ← List.map_append]; rfl
    have S4 := Same.trans S2 (Same.trans a3.s a4.s)
    clear a4 a3 a1 S2 er hd s1
    subst hr
    refine seqI fun rr hr => ?_
    simp only [and_assoc, rst, rs, re, ra, rq, rx, ro, rl, rl2, rsp, rz, rix, rln, rg, rd, ri, rv, rk, rdd, rwi, at0, at1, at2, at3, upd_at, List.getElem?_cons_zero, List.getElem?_cons_succ, Option.some.injEq, exists_eq_left', exists_eq_left, List.set_cons_zero, List.set_cons_succ, true_and, and_true, HO.lst.injEq, HO.tup.injEq, exists_and_left, exists_eq, exists_eq', Br.t, Br.f, Be.t, Be.f, List.cons.injEq, List.append_nil, scal, if_true, if_false, ite_true, ite_false, eq_self_iff_true, decide_true, decide_false, Bool.not_true, Bool.not_false, reduceIte, List.nil_append, List.cons_append, reduceCtorEq, false_and, exists_false, false_or, or_false, Int.reduceLT, ral, rmd, rsq, rlu, rdp, rrp, rrt, rtp, rzk, rsp5, Bool.true_or, Bool.false_or, Bool.or_false, Bool.or_true]
    refine ⟨_, S4 _ _ h1', _, rfl, _, rfl, pq', rfl, _, S4 _ _ h2', _, rfl, ?_⟩
    refine LC.seq (o := .tup (t.path.map V.int)) rfl (fun D i H' => Same H4 H' ∧ H' D = some (.lst (((t.path.take i).map (· + 1)).map V.int))) (fun D hD => ⟨Same.new hD, upd_same⟩) (fun D i H' _ _ h => h.1 _ _ (S4 _ _ h2')) ?_ ?_
    · rintro D i x H' hD hx ⟨s1, hd⟩
      rw [List.getElem?_map] at hx
      obtain ⟨z, hz, rfl⟩ := Option.map_eq_some_iff.mp hx
      simp only [and_assoc, rst, rs, re, ra, rq, rx, ro, rl, rl2, rsp, rz, rix, rln, rg, rd, ri, rv, rk, rdd, rwi, at0, at1, at2, at3, upd_at, List.getElem?_cons_zero, List.getElem?_cons_succ, Option.some.injEq, exists_eq_left', exists_eq_left, List.set_cons_zero, List.set_cons_succ, true_and, and_true, HO.lst.injEq, HO.tup.injEq, exists_and_left, exists_eq, exists_eq', Br.t, Br.f, Be.t, Be.f, List.cons.injEq, List.append_nil, scal, if_true, if_false, ite_true, ite_false, eq_self_iff_true, decide_true, decide_false, Bool.not_true, Bool.not_false, reduceIte, List.nil_append, List.cons_append, reduceCtorEq, false_and, exists_false, false_or, or_false, Int.reduceLT, ral, rmd, rsq, rlu, rdp, rrp, rrt, rtp, rzk, rsp5, Bool.true_or, Bool.false_or, Bool.or_false, Bool.or_true]
      exact ⟨_, hd, by rw [List.length_map, List.length_map, List.length_take, sizeLine_eq]; omega, Same.mut s1 hD, by rw [take_snoc hz]; simp⟩
    · rintro D H' hD ⟨s1, hd⟩
      rw [List.length_map, List.take_length] at hd
      simp only [and_assoc, rst, rs, re, ra, rq, rx, ro, rl, rl2, rsp, rz, rix, rln, rg, rd, ri, rv, rk, rdd, rwi, at0, at1, at2, at3, upd_at, List.getElem?_cons_zero, List.getElem?_cons_succ, Option.some.injEq, exists_eq_left', exists_eq_left, List.set_cons_zero, List.set_cons_succ, true_and, and_true, HO.lst.injEq, HO.tup.injEq, exists_and_left, exists_eq, exists_eq', Br.t, Br.f, Be.t, Be.f, List.cons.injEq, List.append_nil, scal, if_true, if_false, ite_true, ite_false, eq_self_iff_true, decide_true, decide_false, Bool.not_true, Bool.not_false, reduceIte, List.nil_append, List.cons_append, reduceCtorEq, false_and, exists_false, false_or, or_false, Int.reduceLT, ral, rmd, rsq, rlu, rdp, rrp, rrt, rtp, rzk, rsp5, Bool.true_or, Bool.false_or, Bool.or_false, Bool.or_true]
      intro p1 H5 a1
      have S2 := Same.trans S4 (Same.trans s1 a1.s)
      refine ⟨_, S2 _ _ h3, _, rfl, _, rfl, _, S2 _ _ h1', _, rfl, _, rfl, pq', rfl, _, S2 _ _ h2', _, rfl, _, rfl, _, a1.e, ?_⟩
      rw [List.length_map]
      refine ⟨by omega, by omega, by rw [sizeLine_eq]; simp; omega, ?_⟩
      have er : (List.replicate ((m.dp : Nat) - (t.path.length : Nat) : Int).toNat [V.int 0]).flatten = (List.replicate (m.dp - t.path.length) (0 : Int)).map V.int := by
        rw [List.flatten_replicate_singleton, List.map_replicate]
        congr 1
        omega
      rw [er]
      intro p3 H6 a3
      refine ⟨_, (a3.s _ _ (a1.s _ _ hd)), _, a3.e, by rw [List.length_map, List.length_map, List.length_map, List.length_replicate, sizeLine_eq]; omega, ?_⟩
      intro d2 H7 a4
      have hd2 : H7 d2 = some (.lst ((dg m.dp t.path).map V.int)) := by rw [a4.e, ← List.map_append]; rfl
      have S7 := Same.trans S2 (Same.trans a3.s a4.s)
      have hd1' := Same.trans s1 (Same.trans a1.s (Same.trans a3.s a4.s)) _ _ hd1
      clear a4 a3 a1 S2 er hd s1 S4 hd1
      have l1 := dg_len sl
      have l2 := dg_len tl
      subst hr
      refine seqI fun rr hr => ?_
      simp only [and_assoc, rst, rs, re, ra, rq, rx, ro, rl, rl2, rsp, rz, rix, rln, rg, rd, ri, rv, rk, rdd, rwi, at0, at1, at2, at3, upd_at, List.getElem?_cons_zero, List.getElem?_cons_succ, Option.some.injEq, exists_eq_left', exists_eq_left, List.set_cons_zero, List.set_cons_succ, true_and, and_true, HO.lst.injEq, HO.tup.injEq, exists_and_left, exists_eq, exists_eq', Br.t, Br.f, Be.t, Be.f, List.cons.injEq, List.append_nil, scal, if_true, if_false, ite_true, ite_false, eq_self_iff_true, decide_true, decide_false, Bool.not_true, Bool.not_false, reduceIte, List.nil_append, List.cons_append, reduceCtorEq, false_and, exists_false, false_or, or_false, Int.reduceLT, ral, rmd, rsq, rlu, rdp, rrp, rrt, rtp, rzk, rsp5, Bool.true_or, Bool.false_or, Bool.or_false, Bool.or_true]
      refine ⟨_, S7 _ _ h3, _, rfl, _, rfl, _, rfl, by omega, by omega, ?_⟩
      rw [Int.toNat_natCast]
      refine LC.rng (fun D i H' => Same H7 H' ∧ H' D = some (.lst ((diffs (dg m.dp s.path) (dg m.dp t.path) i).map fun k => V.int (k : Nat)))) (fun D hD => ⟨Same.new hD, upd_same⟩) ?_ ?_
      · rintro D i H' hD hi ⟨s1, hd⟩
        have e1 : (dg m.dp s.path)[i]? = some (dg m.dp s.path)[i] := List.getElem?_eq_getElem (by omega)
        have e2 : (dg m.dp t.path)[i]? = some (dg m.dp t.path)[i] := List.getElem?_eq_getElem (by omega)
        have g1 : atI ((dg m.dp s.path).map V.int) (i : Int) = some (.int (dg m.dp s.path)[i]) := atI_nat (by rw [List.getElem?_map, e1]; rfl)
        have g2 : atI ((dg m.dp t.path).map V.int) (i : Int) = some (.int (dg m.dp t.path)[i]) := atI_nat (by rw [List.getElem?_map, e2]; rfl)
        simp only [and_assoc, rst, rs, re, ra, rq, rx, ro, rl, rl2, rsp, rz, rix, rln, rg, rd, ri, rv, rk, rdd, rwi, at0, at1, at2, at3, upd_at, List.getElem?_cons_zero, List.getElem?_cons_succ, Option.some.injEq, exists_eq_left', exists_eq_left, List.set_cons_zero, List.set_cons_succ, true_and, and_true, HO.lst.injEq, HO.tup.injEq, exists_and_left, exists_eq, exists_eq', Br.t, Br.f, Be.t, Be.f, List.cons.injEq, List.append_nil, scal, if_true, if_false, ite_true, ite_false, eq_self_iff_true, decide_true, decide_false, Bool.not_true, Bool.not_false, reduceIte, List.nil_append, List.cons_append, reduceCtorEq, false_and, exists_false, false_or, or_false, Int.reduceLT, ral, rmd, rsq, rlu, rdp, rrp, rrt, rtp, rzk, rsp5, Bool.true_or, Bool.false_or, Bool.or_false, Bool.or_true, s1 _ _ hd1', s1 _ _ hd2]
        refine ⟨_, by rw [Int.zero_add]; exact g1, _, by rw [Int.zero_add]; exact g2, rfl, ?_⟩
        have ed : diffs (dg m.dp s.path) (dg m.dp t.path) (i + 1) = diffs (dg m.dp s.path) (dg m.dp t.path) i ++ if (dg m.dp s.path)[i] = (dg m.dp t.path)[i] then [] else [i] := by
          rw [diffs, diffs, List.range_succ, List.filter_append]
          congr 1
          rw [List.filter_cons, e1, e2]
          by_cases c : (dg m.dp s.path)[i] = (dg m.dp t.path)[i]
          · rw [c]
            simp
          · simp [c]
        have ll : (diffs (dg m.dp s.path) (dg m.dp t.path) i).length ≤ i := by
          rw [diffs]
          exact Nat.le_trans (List.length_filter_le _ _) (by rw [List.length_range]; omega)
        rw [ed]
        refine Be.n (fun c => ?_) (fun c => ?_)
        · rw [if_neg (fun z => c (by rw [z]))]
          exact ⟨_, hd, by rw [List.length_map, sizeLine_eq]; omega, Same.mut s1 hD, by rw [List.map_append, Int.zero_add]; rfl⟩
        · rw [if_pos (V.int.inj c), List.append_nil]
          exact ⟨s1, hd⟩
      · rintro D H' hD ⟨s1, hd⟩
        subst hr
        refine seqI fun rr hr => ?_
        simp only [and_assoc, rst, rs, re, ra, rq, rx, ro, rl, rl2, rsp, rz, rix, rln, rg, rd, ri, rv, rk, rdd, rwi, at0, at1, at2, at3, upd_at, List.getElem?_cons_zero, List.getElem?_cons_succ, Option.some.injEq, exists_eq_left', exists_eq_left, List.set_cons_zero, List.set_cons_succ, true_and, and_true, HO.lst.injEq, HO.tup.injEq, exists_and_left, exists_eq, exists_eq', Br.t, Br.f, Be.t, Be.f, List.cons.injEq, List.append_nil, scal, if_true, if_false, ite_true, ite_false, eq_self_iff_true, decide_true, decide_false, Bool.not_true, Bool.not_false, reduceIte, List.nil_append, List.cons_append, reduceCtorEq, false_and, exists_false, false_or, or_false, Int.reduceLT, ral, rmd, rsq, rlu, rdp, rrp, rrt, rtp, rzk, rsp5, Bool.true_or, Bool.false_or, Bool.or_false, Bool.or_true]
        intro pe H8 a8
        have em : (diffs (dg m.dp s.path) (dg m.dp t.path) m.dp).map (fun (k : Nat) => V.int (k : Nat)) = ((diffs (dg m.dp s.path) (dg m.dp t.path) m.dp).map fun (k : Nat) => (k : Int)).map V.int := by rw [List.map_map]; rfl
        rw [em] at hd
        refine ne_intsA (ns := (diffs (dg m.dp s.path) (dg m.dp t.path) m.dp).map fun (k : Nat) => (k : Int)) (ms := []) (SqL.of (a8.s _ _ hd)) (SqL.of a8.e) ⟨_, rfl, ?_⟩
        have S8 := Same.trans S7 (Same.trans s1 a8.s)
        have hd8 := a8.s _ _ hd
        clear a8 hd em
        have hc : s.seed = t.seed := V.int.inj c
        by_cases e : s.path = t.path
        · have dz : diffs (dg m.dp s.path) (dg m.dp t.path) m.dp = [] := by rw [e]; exact diffs_self _ _
          rw [dz] at hd8 ⊢
          refine Br.n (fun c => absurd rfl c) (fun _ => ?_)
          simp only [and_assoc, rst, rs, re, ra, rq, rx, ro, rl, rl2, rsp, rz, rix, rln, rg, rd, ri, rv, rk, rdd, rwi, at0, at1, at2, at3, upd_at, List.getElem?_cons_zero, List.getElem?_cons_succ, Option.some.injEq, exists_eq_left', exists_eq_left, List.set_cons_zero, List.set_cons_succ, true_and, and_true, HO.lst.injEq, HO.tup.injEq, exists_and_left, exists_eq, exists_eq', Br.t, Br.f, Be.t, Be.f, List.cons.injEq, List.append_nil, scal, if_true, if_false, ite_true, ite_false, eq_self_iff_true, decide_true, decide_false, Bool.not_true, Bool.not_false, reduceIte, List.nil_append, List.cons_append, reduceCtorEq, false_and, exists_false, false_or, or_false, Int.reduceLT, ral, rmd, rsq, rlu, rdp, rrp, rrt, rtp, rzk, rsp5, Bool.true_or, Bool.false_or, Bool.or_false, Bool.or_true]
          subst hr
          refine seqI fun rr hr => ?_
          simp only [and_assoc, rst, rs, re, ra, rq, rx, ro, rl, rl2, rsp, rz, rix, rln, rg, rd, ri, rv, rk, rdd, rwi, at0, at1, at2, at3, upd_at, List.getElem?_cons_zero, List.getElem?_cons_succ, Option.some.injEq, exists_eq_left', exists_eq_left, List.set_cons_zero, List.set_cons_succ, true_and, and_true, HO.lst.injEq, HO.tup.injEq, exists_and_left, exists_eq, exists_eq', Br.t, Br.f, Be.t, Be.f, List.cons.injEq, List.append_nil, scal, if_true, if_false, ite_true, ite_false, eq_self_iff_true, decide_true, decide_false, Bool.not_true, Bool.not_false, reduceIte, List.nil_append, List.cons_append, reduceCtorEq, false_and, exists_false, false_or, or_false, Int.reduceLT, ral, rmd, rsq, rlu, rdp, rrp, rrt, rtp, rzk, rsp5, Bool.true_or, Bool.false_or, Bool.or_false, Bool.or_true]
          have lb : m.len ≤ 2 ^ 16 := by
            have : ∀ k : Nat, k ≤ 16 → (2 : Int) ^ k ≤ 2 ^ 16 := by decide +kernel
            exact this m.lb hm.2.2.2.2.2.1
          obtain ⟨_, _, _, ⟨s0, s1'⟩, n0, n1⟩ := so
          obtain ⟨_, _, _, ⟨t0, t1'⟩, u0, u1⟩ := to'
          refine ⟨_, S8 _ _ h1, _, rfl, _, rfl, _, S8 _ _ h1, _, rfl, _, rfl, _, S8 _ _ h1, _, rfl, _, rfl, _, rfl, _, rfl, _, rfl, by omega, by omega, by omega, by omega, ?_⟩
          refine LC.rng (fun D i H' => Same H8 H' ∧ H' D = some (.lst ((meets s.place t.place t.many i).map V.int))) (fun D hD => ⟨Same.new hD, by rw [upd_same, show meets s.place t.place t.many 0 = [] from by rw [meets, show (min (s.place + ((0 : Nat) : Int)) (t.place + t.many) - max s.place t.place).toNat = 0 from by omega]; rfl]; rfl⟩) ?_ ?_
          · rintro D i H' hD hi ⟨s1, hd⟩
            simp only [and_assoc, rst, rs, re, ra, rq, rx, ro, rl, rl2, rsp, rz, rix, rln, rg, rd, ri, rv, rk, rdd, rwi, at0, at1, at2, at3, upd_at, List.getElem?_cons_zero, List.getElem?_cons_succ, Option.some.injEq, exists_eq_left', exists_eq_left, List.set_cons_zero, List.set_cons_succ, true_and, and_true, HO.lst.injEq, HO.tup.injEq, exists_and_left, exists_eq, exists_eq', Br.t, Br.f, Be.t, Be.f, List.cons.injEq, List.append_nil, scal, if_true, if_false, ite_true, ite_false, eq_self_iff_true, decide_true, decide_false, Bool.not_true, Bool.not_false, reduceIte, List.nil_append, List.cons_append, reduceCtorEq, false_and, exists_false, false_or, or_false, Int.reduceLT, ral, rmd, rsq, rlu, rdp, rrp, rrt, rtp, rzk, rsp5, Bool.true_or, Bool.false_or, Bool.or_false, Bool.or_true, Same.trans S8 s1 _ _ h1']
            have ml2 : (meets s.place t.place t.many i).length ≤ i := by
              rw [meets, List.length_map, List.length_range]
              omega
            refine Be.d (fun c4 => ?_) (fun c4 => ?_)
            · have S9 := Same.trans S8 s1
              refine ⟨_, S9 _ _ h1', _, rfl, _, rfl, _, S9 _ _ h1', _, rfl, _, rfl, _, rfl, _, rfl, ?_⟩
              refine Be.d (fun c5 => ?_) (fun c5 => ?_)
              · exact ⟨_, hd, by rw [List.length_map, sizeLine_eq]; omega, Same.mut s1 hD, by rw [meets_yes c4 c5, List.map_append]; rfl⟩
              · rw [meets_no (fun z => c5 z.2)]
                exact ⟨s1, hd⟩
            · rw [meets_no (fun z => c4 z.1)]
              exact ⟨s1, hd⟩
          · rintro D H' hD ⟨s1, hd⟩
            have S9 := Same.trans S8 s1
            generalize hn : (s.place + s.many - s.place).toNat = n at hd
            have hn2 : ((n : Nat) : Int) = s.many := by omega
            subst hr
            refine seqI fun rr hr => ?_
            simp only [and_assoc, rst, rs, re, ra, rq, rx, ro, rl, rl2, rsp, rz, rix, rln, rg, rd, ri, rv, rk, rdd, rwi, at0, at1, at2, at3, upd_at, List.getElem?_cons_zero, List.getElem?_cons_succ, Option.some.injEq, exists_eq_left', exists_eq_left, List.set_cons_zero, List.set_cons_succ, true_and, and_true, HO.lst.injEq, HO.tup.injEq, exists_and_left, exists_eq, exists_eq', Br.t, Br.f, Be.t, Be.f, List.cons.injEq, List.append_nil, scal, if_true, if_false, ite_true, ite_false, eq_self_iff_true, decide_true, decide_false, Bool.not_true, Bool.not_false, reduceIte, List.nil_append, List.cons_append, reduceCtorEq, false_and, exists_false, false_or, or_false, Int.reduceLT, ral, rmd, rsq, rlu, rdp, rrp, rrt, rtp, rzk, rsp5, Bool.true_or, Bool.false_or, Bool.or_false, Bool.or_true]
            intro pe H10 a10
            refine eq_intsA (ns := meets s.place t.place t.many n) (ms := []) (SqL.of (a10.s _ _ hd)) (SqL.of a10.e) ⟨_, rfl, ?_⟩
            have S10 := Same.trans S9 a10.s
            have hd10 := a10.s _ _ hd
            by_cases c3 : mbehind s t ≤ mfirst s t
            · have ez : meets s.place t.place t.many n = [] := by
                rw [meets, show (min (s.place + ((n : Nat) : Int)) (t.place + t.many) - max s.place t.place).toNat = 0 from by unfold mbehind mfirst at c3; omega]
                rfl
              rw [ez]
              simp only [and_assoc, rst, rs, re, ra, rq, rx, ro, rl, rl2, rsp, rz, rix, rln, rg, rd, ri, rv, rk, rdd, rwi, at0, at1, at2, at3, upd_at, List.getElem?_cons_zero, List.getElem?_cons_succ, Option.some.injEq, exists_eq_left', exists_eq_left, List.set_cons_zero, List.set_cons_succ, true_and, and_true, HO.lst.injEq, HO.tup.injEq, exists_and_left, exists_eq, exists_eq', Br.t, Br.f, Be.t, Be.f, List.cons.injEq, List.append_nil, scal, if_true, if_false, ite_true, ite_false, eq_self_iff_true, decide_true, decide_false, Bool.not_true, Bool.not_false, reduceIte, List.nil_append, List.cons_append, reduceCtorEq, false_and, exists_false, false_or, or_false, Int.reduceLT, ral, rmd, rsq, rlu, rdp, rrp, rrt, rtp, rzk, rsp5, Bool.true_or, Bool.false_or, Bool.or_false, Bool.or_true]
              exact fun g H9 a9 => q g H9 (Same.trans S10 a9.s) (by rw [a9.e, mrow_ends hc e c3])
            · obtain ⟨k, hk⟩ : ∃ k : Nat, (min (s.place + ((n : Nat) : Int)) (t.place + t.many) - max s.place t.place).toNat = k + 1 := ⟨(min (s.place + ((n : Nat) : Int)) (t.place + t.many) - max s.place t.place).toNat - 1, by unfold mbehind mfirst at c3; omega⟩
              have ez : meets s.place t.place t.many n = mfirst s t :: ((List.range k).map fun (j : Nat) => max s.place t.place + ((j + 1 : Nat) : Int)) := by
                rw [meets, hk, List.range_succ_eq_map, List.map_cons, List.map_map]
                congr 1
                show max s.place t.place + ((0 : Nat) : Int) = mfirst s t
                rw [mfirst]
                omega
              rw [ez] at hd10 ⊢
              refine Br.d (fun c => by cases c) (fun _ => ?_)
              simp only [and_assoc, rst, rs, re, ra, rq, rx, ro, rl, rl2, rsp, rz, rix, rln, rg, rd, ri, rv, rk, rdd, rwi, at0, at1, at2, at3, upd_at, List.getElem?_cons_zero, List.getElem?_cons_succ, Option.some.injEq, exists_eq_left', exists_eq_left, List.set_cons_zero, List.set_cons_succ, true_and, and_true, HO.lst.injEq, HO.tup.injEq, exists_and_left, exists_eq, exists_eq', Br.t, Br.f, Be.t, Be.f, List.cons.injEq, List.append_nil, scal, if_true, if_false, ite_true, ite_false, eq_self_iff_true, decide_true, decide_false, Bool.not_true, Bool.not_false, reduceIte, List.nil_append, List.cons_append, reduceCtorEq, false_and, exists_false, false_or, or_false, Int.reduceLT, ral, rmd, rsq, rlu, rdp, rrp, rrt, rtp, rzk, rsp5, Bool.true_or, Bool.false_or, Bool.or_false, Bool.or_true]
              subst hr
              simp only [and_assoc, rst, rs, re, ra, rq, rx, ro, rl, rl2, rsp, rz, rix, rln, rg, rd, ri, rv, rk, rdd, rwi, at0, at1, at2, at3, upd_at, List.getElem?_cons_zero, List.getElem?_cons_succ, Option.some.injEq, exists_eq_left', exists_eq_left, List.set_cons_zero, List.set_cons_succ, true_and, and_true, HO.lst.injEq, HO.tup.injEq, exists_and_left, exists_eq, exists_eq', Br.t, Br.f, Be.t, Be.f, List.cons.injEq, List.append_nil, scal, if_true, if_false, ite_true, ite_false, eq_self_iff_true, decide_true, decide_false, Bool.not_true, Bool.not_false, reduceIte, List.nil_append, List.cons_append, reduceCtorEq, false_and, exists_false, false_or, or_false, Int.reduceLT, ral, rmd, rsq, rlu, rdp, rrp, rrt, rtp, rzk, rsp5, Bool.true_or, Bool.false_or, Bool.or_false, Bool.or_true]
              refine ⟨_, hd10, _, rfl, _, atI_nat (j := 0) rfl, _, hd10, _, rfl, fun g H9 a9 => q g H9 (Same.trans S10 a9.s) ?_⟩
              rw [a9.e, mrow_meets hc e c3]
              have ek : (((mfirst s t :: ((List.range k).map fun (j : Nat) => max s.place t.place + ((j + 1 : Nat) : Int))).map V.int).length : Int) = mbehind s t - mfirst s t := by
                rw [List.length_map, List.length_cons, List.length_map, List.length_range]
                unfold mbehind mfirst
                unfold mbehind mfirst at c3
                omega
              rw [ek]
        · obtain ⟨nd, fe⟩ := fu_dg s.path t.path m.dp sl tl (fun c h => (so.2.2.1 c h).1) (fun c h => (to'.2.2.1 c h).1) e
          obtain ⟨r, dr⟩ := diffs_head _ _ (by rw [l1, l2]) nd
          rw [l1, fe] at dr
          rw [dr] at hd8 ⊢
          refine Br.n (fun c => ?_) (fun c => by cases c)
          simp only [and_assoc, rst, rs, re, ra, rq, rx, ro, rl, rl2, rsp, rz, rix, rln, rg, rd, ri, rv, rk, rdd, rwi, at0, at1, at2, at3, upd_at, List.getElem?_cons_zero, List.getElem?_cons_succ, Option.some.injEq, exists_eq_left', exists_eq_left, List.set_cons_zero, List.set_cons_succ, true_and, and_true, HO.lst.injEq, HO.tup.injEq, exists_and_left, exists_eq, exists_eq', Br.t, Br.f, Be.t, Be.f, List.cons.injEq, List.append_nil, scal, if_true, if_false, ite_true, ite_false, eq_self_iff_true, decide_true, decide_false, Bool.not_true, Bool.not_false, reduceIte, List.nil_append, List.cons_append, reduceCtorEq, false_and, exists_false, false_or, or_false, Int.reduceLT, ral, rmd, rsq, rlu, rdp, rrp, rrt, rtp, rzk, rsp5, Bool.true_or, Bool.false_or, Bool.or_false, Bool.or_true]
          exact ⟨_, hd8, _, rfl, _, atI_nat (j := 0) rfl, fun g H9 a9 => q g H9 (Same.trans S8 a9.s) (by rw [a9.e, mrow_path hc e])⟩
end
end Law

-- RDX ral, rmd, rsq, rlu, rdp, rrp, rrt, rtp, rzk, rsp5, Bool.true_or, Bool.false_or, Bool.or_false, Bool.or_true
namespace Law
open PySem PySem.Spec PyProof.Rows L2 Sw
section
variable {P : Program} {w : World} {K : Fg} {mg : Str → Option Value} {base : Heap}
theorem ok__law_near (T : Tx K mg w) (c__law_take : Cal P w K mg base 1 "_law_take" ["box", "many"] (sp__law_take K)) (c__law_stretch : Cal P w K mg base 3 "_law_stretch" ["box", "m"] (sp__law_stretch K))  : Cal P w K mg base 4 "_law_near" ["box", "m", "one"] (sp__law_near K) := by
  refine cal_mk T.F__law_near T.g__law_near sc__law_near (len3 _) (fun _ _ _ _ _ _ us hl => match us, hl with | [_, _, _], _ => rfl) (fun cdv A outer s H vs Q E hr h => ?_)
  obtain ⟨v0, v1, v2, rfl, h⟩ := h
  have hu := hu_of hr.r
  refine ⟨_, (pss_cons (ps_asg (pv 2) (pg_tupQ rfl (pgs_cons (pg_name (i := 3) sc__law_near.nd rfl (Or.inl rfl)) (pgs_cons (pg_name (i := 4) sc__law_near.nd rfl (Or.inl rfl)) (pgs_cons (pg_name (i := 5) sc__law_near.nd rfl (Or.inl rfl)) (pgs_cons (pg_name (i := 6) sc__law_near.nd rfl (Or.inl rfl)) pgs_nil)))) (gname_len (gname_len (gname_len (gname_len (fun _ _ _ _ h => gnil_len h)))))))
      (pss_cons (ps_set (i := 7) sc__law_near.nd rfl (Or.inl rfl) (pe_op op_shlW pe_int (pe_ix ix_q (pv 1) pe_int (fun _ _ => rfl))))
      (pss_cons (ps_set (i := 8) sc__law_near.nd rfl (Or.inl rfl) (pe_cal c__law_stretch hr (by decide) passL rfl (pa_cons (pv 0) (pa_cons (pv 1) pa_nil))))
      (pss_cons (ps_set (i := 9) sc__law_near.nd rfl (Or.inl rfl) (pe_cal c__law_take hr (by decide) passL rfl (pa_cons (pv 0) (pa_cons pe_int pa_nil))))
      (pss_cons (ps_if (pt_cmpR op_eq (pv 9) pe_int (nomark _)) (pss_one (ps_ret (pv 8))) pss_nil)
      (pss_cons (ps_if (pt_cmpR op_eq (pv 9) pe_int (nomark _)) (pss_one (ps_ret (pe_tupA (pa_cons (pv 3) (pa_cons (pe_ix ix_q (pv 8) pe_int (fun _ _ => rfl)) (pa_cons (pe_ix ix_q (pv 8) pe_int (fun _ _ => rfl)) (pa_cons (pe_ix ix_q (pv 8) pe_int (fun _ _ => rfl)) pa_nil))))))) pss_nil)
      (pss_cons (ps_if (PW.pt (pw_and (pt_cmpR op_eq (pv 9) pe_int (nomark _)) (pw_and1 (pt_cmpR (op_neA hr.units) (pv 4) (pe_tupA pa_nil) (nomark _))))) (pss_one (ps_ret (pe_tupA (pa_cons (pv 3) (pa_cons (pe_slice sl_tupP (pv 4) po_none (po_some (pe_un un_neg pe_int))) (pa_cons (pe_ix ix_q (pv 8) pe_int (fun _ _ => rfl)) (pa_cons (pe_ix ix_q (pv 8) pe_int (fun _ _ => rfl)) pa_nil))))))) pss_nil)
      (pss_cons (ps_if (PW.pt (pw_and (pt_cmpR op_eq (pv 9) pe_int (nomark _)) (pw_and1 (pt_cmpR (op_neA hr.units) (pv 4) (pe_tupA pa_nil) (nomark _))))) (pss_cons (ps_set (i := 10) sc__law_near.nd rfl (Or.inl rfl) (pe_op op_sub (pe_op op_shlW pe_int (pe_ix ix_q (pv 1) pe_int (fun _ _ => rfl))) pe_int))
      (pss_one (ps_ret (pe_tupA (pa_cons (pv 3) (pa_cons (pe_op op_catP (pe_slice sl_tupP (pv 4) po_none (po_some (pe_un un_neg pe_int))) (pe_tupA (pa_cons (pe_cal c__law_take hr (by decide) passL rfl (pa_cons (pv 0) (pa_cons (pv 10) pa_nil))) pa_nil))) (pa_cons (pv 5) (pa_cons (pv 6) pa_nil)))))))) pss_nil)
      (pss_cons (ps_if (pt_cmpR op_eq (pv 9) pe_int (nomark _)) (pss_cons (ps_set (i := 11) sc__law_near.nd rfl (Or.inl rfl) (pe_callB (call_min2 rfl) (by rfl) T.n_min (by decide +kernel) (pa_cons (pv 7) (pa_cons (pe_op op_add (pv 5) (pv 6)) pa_nil))))
      (pss_one (ps_ret (pe_tupA (pa_cons (pv 3) (pa_cons (pv 4) (pa_cons (pv 11) (pa_cons (pe_callB (call_min2 rfl) (by rfl) T.n_min (by decide +kernel) (pa_cons pe_int (pa_cons (pe_op op_sub (pv 7) (pv 11)) pa_nil))) pa_nil)))))))) pss_nil)
      (pss_one (ps_ret (pe_tupA (pa_cons (pv 3) (pa_cons (pv 4) (pa_cons (pe_ix ix_q (pv 8) pe_int (fun _ _ => rfl)) (pa_cons (pe_ix ix_q (pv 8) pe_int (fun _ _ => rfl)) pa_nil)))))))))))))))), ?_⟩
  obtain ⟨p, m, ss, s, rfl, hw, hm, tm, ts, so, sm, k⟩ := h
  obtain ⟨ta, tb, rfl, hta, htb⟩ := id ts
  obtain ⟨tp, tq, xs, rfl, h3, h4, _⟩ := id tm
  refine seqI fun rr hr => ?_
  simp only [and_assoc, rst, rs, re, ra, rq, rx, ro, rl, rl2, rsp, rz, rix, rln, rg, rd, ri, rv, rk, rdd, rwi, at0, at1, at2, at3, upd_at, List.getElem?_cons_zero, List.getElem?_cons_succ, Option.some.injEq, exists_eq_left', exists_eq_left, List.set_cons_zero, List.set_cons_succ, true_and, and_true, HO.lst.injEq, HO.tup.injEq, exists_and_left, exists_eq, exists_eq', Br.t, Br.f, Be.t, Be.f, List.cons.injEq, List.append_nil, scal, if_true, if_false, ite_true, ite_false, eq_self_iff_true, decide_true, decide_false, Bool.not_true, Bool.not_false, reduceIte, List.nil_append, List.cons_append, reduceCtorEq, false_and, exists_false, false_or, or_false, Int.reduceLT, ral, rmd, rsq, rlu, rdp, rrp, rrt, rtp, rzk, rsp5, Bool.true_or, Bool.false_or, Bool.or_false, Bool.or_true]
  refine ⟨_, wo_same _ _ hta, rfl, _, rfl, _, _, rfl, _, _, rfl, _, _, rfl, _, _, rfl, rfl, ?_⟩
  have hl := hm.2.2.2.2.2.1
  have lb : m.len ≤ 2 ^ 16 := by
    have : ∀ k : Nat, k ≤ 16 → (2 : Int) ^ k ≤ 2 ^ 16 := by decide +kernel
    exact this m.lb hl
  subst hr
  refine seqI fun rr hr => ?_
  simp only [and_assoc, rst, rs, re, ra, rq, rx, ro, rl, rl2, rsp, rz, rix, rln, rg, rd, ri, rv, rk, rdd, rwi, at0, at1, at2, at3, upd_at, List.getElem?_cons_zero, List.getElem?_cons_succ, Option.some.injEq, exists_eq_left', exists_eq_left, List.set_cons_zero, List.set_cons_succ, true_and, and_true, HO.lst.injEq, HO.tup.injEq, exists_and_left, exists_eq, exists_eq', Br.t, Br.f, Be.t, Be.f, List.cons.injEq, List.append_nil, scal, if_true, if_false, ite_true, ite_false, eq_self_iff_true, decide_true, decide_false, Bool.not_true, Bool.not_false, reduceIte, List.nil_append, List.cons_append, reduceCtorEq, false_and, exists_false, false_or, or_false, Int.reduceLT, ral, rmd, rsq, rlu, rdp, rrp, rrt, rtp, rzk, rsp5, Bool.true_or, Bool.false_or, Bool.or_false, Bool.or_true]
  refine ⟨_, wo_same _ _ h3, _, rfl, _, rfl, ?_⟩
  refine ⟨_, rfl, shl1 (by omega), ?_⟩
  rw [one_shl, show (2 : Int) ^ m.lb = m.len from rfl]
  subst hr
  refine seqI fun rr hr => ?_
  simp only [and_assoc, rst, rs, re, ra, rq, rx, ro, rl, rl2, rsp, rz, rix, rln, rg, rd, ri, rv, rk, rdd, rwi, at0, at1, at2, at3, upd_at, List.getElem?_cons_zero, List.getElem?_cons_succ, Option.some.injEq, exists_eq_left', exists_eq_left, List.set_cons_zero, List.set_cons_succ, true_and, and_true, HO.lst.injEq, HO.tup.injEq, exists_and_left, exists_eq, exists_eq', Br.t, Br.f, Be.t, Be.f, List.cons.injEq, List.append_nil, scal, if_true, if_false, ite_true, ite_false, eq_self_iff_true, decide_true, decide_false, Bool.not_true, Bool.not_false, reduceIte, List.nil_append, List.cons_append, reduceCtorEq, false_and, exists_false, false_or, or_false, Int.reduceLT, ral, rmd, rsq, rlu, rdp, rrp, rrt, rtp, rzk, rsp5, Bool.true_or, Bool.false_or, Bool.or_false, Bool.or_true]
  refine ⟨_, _, rfl, p, m, ss, rfl, hw, hm, tm, fun v t H1 W1 tv tok tmany => ?_⟩
  subst hr
  refine seqI fun rr hr => ?_
  simp only [and_assoc, rst, rs, re, ra, rq, rx, ro, rl, rl2, rsp, rz, rix, rln, rg, rd, ri, rv, rk, rdd, rwi, at0, at1, at2, at3, upd_at, List.getElem?_cons_zero, List.getElem?_cons_succ, Option.some.injEq, exists_eq_left', exists_eq_left, List.set_cons_zero, List.set_cons_succ, true_and, and_true, HO.lst.injEq, HO.tup.injEq, exists_and_left, exists_eq, exists_eq', Br.t, Br.f, Be.t, Be.f, List.cons.injEq, List.append_nil, scal, if_true, if_false, ite_true, ite_false, eq_self_iff_true, decide_true, decide_false, Bool.not_true, Bool.not_false, reduceIte, List.nil_append, List.cons_append, reduceCtorEq, false_and, exists_false, false_or, or_false, Int.reduceLT, ral, rmd, rsq, rlu, rdp, rrp, rrt, rtp, rzk, rsp5, Bool.true_or, Bool.false_or, Bool.or_false, Bool.or_true]
  refine ⟨_, _, rfl, p, 6, rfl, W1.1, rfl, by decide, by decide, fun wz H2 w0 w1 b2 e2 => ?_⟩
  have W2 := Wl.ds W1 b2 e2
  have tv2 := tv.same (Wl.draw b2 e2).2
  have ts2 : Ts (wo p H2) s (.ref ta) := ts.same W2.2
  have htb2 := W2.2 _ _ htb
  have hta2 := W2.2 _ _ hta
  obtain ⟨va, vb, rfl, hva, hvb⟩ := id tv2
  clear tv ts hta htb
  subst hr
  refine seqI fun rr hr => ?_
  simp only [and_assoc, rst, rs, re, ra, rq, rx, ro, rl, rl2, rsp, rz, rix, rln, rg, rd, ri, rv, rk, rdd, rwi, at0, at1, at2, at3, upd_at, List.getElem?_cons_zero, List.getElem?_cons_succ, Option.some.injEq, exists_eq_left', exists_eq_left, List.set_cons_zero, List.set_cons_succ, true_and, and_true, HO.lst.injEq, HO.tup.injEq, exists_and_left, exists_eq, exists_eq', Br.t, Br.f, Be.t, Be.f, List.cons.injEq, List.append_nil, scal, if_true, if_false, ite_true, ite_false, eq_self_iff_true, decide_true, decide_false, Bool.not_true, Bool.not_false, reduceIte, List.nil_append, List.cons_append, reduceCtorEq, false_and, exists_false, false_or, or_false, Int.reduceLT, ral, rmd, rsq, rlu, rdp, rrp, rrt, rtp, rzk, rsp5, Bool.true_or, Bool.false_or, Bool.or_false, Bool.or_true]
  refine Br.d (fun c => ?_) (fun c => ?_)
  · simp only [and_assoc, rst, rs, re, ra, rq, rx, ro, rl, rl2, rsp, rz, rix, rln, rg, rd, ri, rv, rk, rdd, rwi, at0, at1, at2, at3, upd_at, List.getElem?_cons_zero, List.getElem?_cons_succ, Option.some.injEq, exists_eq_left', exists_eq_left, List.set_cons_zero, List.set_cons_succ, true_and, and_true, HO.lst.injEq, HO.tup.injEq, exists_and_left, exists_eq, exists_eq', Br.t, Br.f, Be.t, Be.f, List.cons.injEq, List.append_nil, scal, if_true, if_false, ite_true, ite_false, eq_self_iff_true, decide_true, decide_false, Bool.not_true, Bool.not_false, reduceIte, List.nil_append, List.cons_append, reduceCtorEq, false_and, exists_false, false_or, or_false, Int.reduceLT, ral, rmd, rsq, rlu, rdp, rrp, rrt, rtp, rzk, rsp5, Bool.true_or, Bool.false_or, Bool.or_false, Bool.or_true]
    exact k _ t _ W2 tv2 tok tmany
  simp only [and_assoc, rst, rs, re, ra, rq, rx, ro, rl, rl2, rsp, rz, rix, rln, rg, rd, ri, rv, rk, rdd, rwi, at0, at1, at2, at3, upd_at, List.getElem?_cons_zero, List.getElem?_cons_succ, Option.some.injEq, exists_eq_left', exists_eq_left, List.set_cons_zero, List.set_cons_succ, true_and, and_true, HO.lst.injEq, HO.tup.injEq, exists_and_left, exists_eq, exists_eq', Br.t, Br.f, Be.t, Be.f, List.cons.injEq, List.append_nil, scal, if_true, if_false, ite_true, ite_false, eq_self_iff_true, decide_true, decide_false, Bool.not_true, Bool.not_false, reduceIte, List.nil_append, List.cons_append, reduceCtorEq, false_and, exists_false, false_or, or_false, Int.reduceLT, ral, rmd, rsq, rlu, rdp, rrp, rrt, rtp, rzk, rsp5, Bool.true_or, Bool.false_or, Bool.or_false, Bool.or_true]
  subst hr
  refine seqI fun rr hr => ?_
  simp only [and_assoc, rst, rs, re, ra, rq, rx, ro, rl, rl2, rsp, rz, rix, rln, rg, rd, ri, rv, rk, rdd, rwi, at0, at1, at2, at3, upd_at, List.getElem?_cons_zero, List.getElem?_cons_succ, Option.some.injEq, exists_eq_left', exists_eq_left, List.set_cons_zero, List.set_cons_succ, true_and, and_true, HO.lst.injEq, HO.tup.injEq, exists_and_left, exists_eq, exists_eq', Br.t, Br.f, Be.t, Be.f, List.cons.injEq, List.append_nil, scal, if_true, if_false, ite_true, ite_false, eq_self_iff_true, decide_true, decide_false, Bool.not_true, Bool.not_false, reduceIte, List.nil_append, List.cons_append, reduceCtorEq, false_and, exists_false, false_or, or_false, Int.reduceLT, ral, rmd, rsq, rlu, rdp, rrp, rrt, rtp, rzk, rsp5, Bool.true_or, Bool.false_or, Bool.or_false, Bool.or_true]
  refine Br.d (fun c => ?_) (fun c => ?_)
  · simp only [and_assoc, rst, rs, re, ra, rq, rx, ro, rl, rl2, rsp, rz, rix, rln, rg, rd, ri, rv, rk, rdd, rwi, at0, at1, at2, at3, upd_at, List.getElem?_cons_zero, List.getElem?_cons_succ, Option.some.injEq, exists_eq_left', exists_eq_left, List.set_cons_zero, List.set_cons_succ, true_and, and_true, HO.lst.injEq, HO.tup.injEq, exists_and_left, exists_eq, exists_eq', Br.t, Br.f, Be.t, Be.f, List.cons.injEq, List.append_nil, scal, if_true, if_false, ite_true, ite_false, eq_self_iff_true, decide_true, decide_false, Bool.not_true, Bool.not_false, reduceIte, List.nil_append, List.cons_append, reduceCtorEq, false_and, exists_false, false_or, or_false, Int.reduceLT, ral, rmd, rsq, rlu, rdp, rrp, rrt, rtp, rzk, rsp5, Bool.true_or, Bool.false_or, Bool.or_false, Bool.or_true]
    refine ⟨_, wo_same _ _ hva, _, rfl, _, rfl, _, wo_same _ _ hva, _, rfl, _, rfl, _, wo_same _ _ hva, _, rfl, _, rfl, fun g H3 a3 => ?_⟩
    obtain ⟨ng, w3, hg⟩ := alW W2.1 a3
    exact k _ ⟨s.seed, t.path, t.place, t.many⟩ H3 (Wl.trans W2 w3) ⟨g, vb, rfl, hg, w3.2 _ _ hvb⟩ ⟨so.1, tok.2⟩ tmany
  simp only [and_assoc, rst, rs, re, ra, rq, rx, ro, rl, rl2, rsp, rz, rix, rln, rg, rd, ri, rv, rk, rdd, rwi, at0, at1, at2, at3, upd_at, List.getElem?_cons_zero, List.getElem?_cons_succ, Option.some.injEq, exists_eq_left', exists_eq_left, List.set_cons_zero, List.set_cons_succ, true_and, and_true, HO.lst.injEq, HO.tup.injEq, exists_and_left, exists_eq, exists_eq', Br.t, Br.f, Be.t, Be.f, List.cons.injEq, List.append_nil, scal, if_true, if_false, ite_true, ite_false, eq_self_iff_true, decide_true, decide_false, Bool.not_true, Bool.not_false, reduceIte, List.nil_append, List.cons_append, reduceCtorEq, false_and, exists_false, false_or, or_false, Int.reduceLT, ral, rmd, rsq, rlu, rdp, rrp, rrt, rtp, rzk, rsp5, Bool.true_or, Bool.false_or, Bool.or_false, Bool.or_true]
  subst hr
  have pne : ∀ {H' : Hp} {p1 : Addr} {QV : VK}, wo p H' tb = some (.tup (s.path.map V.int)) → H' p1 = some (.tup []) → QV (.bl (!decide (s.path = []))) H' → rNeA K (.ref tb) (.ref p1) H' QV := fun h h' qq => ne_cd (ints_cd (wo_same _ _ h)) (ints_cd (cs := []) h') (by rw [eqv_ints]; exact qq)
  refine seqJ (fun σ' H' => σ' = [some (.ref p), some (.ref tp), some (.ref ta), some (.int s.seed), some (.ref tb), some (.int s.place), some (.int s.many), some (.int m.len), some (.ref va), some (.int wz), none, none] ∧ Wl p H2 H') ?_ (fun r hS => ?_)
  rotate_left
  · simp only [and_assoc, rst, rs, re, ra, rq, rx, ro, rl, rl2, rsp, rz, rix, rln, rg, rd, ri, rv, rk, rdd, rwi, at0, at1, at2, at3, upd_at, List.getElem?_cons_zero, List.getElem?_cons_succ, Option.some.injEq, exists_eq_left', exists_eq_left, List.set_cons_zero, List.set_cons_succ, true_and, and_true, HO.lst.injEq, HO.tup.injEq, exists_and_left, exists_eq, exists_eq', Br.t, Br.f, Be.t, Be.f, List.cons.injEq, List.append_nil, scal, if_true, if_false, ite_true, ite_false, eq_self_iff_true, decide_true, decide_false, Bool.not_true, Bool.not_false, reduceIte, List.nil_append, List.cons_append, reduceCtorEq, false_and, exists_false, false_or, or_false, Int.reduceLT, ral, rmd, rsq, rlu, rdp, rrp, rrt, rtp, rzk, rsp5, Bool.true_or, Bool.false_or, Bool.or_false, Bool.or_true]
    refine Be.d (fun c2 => ?_) (fun c2 => ?_)
    · intro p1 H3 a3
      obtain ⟨_, w3, _⟩ := alW W2.1 a3
      refine pne (w3.2 _ _ htb2) a3.e ⟨_, rfl, ?_⟩
      refine Br.n (fun c5 => ?_) (fun c5 => ?_)
      · simp only [and_assoc, rst, rs, re, ra, rq, rx, ro, rl, rl2, rsp, rz, rix, rln, rg, rd, ri, rv, rk, rdd, rwi, at0, at1, at2, at3, upd_at, List.getElem?_cons_zero, List.getElem?_cons_succ, Option.some.injEq, exists_eq_left', exists_eq_left, List.set_cons_zero, List.set_cons_succ, true_and, and_true, HO.lst.injEq, HO.tup.injEq, exists_and_left, exists_eq, exists_eq', Br.t, Br.f, Be.t, Be.f, List.cons.injEq, List.append_nil, scal, if_true, if_false, ite_true, ite_false, eq_self_iff_true, decide_true, decide_false, Bool.not_true, Bool.not_false, reduceIte, List.nil_append, List.cons_append, reduceCtorEq, false_and, exists_false, false_or, or_false, Int.reduceLT, ral, rmd, rsq, rlu, rdp, rrp, rrt, rtp, rzk, rsp5, Bool.true_or, Bool.false_or, Bool.or_false, Bool.or_true]
        refine ⟨_, wo_same _ _ (w3.2 _ _ htb2), fun g H4 s4 hg4 => ?_⟩
        obtain ⟨ys, ey, ly, my⟩ := cut_init s.path
        rw [ey] at hg4
        have w4 := Wl.trans (Wl.trans W2 w3) (Wl.of_same w3.1 s4)
        have w34 := Wl.trans w3 (Wl.of_same w3.1 s4)
        have hgw : wo p H4 g = some (.tup (ys.map V.int)) := by
          rw [wo_at (fun e => by obtain ⟨_, _, _, ep⟩ := w34.1; rw [e, ep] at hg4; cases hg4)]
          exact hg4
        refine ⟨_, wo_same _ _ (w34.2 _ _ hva), _, rfl, _, rfl, _, wo_same _ _ (w34.2 _ _ hva), _, rfl, _, rfl, fun q H5 a5 => ?_⟩
        obtain ⟨_, w5, hq5⟩ := alW w34.1 a5
        exact k _ ⟨s.seed, ys, t.place, t.many⟩ H5 (Wl.trans W2 (Wl.trans w34 w5)) ⟨q, g, rfl, hq5, w5.2 _ _ hgw⟩ ⟨so.1, by show ys.length ≤ m.dp; have := so.2.1; omega, fun c hc => so.2.2.1 c (my c hc), tok.2.2.2⟩ tmany
      · simp only [and_assoc, rst, rs, re, ra, rq, rx, ro, rl, rl2, rsp, rz, rix, rln, rg, rd, ri, rv, rk, rdd, rwi, at0, at1, at2, at3, upd_at, List.getElem?_cons_zero, List.getElem?_cons_succ, Option.some.injEq, exists_eq_left', exists_eq_left, List.set_cons_zero, List.set_cons_succ, true_and, and_true, HO.lst.injEq, HO.tup.injEq, exists_and_left, exists_eq, exists_eq', Br.t, Br.f, Be.t, Be.f, List.cons.injEq, List.append_nil, scal, if_true, if_false, ite_true, ite_false, eq_self_iff_true, decide_true, decide_false, Bool.not_true, Bool.not_false, reduceIte, List.nil_append, List.cons_append, reduceCtorEq, false_and, exists_false, false_or, or_false, Int.reduceLT, ral, rmd, rsq, rlu, rdp, rrp, rrt, rtp, rzk, rsp5, Bool.true_or, Bool.false_or, Bool.or_false, Bool.or_true]
        exact hS _ _ ⟨rfl, w3⟩
    · exact hS _ _ ⟨rfl, Wl.refl W2.1⟩
  rintro σ' H3 ⟨rfl, w3⟩
  have W3 := Wl.trans W2 w3
  have tv3 := tv2.same w3.2
  have ts3 := ts2.same w3.2
  have htb3 := w3.2 _ _ htb2
  have hva3 := w3.2 _ _ hva
  have hvb3 := w3.2 _ _ hvb
  clear htb2 hta2 hva hvb tv2 ts2
  refine seqJ (fun σ' H' => ∃ v, σ' = [some (.ref p), some (.ref tp), some (.ref ta), some (.int s.seed), some (.ref tb), some (.int s.place), some (.int s.many), some (.int m.len), some (.ref va), some (.int wz), v, none] ∧ Wl p H3 H') ?_ (fun r hS => ?_)
  rotate_left
  · simp only [and_assoc, rst, rs, re, ra, rq, rx, ro, rl, rl2, rsp, rz, rix, rln, rg, rd, ri, rv, rk, rdd, rwi, at0, at1, at2, at3, upd_at, List.getElem?_cons_zero, List.getElem?_cons_succ, Option.some.injEq, exists_eq_left', exists_eq_left, List.set_cons_zero, List.set_cons_succ, true_and, and_true, HO.lst.injEq, HO.tup.injEq, exists_and_left, exists_eq, exists_eq', Br.t, Br.f, Be.t, Be.f, List.cons.injEq, List.append_nil, scal, if_true, if_false, ite_true, ite_false, eq_self_iff_true, decide_true, decide_false, Bool.not_true, Bool.not_false, reduceIte, List.nil_append, List.cons_append, reduceCtorEq, false_and, exists_false, false_or, or_false, Int.reduceLT, ral, rmd, rsq, rlu, rdp, rrp, rrt, rtp, rzk, rsp5, Bool.true_or, Bool.false_or, Bool.or_false, Bool.or_true]
    refine Be.d (fun c2 => ?_) (fun c2 => ?_)
    · intro p1 H4 a4
      obtain ⟨_, w4, _⟩ := alW W3.1 a4
      refine pne (w4.2 _ _ htb3) a4.e ⟨_, rfl, ?_⟩
      refine Br.n (fun c5 => ?_) (fun c5 => ?_)
      · simp only [and_assoc, rst, rs, re, ra, rq, rx, ro, rl, rl2, rsp, rz, rix, rln, rg, rd, ri, rv, rk, rdd, rwi, at0, at1, at2, at3, upd_at, List.getElem?_cons_zero, List.getElem?_cons_succ, Option.some.injEq, exists_eq_left', exists_eq_left, List.set_cons_zero, List.set_cons_succ, true_and, and_true, HO.lst.injEq, HO.tup.injEq, exists_and_left, exists_eq, exists_eq', Br.t, Br.f, Be.t, Be.f, List.cons.injEq, List.append_nil, scal, if_true, if_false, ite_true, ite_false, eq_self_iff_true, decide_true, decide_false, Bool.not_true, Bool.not_false, reduceIte, List.nil_append, List.cons_append, reduceCtorEq, false_and, exists_false, false_or, or_false, Int.reduceLT, ral, rmd, rsq, rlu, rdp, rrp, rrt, rtp, rzk, rsp5, Bool.true_or, Bool.false_or, Bool.or_false, Bool.or_true]
        have W4 := Wl.trans W3 w4
        refine ⟨_, wo_same _ _ (W4.2 _ _ h3), _, rfl, _, rfl, _, rfl, shl1 (by have := hm.2.2.1; omega), ?_⟩
        rw [one_shl, show (2 : Int) ^ m.pb - 1 = m.parts from rfl]
        refine ⟨_, wo_same _ _ (w4.2 _ _ htb3), fun g H5 s5 hg5 => ?_⟩
        obtain ⟨ys, ey, ly, my⟩ := cut_init s.path
        rw [ey] at hg5
        have w5 := Wl.of_same W4.1 s5
        have hgw : wo p H5 g = some (.tup (ys.map V.int)) := by
          rw [wo_at (fun e => by obtain ⟨_, _, _, ep⟩ := w5.1; rw [e, ep] at hg5; cases hg5)]
          exact hg5
        have pb : 1 ≤ m.parts ∧ m.parts ≤ 2 ^ 64 := by
          have : ∀ k : Nat, k ≤ 5 → 1 ≤ k → (1 : Int) ≤ 2 ^ k - 1 ∧ (2 : Int) ^ k - 1 ≤ 2 ^ 64 := by decide +kernel
          exact this m.pb hm.2.2.1 hm.2.1
        refine ⟨_, _, rfl, p, _, rfl, w5.1, rfl, by omega, pb.2, fun r H6 r0 r1 b6 e6 => ?_⟩
        have w6 := Wl.trans w5 (Wl.draw b6 e6)
        have hgw6 := (Wl.draw b6 e6).2 _ _ hgw
        intro g1 H7 a7
        obtain ⟨_, w7, hg7⟩ := alW w6.1 a7
        refine ⟨_, wo_same _ _ (w7.2 _ _ hgw6), _, wo_same _ _ hg7, by rw [List.length_map, sizeLine_eq]; have := so.2.1; have := hm.2.2.2.1; simp; omega, fun g2 H8 s8 hg8 => ?_⟩
        have w8 := Wl.of_same w7.1 s8
        have hgw8 : wo p H8 g2 = some (.tup ((ys ++ [r]).map V.int)) := by
          rw [wo_at (fun e => by obtain ⟨_, _, _, ep⟩ := w8.1; rw [e, ep] at hg8; cases hg8), List.map_append]
          exact hg8
        intro g3 H9 a9
        obtain ⟨_, w9, hg9⟩ := alW w8.1 a9
        have pl : s.path.length ≠ 0 := fun z => c5 (List.eq_nil_of_length_eq_zero z)
        refine k _ ⟨s.seed, ys ++ [r], s.place, s.many⟩ H9 (Wl.trans W4 (Wl.trans w6 (Wl.trans w7 (Wl.trans w8 w9)))) ⟨g3, g2, rfl, hg9, w9.2 _ _ hgw8⟩ ⟨so.1, ?_, fun c hc => ?_, so.2.2.2⟩ sm
        · show (ys ++ [r]).length ≤ m.dp
          rw [List.length_append, List.length_singleton]
          have := so.2.1
          omega
        · rcases List.mem_append.mp hc with h | h
          · exact so.2.2.1 c (my c h)
          · rw [List.mem_singleton.mp h]
            exact ⟨r0, r1⟩
      · simp only [and_assoc, rst, rs, re, ra, rq, rx, ro, rl, rl2, rsp, rz, rix, rln, rg, rd, ri, rv, rk, rdd, rwi, at0, at1, at2, at3, upd_at, List.getElem?_cons_zero, List.getElem?_cons_succ, Option.some.injEq, exists_eq_left', exists_eq_left, List.set_cons_zero, List.set_cons_succ, true_and, and_true, HO.lst.injEq, HO.tup.injEq, exists_and_left, exists_eq, exists_eq', Br.t, Br.f, Be.t, Be.f, List.cons.injEq, List.append_nil, scal, if_true, if_false, ite_true, ite_false, eq_self_iff_true, decide_true, decide_false, Bool.not_true, Bool.not_false, reduceIte, List.nil_append, List.cons_append, reduceCtorEq, false_and, exists_false, false_or, or_false, Int.reduceLT, ral, rmd, rsq, rlu, rdp, rrp, rrt, rtp, rzk, rsp5, Bool.true_or, Bool.false_or, Bool.or_false, Bool.or_true]
        exact hS _ _ ⟨_, rfl, w4⟩
    · exact hS _ _ ⟨_, rfl, Wl.refl W3.1⟩
  rintro σ' H4 ⟨vv, rfl, w4⟩
  have W4 := Wl.trans W3 w4
  have tv4 := tv3.same w4.2
  have htb4 := w4.2 _ _ htb3
  have hva4 := w4.2 _ _ hva3
  refine seqI fun rr hr => ?_
  simp only [and_assoc, rst, rs, re, ra, rq, rx, ro, rl, rl2, rsp, rz, rix, rln, rg, rd, ri, rv, rk, rdd, rwi, at0, at1, at2, at3, upd_at, List.getElem?_cons_zero, List.getElem?_cons_succ, Option.some.injEq, exists_eq_left', exists_eq_left, List.set_cons_zero, List.set_cons_succ, true_and, and_true, HO.lst.injEq, HO.tup.injEq, exists_and_left, exists_eq, exists_eq', Br.t, Br.f, Be.t, Be.f, List.cons.injEq, List.append_nil, scal, if_true, if_false, ite_true, ite_false, eq_self_iff_true, decide_true, decide_false, Bool.not_true, Bool.not_false, reduceIte, List.nil_append, List.cons_append, reduceCtorEq, false_and, exists_false, false_or, or_false, Int.reduceLT, ral, rmd, rsq, rlu, rdp, rrp, rrt, rtp, rzk, rsp5, Bool.true_or, Bool.false_or, Bool.or_false, Bool.or_true]
  refine Br.d (fun c2 => ?_) (fun c2 => ?_)
  · simp only [and_assoc, rst, rs, re, ra, rq, rx, ro, rl, rl2, rsp, rz, rix, rln, rg, rd, ri, rv, rk, rdd, rwi, at0, at1, at2, at3, upd_at, List.getElem?_cons_zero, List.getElem?_cons_succ, Option.some.injEq, exists_eq_left', exists_eq_left, List.set_cons_zero, List.set_cons_succ, true_and, and_true, HO.lst.injEq, HO.tup.injEq, exists_and_left, exists_eq, exists_eq', Br.t, Br.f, Be.t, Be.f, List.cons.injEq, List.append_nil, scal, if_true, if_false, ite_true, ite_false, eq_self_iff_true, decide_true, decide_false, Bool.not_true, Bool.not_false, reduceIte, List.nil_append, List.cons_append, reduceCtorEq, false_and, exists_false, false_or, or_false, Int.reduceLT, ral, rmd, rsq, rlu, rdp, rrp, rrt, rtp, rzk, rsp5, Bool.true_or, Bool.false_or, Bool.or_false, Bool.or_true]
    intro g H5 a5
    obtain ⟨_, w5, hg5⟩ := alW W4.1 a5
    obtain ⟨_, _, _, ⟨sp0, sp1⟩, sn0, sn1⟩ := id so
    have hA : ∃ A, (if s.place + s.many < m.len then s.place + s.many else m.len) = A ∧ 0 ≤ A ∧ A ≤ m.len := ⟨_, rfl, by split <;> omega, by split <;> omega⟩
    obtain ⟨a0, ea, a1, a2⟩ := hA
    rw [ea] at hg5
    have hB : ∃ B, (if m.len - a0 < 40 then m.len - a0 else 40) = B ∧ 0 ≤ B ∧ B ≤ m.len - a0 ∧ B ≤ 40 := ⟨_, rfl, by split <;> omega, by split <;> omega, by split <;> omega⟩
    obtain ⟨b0, eb, b1, b2', b3⟩ := hB
    rw [eb] at hg5
    exact k _ ⟨s.seed, s.path, a0, b0⟩ H5 (Wl.trans W4 w5) ⟨g, tb, rfl, hg5, w5.2 _ _ htb4⟩ ⟨so.1, so.2.1, so.2.2.1, ⟨a1, a2⟩, b1, b2'⟩ b3
  simp only [and_assoc, rst, rs, re, ra, rq, rx, ro, rl, rl2, rsp, rz, rix, rln, rg, rd, ri, rv, rk, rdd, rwi, at0, at1, at2, at3, upd_at, List.getElem?_cons_zero, List.getElem?_cons_succ, Option.some.injEq, exists_eq_left', exists_eq_left, List.set_cons_zero, List.set_cons_succ, true_and, and_true, HO.lst.injEq, HO.tup.injEq, exists_and_left, exists_eq, exists_eq', Br.t, Br.f, Be.t, Be.f, List.cons.injEq, List.append_nil, scal, if_true, if_false, ite_true, ite_false, eq_self_iff_true, decide_true, decide_false, Bool.not_true, Bool.not_false, reduceIte, List.nil_append, List.cons_append, reduceCtorEq, false_and, exists_false, false_or, or_false, Int.reduceLT, ral, rmd, rsq, rlu, rdp, rrp, rrt, rtp, rzk, rsp5, Bool.true_or, Bool.false_or, Bool.or_false, Bool.or_true]
  subst hr
  simp only [and_assoc, rst, rs, re, ra, rq, rx, ro, rl, rl2, rsp, rz, rix, rln, rg, rd, ri, rv, rk, rdd, rwi, at0, at1, at2, at3, upd_at, List.getElem?_cons_zero, List.getElem?_cons_succ, Option.some.injEq, exists_eq_left', exists_eq_left, List.set_cons_zero, List.set_cons_succ, true_and, and_true, HO.lst.injEq, HO.tup.injEq, exists_and_left, exists_eq, exists_eq', Br.t, Br.f, Be.t, Be.f, List.cons.injEq, List.append_nil, scal, if_true, if_false, ite_true, ite_false, eq_self_iff_true, decide_true, decide_false, Bool.not_true, Bool.not_false, reduceIte, List.nil_append, List.cons_append, reduceCtorEq, false_and, exists_false, false_or, or_false, Int.reduceLT, ral, rmd, rsq, rlu, rdp, rrp, rrt, rtp, rzk, rsp5, Bool.true_or, Bool.false_or, Bool.or_false, Bool.or_true]
  refine ⟨_, wo_same _ _ hva4, _, rfl, _, rfl, _, wo_same _ _ hva4, _, rfl, _, rfl, fun g H5 a5 => ?_⟩
  obtain ⟨_, w5, hg5⟩ := alW W4.1 a5
  exact k _ ⟨s.seed, s.path, t.place, t.many⟩ H5 (Wl.trans W4 w5) ⟨g, tb, rfl, hg5, w5.2 _ _ htb4⟩ ⟨so.1, so.2.1, so.2.2.1, tok.2.2.2⟩ tmany
end
end Law

-- RDX ral, rmd, rsq, rlu, rdp, rrp, rrt, rtp, rzk, rsp5, Bool.true_or, Bool.false_or, Bool.or_false, Bool.or_true
namespace Law
open PySem PySem.Spec PyProof.Rows L2 Sw
section
variable {P : Program} {w : World} {K : Fg} {mg : Str → Option Value} {base : Heap}
theorem dq_all {K : Fg} {H : Hp} {k n : Nat} : ∀ {xs : List V}, (∀ x ∈ xs, ∃ d, Dq K H x d k n) → ∃ ds : List PyData, xs.length = ds.length ∧ ∀ (i : Nat) (x : V) (d : PyData), xs[i]? = some x → ds[i]? = some d → Dq K H x d k n
  | [], _ => ⟨[], rfl, fun i x d e => by cases e⟩
  | y :: r, h => by
    obtain ⟨ds, hl, hd⟩ := dq_all (xs := r) fun x hx => h x (List.mem_cons_of_mem _ hx)
    obtain ⟨d, h0⟩ := h y (by simp)
    refine ⟨d :: ds, by rw [List.length_cons, List.length_cons, hl], fun i x e hx he => ?_⟩
    cases i with
    | zero =>
      cases hx
      cases he
      exact h0
    | succ i => exact hd i x e hx he
theorem dq_snoc {K : Fg} {H : Hp} {k n : Nat} {xs : List V} {ds : List PyData} {y : V} {e : PyData} (hl : xs.length = ds.length) (h : ∀ (i : Nat) (x : V) (d : PyData), xs[i]? = some x → ds[i]? = some d → Dq K H x d k n) (hy : Dq K H y e k n) :
    ∀ (i : Nat) (x : V) (d : PyData), (xs ++ [y])[i]? = some x → (ds ++ [e])[i]? = some d → Dq K H x d k n := fun i x d hx hd => by
  by_cases c : i < xs.length
  · rw [List.getElem?_append_left c] at hx
    rw [List.getElem?_append_left (by omega)] at hd
    exact h i x d hx hd
  · have c2 : i = xs.length := by
      have := (List.getElem?_eq_some_iff.mp hx).1
      rw [List.length_append, List.length_singleton] at this
      omega
    subst c2
    rw [List.getElem?_concat_length] at hx
    rw [hl, List.getElem?_concat_length] at hd
    cases hx
    cases hd
    exact hy
theorem ok__law_very (T : Tx K mg w)   : CalW P w K mg base 1 "_law_very" ["found", "thing"] (sp__law_very K) := by
  refine calW_mk T.F__law_very T.g__law_very sc__law_very (len2 _) (fun _ _ _ _ _ _ us hl => match us, hl with | [_, _], _ => rfl) (fun cdv A outer s H vs Q E hr h => ?_)
  obtain ⟨v0, v1, rfl, h⟩ := h
  refine ⟨_, (pss_cons (ps_if (PW.pt (pw_or (pt_cmpR op_ne (pe_callB (call_repr (K := K) rfl T.sm hr.gd hr.units) (by rfl) T.n_repr (by decide +kernel) (pa_cons (pv 0) pa_nil)) (pe_callB (call_repr (K := K) rfl T.sm hr.gd hr.units) (by rfl) T.n_repr (by decide +kernel) (pa_cons (pv 1) pa_nil)) (nomark _)) (pw_or1 (pt_not (pt_val (pe_callB is_q (by rfl) T.n_isinstance (by decide +kernel) (pa_cons (pv 1) (pa_cons (pe_bltn (v := .ty "list") (by rfl) T.n_list (by decide +kernel) rfl) pa_nil)))))))) (pss_one (ps_ret (pe_cmpR op_eq (pe_callB (call_repr (K := K) rfl T.sm hr.gd hr.units) (by rfl) T.n_repr (by decide +kernel) (pa_cons (pv 0) pa_nil)) (pe_callB (call_repr (K := K) rfl T.sm hr.gd hr.units) (by rfl) T.n_repr (by decide +kernel) (pa_cons (pv 1) pa_nil)) (nomark _)))) pss_nil)
      (pss_cons (ps_expr (pe_ml PySem.F.slot_list_append PySem.F.type_list_append mt_append (pv 1) (pa_cons pe_str pa_nil)))
      (pss_cons (ps_set (i := 2) sc__law_very.nd rfl (Or.inl rfl) (pe_cmpR op_eq (pe_callB (call_repr (K := K) rfl T.sm hr.gd hr.units) (by rfl) T.n_repr (by decide +kernel) (pa_cons (pv 0) pa_nil)) (pe_callB (call_repr (K := K) rfl T.sm hr.gd hr.units) (by rfl) T.n_repr (by decide +kernel) (pa_cons (pv 1) pa_nil)) (nomark _)))
      (pss_cons (ps_expr (pe_ml0 PySem.F.slot_list_pop PySem.F.type_list_pop mt_pop (pv 1)))
      (pss_one (ps_ret (pv 2))))))), ?_⟩
  obtain ⟨rfl, v, q⟩ := h
  simp only [and_assoc, rst, rs, re, ra, rq, rx, ro, rl, rl2, rsp, rz, rix, rln, rg, rd, ri, rv, rk, rdd, rwi, at0, at1, at2, at3, upd_at, List.getElem?_cons_zero, List.getElem?_cons_succ, Option.some.injEq, exists_eq_left', exists_eq_left, List.set_cons_zero, List.set_cons_succ, true_and, and_true, HO.lst.injEq, HO.tup.injEq, exists_and_left, exists_eq, exists_eq', Br.t, Br.f, Be.t, Be.f, List.cons.injEq, List.append_nil, scal, if_true, if_false, ite_true, ite_false, eq_self_iff_true, decide_true, decide_false, Bool.not_true, Bool.not_false, reduceIte, List.nil_append, List.cons_append, reduceCtorEq, false_and, exists_false, false_or, or_false, Int.reduceLT, ral, rmd, rsq, rlu, rdp, rrp, rrt, rtp, rzk, rsp5, Bool.true_or, Bool.false_or, Bool.or_false, Bool.or_true]
  rcases v with ⟨hb, d, n, hd, hn⟩ | ⟨p, xs, rfl, hp, l, hc⟩
  · refine ⟨d, 30, n, hd, by omega, by omega, d, 30, n, hd, by omega, by omega, ?_⟩
    refine Be.n (fun c => absurd rfl c) (fun _ => ?_)
    refine ⟨false, hb, ?_⟩
    simp only [and_assoc, rst, rs, re, ra, rq, rx, ro, rl, rl2, rsp, rz, rix, rln, rg, rd, ri, rv, rk, rdd, rwi, at0, at1, at2, at3, upd_at, List.getElem?_cons_zero, List.getElem?_cons_succ, Option.some.injEq, exists_eq_left', exists_eq_left, List.set_cons_zero, List.set_cons_succ, true_and, and_true, HO.lst.injEq, HO.tup.injEq, exists_and_left, exists_eq, exists_eq', Br.t, Br.f, Be.t, Be.f, List.cons.injEq, List.append_nil, scal, if_true, if_false, ite_true, ite_false, eq_self_iff_true, decide_true, decide_false, Bool.not_true, Bool.not_false, reduceIte, List.nil_append, List.cons_append, reduceCtorEq, false_and, exists_false, false_or, or_false, Int.reduceLT, ral, rmd, rsq, rlu, rdp, rrp, rrt, rtp, rzk, rsp5, Bool.true_or, Bool.false_or, Bool.or_false, Bool.or_true]
    refine ⟨d, 30, n, hd, by omega, by omega, d, 30, n, hd, by omega, by omega, ?_⟩
    rw [decide_eq_true rfl]
    exact q
  · obtain ⟨ds, hl, hd⟩ := dq_all hc
    have hm : Dq K (wo p H) (.str "more") (.str "more") 29 (2 ^ 14) := .up (.str _ (by decide +kernel)) (by decide +kernel)
    have hd2 := dq_snoc hl hd hm
    have bb := (kindB hp rfl).2.2.2.2.1
    have e1 : Dq K H (.ref p) (.list ds) 30 (ds.length * (2 ^ 14 + 2) + 3) := .lst (SqL.of hp) (by rw [hp]; nofun) hl fun i x d hx he => (hd i x d hx he).same wo_same
    have S2 : Same (wo p H) (upd H p (.lst (xs ++ [.str "more"]))) := fun a o e => by
      unfold wo at e
      split at e
      · cases e
      · rename_i n
        rw [upd_ne n]
        exact e
    have e2 : Dq K (upd H p (.lst (xs ++ [.str "more"]))) (.ref p) (.list (ds ++ [.str "more"])) 30 ((ds ++ [PyData.str "more"]).length * (2 ^ 14 + 2) + 3) := .lst (SqL.of upd_same) (by rw [upd_same]; nofun) (by rw [List.length_append, List.length_append, hl]; rfl) fun i x d hx he => (hd2 i x d hx he).same S2
    have b2 : (ds ++ [PyData.str "more"]).length * (2 ^ 14 + 2) + 3 ≤ 2 ^ 24 := by rw [List.length_append, List.length_singleton]; omega
    refine ⟨_, 30, _, e1, by omega, by omega, _, 30, _, e1, by omega, by omega, ?_⟩
    refine Be.n (fun c => absurd rfl c) (fun _ => ?_)
    refine ⟨_, bb, ?_⟩
    simp only [and_assoc, rst, rs, re, ra, rq, rx, ro, rl, rl2, rsp, rz, rix, rln, rg, rd, ri, rv, rk, rdd, rwi, at0, at1, at2, at3, upd_at, List.getElem?_cons_zero, List.getElem?_cons_succ, Option.some.injEq, exists_eq_left', exists_eq_left, List.set_cons_zero, List.set_cons_succ, true_and, and_true, HO.lst.injEq, HO.tup.injEq, exists_and_left, exists_eq, exists_eq', Br.t, Br.f, Be.t, Be.f, List.cons.injEq, List.append_nil, scal, if_true, if_false, ite_true, ite_false, eq_self_iff_true, decide_true, decide_false, Bool.not_true, Bool.not_false, reduceIte, List.nil_append, List.cons_append, reduceCtorEq, false_and, exists_false, false_or, or_false, Int.reduceLT, ral, rmd, rsq, rlu, rdp, rrp, rrt, rtp, rzk, rsp5, Bool.true_or, Bool.false_or, Bool.or_false, Bool.or_true]
    refine ⟨_, hp, _, hp, by rw [sizeLine_eq]; omega, _, 30, _, e2, by omega, b2, _, 30, _, e2, by omega, b2, .str "more", ?_, ?_⟩
    · rw [List.length_append, List.length_singleton, Nat.add_sub_cancel, List.getElem?_concat_length]
    · rw [decide_eq_true rfl, List.dropLast_concat]
      have eh : upd (upd H p (.lst (xs ++ [.str "more"]))) p (.lst xs) = H := by
        funext a
        by_cases n : a = p
        · subst n
          rw [upd_same, hp]
        · rw [upd_ne n, upd_ne n]
      rw [eh]
      exact q
end
end Law

-- RDX ral, rmd, rsq, rlu, rdp, rrp, rrt, rtp, rzk, rsp5, Bool.true_or, Bool.false_or, Bool.or_false, Bool.or_true
namespace Law
open PySem PySem.Spec PyProof.Rows L2 Sw
section
variable {P : Program} {w : World} {K : Fg} {mg : Str → Option Value} {base : Heap}
def NS (K : Fg) (m : Mc) (H : Hp) (v : V) : Prop := PartR m H v false ∧ Very K H v
theorem bagS {K : Fg} {m : Mc} {H H' : Hp} {L : List V} (b : ∀ v ∈ L, NS K m H v) (s : Same H H') : ∀ v ∈ L, NS K m H' v := fun v h => ⟨(b v h).1.same s, (b v h).2.same s⟩
def Small (K : Fg) (H : Hp) (x : V) : Prop := ∃ d, Dq K H x d 29 (2 ^ 14)
def At (K : Fg) (H : Hp) (x : V) : Prop := TyA H x ∧ Small K H x
theorem at_int {K : Fg} {H : Hp} {z : Int} (h : z.natAbs < 2 ^ 65) : At K H (.int z) := by
  have lg : z.natAbs.log2 < 1920 := by
    by_cases n : z.natAbs = 0
    · rw [n]
      decide
    · exact Nat.lt_trans ((Nat.log2_lt n).mpr h) (by decide)
  exact ⟨⟨_, rfl⟩, _, .up (.int z lg) (by decide)⟩
theorem at_bl {K : Fg} {H : Hp} (b : Bool) : At K H (.bl b) := ⟨⟨_, rfl⟩, _, .up (.bl b) (by decide)⟩
theorem at_non {K : Fg} {H : Hp} : At K H .non := ⟨⟨_, rfl⟩, _, .up .non (by decide)⟩
theorem at_one {K : Fg} {H : Hp} : At K H (.str "1") := ⟨⟨_, rfl⟩, _, .up (.str _ (by decide +kernel)) (by decide +kernel)⟩
theorem sm_tup {K : Fg} {H : Hp} {g : Addr} {xs : List V} (h : H g = some (.tup xs)) (l : xs.length ≤ 8) (c : ∀ x ∈ xs, ∃ d, Dq K H x d 28 1921) : Small K H (.ref g) := by
  obtain ⟨ds, hl, hd⟩ := dq_all c
  exact ⟨_, .up (.tup (SqT.of h) hl hd) (by omega)⟩
theorem sm_lst {K : Fg} {H : Hp} {g : Addr} {xs : List V} (h : H g = some (.lst xs)) (l : xs.length ≤ 8) (c : ∀ x ∈ xs, ∃ d, Dq K H x d 28 1921) : Small K H (.ref g) := by
  obtain ⟨ds, hl, hd⟩ := dq_all c
  exact ⟨_, .up (.lst (SqL.of h) (by rw [h]; nofun) hl hd) (by omega)⟩
theorem sm_ints {K : Fg} {H : Hp} {cs : List Int} (b : ∀ c ∈ cs, c.natAbs < 2 ^ 65) : ∀ x ∈ cs.map V.int, ∃ d, Dq K H x d 28 1921 := fun x hx => by
  obtain ⟨z, hz, rfl⟩ := List.mem_map.mp hx
  have h := b z hz
  have lg : z.natAbs.log2 < 1920 := by
    by_cases n : z.natAbs = 0
    · rw [n]
      decide
    · exact Nat.lt_trans ((Nat.log2_lt n).mpr h) (by decide)
  exact ⟨_, .int z lg⟩
theorem very_tup {K : Fg} {H : Hp} {g : Addr} {xs : List V} (h : H g = some (.tup xs)) (l : xs.length ≤ 60) (c : ∀ x ∈ xs, Small K H x) : Very K H (.ref g) := by
  obtain ⟨ds, hl, hd⟩ := dq_all c
  exact .inl ⟨(kindB h rfl).2.2.2.2.1, _, _, .tup (SqT.of h) hl hd, by omega⟩
theorem isT_tup {H : Hp} {g : Addr} {xs : List V} (h : H g = some (.lst xs)) : isB H (.ref g) "tuple" = some false := (kindB h rfl).2.2.2.2.2
/-- a tuple of four that is no stretch -/
theorem ns4 {K : Fg} {m : Mc} {H : Hp} {g : Addr} {a b c d : V} {r : Bool} (h : H g = some (.tup [a, b, c, d])) (aa : At K H a) (sb : Small K H b) (hp : PathR m H b r) (ac : At K H c) (ad : At K H d)
    (e : within a 0 (m.seeds - 1) = false ∨ r = false ∨ within c 0 m.len = false ∨ within d 0 (m.len - iOf c) = false) : NS K m H (.ref g) := by
  refine ⟨?_, very_tup h (by simp) fun x hx => ?_⟩
  · have := PartR.four (m := m) h aa.1 ac.1 ad.1 hp
    have z : (within a 0 (m.seeds - 1) && (r && (within c 0 m.len && within d 0 (m.len - iOf c)))) = false := by
      rcases e with e | e | e | e <;> rw [e] <;> simp
    rw [z] at this
    exact this
  · simp only [List.mem_cons, List.not_mem_nil, or_false] at hx
    rcases hx with rfl | rfl | rfl | rfl
    · exact aa.2
    · exact sb
    · exact ac.2
    · exact ad.2
theorem wm1 {h : Int} : within (.int (-1)) 0 h = false := by
  show decide ((0 : Int) ≤ -1 ∧ (-1 : Int) ≤ h) = false
  exact decide_eq_false (by omega)
theorem fd2 {H : Hp} {g : Addr} (h : H g = some (.dK [])) : isB H (.ref g) "tuple" = some false ∧ isB H (.ref g) "list" = some false := by
  have e : tyN H (.ref g) = some "dict" := by rw [tyN, h]; rfl
  have e1 : isB H (.ref g) "tuple" = some false := by simp only [isB, e, Option.bind_some, kitB_all]
  have e2 : isB H (.ref g) "list" = some false := by simp only [isB, e, Option.bind_some, kitB_all]
  exact ⟨e1, e2⟩
theorem rep0 {K : Fg} {H : Hp} {g : Addr} {n : Nat} (h : H g = some (.tup [.int 0])) (l : n ≤ 10) {Qv : VK} (k : ∀ g' H', Same H H' → H' g' = some (.tup (List.replicate (n + 1) (V.int 0))) → Qv (.ref g') H') : rRepP K (.ref g) (.int ((n : Nat) + 1)) H Qv := by
  cases n with
  | zero => exact .inl ⟨g, [.int 0], rfl, rfl, SqT.of h, k g H (fun _ _ e => e) h⟩
  | succ n =>
    refine .inr ⟨g, _, _, rfl, rfl, SqT.of h, by simp, by omega, by omega, by simp, fun p H2 a => k p H2 a.s ?_⟩
    rw [a.e, List.flatten_replicate_singleton]
    congr 3
theorem path_no {m : Mc} {H : Hp} {q : Addr} {cs : List Int} (h : H q = some (.tup (cs.map V.int))) (l : cs.length ≤ 1000) : ∃ r, PathR m H (.ref q) r := ⟨_, .tup h (fun y hy => by
  obtain ⟨z, _, rfl⟩ := List.mem_map.mp hy
  exact ⟨_, rfl⟩) (by rw [List.length_map]; exact l)⟩
theorem ok__law_no_stretch (T : Tx K mg w) (c__law_take : Cal P w K mg base 1 "_law_take" ["box", "many"] (sp__law_take K))  : Cal P w K mg base 2 "_law_no_stretch" ["box", "m", "good"] (sp__law_no_stretch K) := by
  refine cal_mk T.F__law_no_stretch T.g__law_no_stretch sc__law_no_stretch (len3 _) (fun _ _ _ _ _ _ us hl => match us, hl with | [_, _, _], _ => rfl) (fun cdv A outer s H vs Q E hr h => ?_)
  obtain ⟨v0, v1, v2, rfl, h⟩ := h
  have hu := hu_of hr.r
  refine ⟨_, (pss_cons (ps_asg (pv 2) (pg_tupQ rfl (pgs_cons (pg_name (i := 3) sc__law_no_stretch.nd rfl (Or.inl rfl)) (pgs_cons (pg_name (i := 4) sc__law_no_stretch.nd rfl (Or.inl rfl)) (pgs_cons (pg_name (i := 5) sc__law_no_stretch.nd rfl (Or.inl rfl)) (pgs_cons (pg_name (i := 6) sc__law_no_stretch.nd rfl (Or.inl rfl)) pgs_nil)))) (gname_len (gname_len (gname_len (gname_len (fun _ _ _ _ h => gnil_len h)))))))
      (pss_cons (ps_set (i := 7) sc__law_no_stretch.nd rfl (Or.inl rfl) (pe_op op_shlW pe_int (pe_ix ix_q (pv 1) pe_int (fun _ _ => rfl))))
      (pss_cons (ps_set (i := 8) sc__law_no_stretch.nd rfl (Or.inl rfl) (pe_op op_sub (pe_op op_shlW pe_int (pe_ix ix_q (pv 1) pe_int (fun _ _ => rfl))) pe_int))
      (pss_cons (ps_set (i := 9) sc__law_no_stretch.nd rfl (Or.inl rfl) (pe_lstA (pa_cons pe_non (pa_cons pe_int (pa_cons pe_str (pa_cons (pe_lstA (pa_cons (pv 3) (pa_cons (pv 4) (pa_cons (pv 5) (pa_cons (pv 6) pa_nil))))) (pa_cons (pe_tupA (pa_cons (pv 3) (pa_cons (pv 4) (pa_cons (pv 5) pa_nil)))) (pa_cons (pe_tupA (pa_cons (pv 3) (pa_cons (pv 4) (pa_cons (pv 5) (pa_cons (pv 6) (pa_cons pe_int pa_nil)))))) (pa_cons (pe_tupA pa_nil) pa_nil)))))))))
      (pss_cons (ps_set (i := 9) sc__law_no_stretch.nd rfl (Or.inl rfl) (pe_op op_catAl (pv 9) (pe_lstA (pa_cons (pe_tupA (pa_cons (pe_op op_shlW pe_int (pe_ix ix_q (pv 1) pe_int (fun _ _ => rfl))) (pa_cons (pv 4) (pa_cons (pv 5) (pa_cons (pv 6) pa_nil))))) (pa_cons (pe_tupA (pa_cons (pe_un un_neg pe_int) (pa_cons (pv 4) (pa_cons (pv 5) (pa_cons (pv 6) pa_nil))))) (pa_cons (pe_tupA (pa_cons pe_bl (pa_cons (pv 4) (pa_cons (pv 5) (pa_cons (pv 6) pa_nil))))) pa_nil))))))
      (pss_cons (ps_set (i := 9) sc__law_no_stretch.nd rfl (Or.inl rfl) (pe_op op_catAl (pv 9) (pe_lstA (pa_cons (pe_tupA (pa_cons (pv 3) (pa_cons (pe_callTy lst_al (by rfl) T.n_list (by decide +kernel) (pa_cons (pv 4) pa_nil)) (pa_cons (pv 5) (pa_cons (pv 6) pa_nil))))) (pa_cons (pe_tupA (pa_cons (pv 3) (pa_cons (pe_op op_catP (pv 4) (pe_tupA (pa_cons (pv 8) pa_nil))) (pa_cons (pv 5) (pa_cons (pv 6) pa_nil))))) (pa_cons (pe_tupA (pa_cons (pv 3) (pa_cons pe_non (pa_cons (pv 5) (pa_cons (pv 6) pa_nil))))) pa_nil))))))
      (pss_cons (ps_set (i := 9) sc__law_no_stretch.nd rfl (Or.inl rfl) (pe_op op_catAl (pv 9) (pe_lstA (pa_cons (pe_tupA (pa_cons (pv 3) (pa_cons (pe_op op_repP (pe_tupA (pa_cons pe_int pa_nil)) (pe_op op_add (pe_ix ix_q (pv 1) pe_int (fun _ _ => rfl)) pe_int)) (pa_cons (pv 5) (pa_cons (pv 6) pa_nil))))) (pa_cons (pe_tupA (pa_cons (pv 3) (pa_cons (pv 4) (pa_cons (pe_op op_add (pv 7) pe_int) (pa_cons pe_int pa_nil))))) (pa_cons (pe_tupA (pa_cons (pv 3) (pa_cons (pv 4) (pa_cons (pe_un un_neg pe_int) (pa_cons (pv 6) pa_nil))))) pa_nil))))))
      (pss_cons (ps_set (i := 9) sc__law_no_stretch.nd rfl (Or.inl rfl) (pe_op op_catAl (pv 9) (pe_lstA (pa_cons (pe_tupA (pa_cons (pv 3) (pa_cons (pv 4) (pa_cons (pv 5) (pa_cons (pe_op op_add (pe_op op_sub (pv 7) (pv 5)) pe_int) pa_nil))))) (pa_cons (pe_tupA (pa_cons (pv 3) (pa_cons (pv 4) (pa_cons (pv 5) (pa_cons (pe_un un_neg pe_int) pa_nil))))) (pa_cons (pe_tupA (pa_cons (pv 3) (pa_cons (pv 4) (pa_cons pe_bl (pa_cons (pv 6) pa_nil))))) pa_nil))))))
      (pss_cons (ps_set (i := 9) sc__law_no_stretch.nd rfl (Or.inl rfl) (pe_op op_catAl (pv 9) (pe_lstA (pa_cons (pe_tupA (pa_cons (pv 3) (pa_cons (pv 4) (pa_cons (pv 5) (pa_cons pe_bl pa_nil))))) (pa_cons (pe_tupA (pa_cons (pv 3) (pa_cons (pv 4) (pa_cons pe_non (pa_cons (pv 6) pa_nil))))) (pa_cons (pe_tupA (pa_cons (pv 3) (pa_cons (pv 4) (pa_cons (pv 5) (pa_cons pe_str pa_nil))))) (pa_cons pe_dnewA pa_nil)))))))
      (pss_cons (ps_set (i := 9) sc__law_no_stretch.nd rfl (Or.inl rfl) (pe_op op_catAl (pv 9) (pe_lstA (pa_cons (pe_tupA (pa_cons pe_non (pa_cons (pv 4) (pa_cons (pv 5) (pa_cons (pv 6) pa_nil))))) (pa_cons (pe_tupA (pa_cons (pv 3) (pa_cons (pe_tupA (pa_cons pe_non pa_nil)) (pa_cons (pv 5) (pa_cons (pv 6) pa_nil))))) (pa_cons (pe_tupA (pa_cons (pv 3) (pa_cons (pv 4) (pa_cons (pv 5) (pa_cons pe_non pa_nil))))) pa_nil))))))
      (pss_one (ps_ret (pe_ix ix_q (pv 9) (pe_cal c__law_take hr (by decide) passL rfl (pa_cons (pv 0) (pa_cons pe_int pa_nil))) (fun _ _ => rfl)))))))))))))), ?_⟩
  obtain ⟨p, m, ss, s, rfl, hw, hm, tm, ts, so, sm, k⟩ := h
  obtain ⟨ta, tb, rfl, hta, htb⟩ := id ts
  obtain ⟨tp, tq, xs, rfl, h3, h4, _⟩ := id tm
  refine seqI fun rr hr => ?_
  simp only [and_assoc, rst, rs, re, ra, rq, rx, ro, rl, rl2, rsp, rz, rix, rln, rg, rd, ri, rv, rk, rdd, rwi, at0, at1, at2, at3, upd_at, List.getElem?_cons_zero, List.getElem?_cons_succ, Option.some.injEq, exists_eq_left', exists_eq_left, List.set_cons_zero, List.set_cons_succ, true_and, and_true, HO.lst.injEq, HO.tup.injEq, exists_and_left, exists_eq, exists_eq', Br.t, Br.f, Be.t, Be.f, List.cons.injEq, List.append_nil, scal, if_true, if_false, ite_true, ite_false, eq_self_iff_true, decide_true, decide_false, Bool.not_true, Bool.not_false, reduceIte, List.nil_append, List.cons_append, reduceCtorEq, false_and, exists_false, false_or, or_false, Int.reduceLT, ral, rmd, rsq, rlu, rdp, rrp, rrt, rtp, rzk, rsp5, Bool.true_or, Bool.false_or, Bool.or_false, Bool.or_true]
  refine ⟨_, wo_same _ _ hta, rfl, _, rfl, _, _, rfl, _, _, rfl, _, _, rfl, _, _, rfl, rfl, ?_⟩
  have hl := hm.2.2.2.2.2.1
  have lb : m.len ≤ 2 ^ 16 := by
    have : ∀ k : Nat, k ≤ 16 → (2 : Int) ^ k ≤ 2 ^ 16 := by decide +kernel
    exact this m.lb hl
  subst hr
  refine seqI fun rr hr => ?_
  simp only [and_assoc, rst, rs, re, ra, rq, rx, ro, rl, rl2, rsp, rz, rix, rln, rg, rd, ri, rv, rk, rdd, rwi, at0, at1, at2, at3, upd_at, List.getElem?_cons_zero, List.getElem?_cons_succ, Option.some.injEq, exists_eq_left', exists_eq_left, List.set_cons_zero, List.set_cons_succ, true_and, and_true, HO.lst.injEq, HO.tup.injEq, exists_and_left, exists_eq, exists_eq', Br.t, Br.f, Be.t, Be.f, List.cons.injEq, List.append_nil, scal, if_true, if_false, ite_true, ite_false, eq_self_iff_true, decide_true, decide_false, Bool.not_true, Bool.not_false, reduceIte, List.nil_append, List.cons_append, reduceCtorEq, false_and, exists_false, false_or, or_false, Int.reduceLT, ral, rmd, rsq, rlu, rdp, rrp, rrt, rtp, rzk, rsp5, Bool.true_or, Bool.false_or, Bool.or_false, Bool.or_true]
  refine ⟨_, wo_same _ _ h3, _, rfl, _, rfl, ?_⟩
  refine ⟨_, rfl, shl1 (by omega), ?_⟩
  rw [one_shl, show (2 : Int) ^ m.lb = m.len from rfl]
  subst hr
  refine seqI fun rr hr => ?_
  simp only [and_assoc, rst, rs, re, ra, rq, rx, ro, rl, rl2, rsp, rz, rix, rln, rg, rd, ri, rv, rk, rdd, rwi, at0, at1, at2, at3, upd_at, List.getElem?_cons_zero, List.getElem?_cons_succ, Option.some.injEq, exists_eq_left', exists_eq_left, List.set_cons_zero, List.set_cons_succ, true_and, and_true, HO.lst.injEq, HO.tup.injEq, exists_and_left, exists_eq, exists_eq', Br.t, Br.f, Be.t, Be.f, List.cons.injEq, List.append_nil, scal, if_true, if_false, ite_true, ite_false, eq_self_iff_true, decide_true, decide_false, Bool.not_true, Bool.not_false, reduceIte, List.nil_append, List.cons_append, reduceCtorEq, false_and, exists_false, false_or, or_false, Int.reduceLT, ral, rmd, rsq, rlu, rdp, rrp, rrt, rtp, rzk, rsp5, Bool.true_or, Bool.false_or, Bool.or_false, Bool.or_true]
  refine ⟨_, wo_same _ _ h3, _, rfl, _, rfl, _, rfl, shl1 (by have := hm.2.2.1; omega), ?_⟩
  rw [one_shl, show (2 : Int) ^ m.pb - 1 = m.parts from rfl]
  have W := Wl.refl hw
  have htp := h3
  have sdb : m.seeds ≤ 2 ^ 32 := by
    have : ∀ k : Nat, k ≤ 32 → (2 : Int) ^ k ≤ 2 ^ 32 := by decide +kernel
    exact this m.sb hm.1
  have pab : m.parts ≤ 31 ∧ 1 ≤ m.parts := by
    have : ∀ k : Nat, k ≤ 5 → 1 ≤ k → (2 : Int) ^ k - 1 ≤ 31 ∧ 1 ≤ (2 : Int) ^ k - 1 := by decide +kernel
    exact this m.pb hm.2.2.1 hm.2.1
  obtain ⟨⟨sd0, sd1⟩, pl, pc, ⟨sp0, sp1⟩, sn0, sn1⟩ := id so
  have dp6 := hm.2.2.2.1
  have PB : ∀ {H' : Hp}, H' tb = some (.tup (s.path.map V.int)) → Small K H' (.ref tb) ∧ ∃ r, PathR m H' (.ref tb) r := fun h => ⟨sm_tup h (by rw [List.length_map]; omega) (sm_ints fun c hc => by have := pc c hc; omega), path_no h (by omega)⟩
  have as : ∀ {H' : Hp}, At K H' (.int s.seed) := at_int (by omega)
  have ap : ∀ {H' : Hp}, At K H' (.int s.place) := at_int (by omega)
  have an : ∀ {H' : Hp}, At K H' (.int s.many) := at_int (by omega)
  subst hr
  refine seqI fun rr hr => ?_
  simp only [and_assoc, rst, rs, re, ra, rq, rx, ro, rl, rl2, rsp, rz, rix, rln, rg, rd, ri, rv, rk, rdd, rwi, at0, at1, at2, at3, upd_at, List.getElem?_cons_zero, List.getElem?_cons_succ, Option.some.injEq, exists_eq_left', exists_eq_left, List.set_cons_zero, List.set_cons_succ, true_and, and_true, HO.lst.injEq, HO.tup.injEq, exists_and_left, exists_eq, exists_eq', Br.t, Br.f, Be.t, Be.f, List.cons.injEq, List.append_nil, scal, if_true, if_false, ite_true, ite_false, eq_self_iff_true, decide_true, decide_false, Bool.not_true, Bool.not_false, reduceIte, List.nil_append, List.cons_append, reduceCtorEq, false_and, exists_false, false_or, or_false, Int.reduceLT, ral, rmd, rsq, rlu, rdp, rrp, rrt, rtp, rzk, rsp5, Bool.true_or, Bool.false_or, Bool.or_false, Bool.or_true]
  intro g1 H1 a
  obtain ⟨_, w, h1⟩ := alW W.1 a
  replace htb := w.2 _ _ htb
  replace htp := w.2 _ _ htp
  replace W := Wl.trans W w
  clear a w
  intro g2 H2 a
  obtain ⟨_, w, h2⟩ := alW W.1 a
  replace htb := w.2 _ _ htb
  replace htp := w.2 _ _ htp
  replace h1 := w.2 _ _ h1
  replace W := Wl.trans W w
  clear a w
  intro g3 H3 a
  obtain ⟨_, w, h3⟩ := alW W.1 a
  replace htb := w.2 _ _ htb
  replace htp := w.2 _ _ htp
  replace h1 := w.2 _ _ h1
  replace h2 := w.2 _ _ h2
  replace W := Wl.trans W w
  clear a w
  intro g4 H4 a
  obtain ⟨_, w, h4⟩ := alW W.1 a
  replace htb := w.2 _ _ htb
  replace htp := w.2 _ _ htp
  replace h1 := w.2 _ _ h1
  replace h2 := w.2 _ _ h2
  replace h3 := w.2 _ _ h3
  replace W := Wl.trans W w
  clear a w
  intro g5 H5 a
  obtain ⟨_, w, h5⟩ := alW W.1 a
  replace htb := w.2 _ _ htb
  replace htp := w.2 _ _ htp
  replace h1 := w.2 _ _ h1
  replace h2 := w.2 _ _ h2
  replace h3 := w.2 _ _ h3
  replace h4 := w.2 _ _ h4
  replace W := Wl.trans W w
  clear a w
  obtain ⟨L, lenL, bag, hL⟩ : ∃ L : List V, L.length = 7 ∧ (∀ v ∈ L, NS K m (wo p H5) v) ∧ wo p H5 g5 = some (.lst L) := by
    obtain ⟨sb, rb, pb⟩ := PB htb
    refine ⟨_, ?_, fun v hv => ?_, h5⟩
    · simp
    · simp only [List.mem_cons, List.not_mem_nil, or_false] at hv
      rcases hv with rfl | rfl | rfl | rfl | rfl | rfl | rfl
      · exact ⟨.no (kn _).2.2.2.2.1, .inl ⟨(kn _).2.2.2.1, _, _, .non, by decide⟩⟩
      · exact ⟨.no (ki _ _).2.2.2.2.1, .inl ⟨(ki _ _).2.2.2.1, _, _, .int _ (by decide), by decide⟩⟩
      · exact ⟨.no (ks _ _).2.2.2.2.1, .inl ⟨(ks _ _).2.2.2.1, _, _, .str _ (by decide +kernel), by decide +kernel⟩⟩
      · refine ⟨.no (isT_tup h1), .inr ⟨_, _, rfl, h1, by simp, fun y hy => ?_⟩⟩
        have tb1 : tb ≠ g1 := fun e => by rw [e, h1] at htb; cases htb
        simp only [List.mem_cons, List.not_mem_nil, or_false] at hy
        rcases hy with rfl | rfl | rfl | rfl
        · exact as.2
        · exact (PB (by rw [wo_at tb1]; exact htb)).1
        · exact ap.2
        · exact an.2
      · refine ⟨.len h2 (by simp), very_tup h2 (by simp) fun y hy => ?_⟩
        simp only [List.mem_cons, List.not_mem_nil, or_false] at hy
        rcases hy with rfl | rfl | rfl
        · exact as.2
        · exact sb
        · exact ap.2
      · refine ⟨.len h3 (by simp), very_tup h3 (by simp) fun y hy => ?_⟩
        simp only [List.mem_cons, List.not_mem_nil, or_false] at hy
        rcases hy with rfl | rfl | rfl | rfl | rfl
        · exact as.2
        · exact sb
        · exact ap.2
        · exact an.2
        · exact (at_int (by decide)).2
      · exact ⟨.len h4 (by simp), very_tup h4 (by simp) fun y hy => by cases hy⟩
  clear h1 h2 h3 h4 h5
  subst hr
  refine seqI fun rr hr => ?_
  simp only [and_assoc, rst, rs, re, ra, rq, rx, ro, rl, rl2, rsp, rz, rix, rln, rg, rd, ri, rv, rk, rdd, rwi, at0, at1, at2, at3, upd_at, List.getElem?_cons_zero, List.getElem?_cons_succ, Option.some.injEq, exists_eq_left', exists_eq_left, List.set_cons_zero, List.set_cons_succ, true_and, and_true, HO.lst.injEq, HO.tup.injEq, exists_and_left, exists_eq, exists_eq', Br.t, Br.f, Be.t, Be.f, List.cons.injEq, List.append_nil, scal, if_true, if_false, ite_true, ite_false, eq_self_iff_true, decide_true, decide_false, Bool.not_true, Bool.not_false, reduceIte, List.nil_append, List.cons_append, reduceCtorEq, false_and, exists_false, false_or, or_false, Int.reduceLT, ral, rmd, rsq, rlu, rdp, rrp, rrt, rtp, rzk, rsp5, Bool.true_or, Bool.false_or, Bool.or_false, Bool.or_true]
  refine ⟨_, wo_same _ _ htp, _, rfl, _, rfl, _, rfl, shl1 (by have := hm.1; omega), ?_⟩
  rw [one_shl, show (2 : Int) ^ m.sb = m.seeds from rfl]
  intro g6 H6 a
  obtain ⟨_, w, h6⟩ := alW W.1 a
  replace htb := w.2 _ _ htb
  replace htp := w.2 _ _ htp
  replace hL := w.2 _ _ hL
  replace bag := bagS bag w.2
  replace W := Wl.trans W w
  clear a w
  intro g7 H7 a
  obtain ⟨_, w, h7⟩ := alW W.1 a
  replace htb := w.2 _ _ htb
  replace htp := w.2 _ _ htp
  replace hL := w.2 _ _ hL
  replace h6 := w.2 _ _ h6
  replace bag := bagS bag w.2
  replace W := Wl.trans W w
  clear a w
  intro g8 H8 a
  obtain ⟨_, w, h8⟩ := alW W.1 a
  replace htb := w.2 _ _ htb
  replace htp := w.2 _ _ htp
  replace hL := w.2 _ _ hL
  replace h6 := w.2 _ _ h6
  replace h7 := w.2 _ _ h7
  replace bag := bagS bag w.2
  replace W := Wl.trans W w
  clear a w
  intro g9 H9 a
  obtain ⟨_, w, h9⟩ := alW W.1 a
  replace htb := w.2 _ _ htb
  replace htp := w.2 _ _ htp
  replace hL := w.2 _ _ hL
  replace h6 := w.2 _ _ h6
  replace h7 := w.2 _ _ h7
  replace h8 := w.2 _ _ h8
  replace bag := bagS bag w.2
  replace W := Wl.trans W w
  clear a w
  refine ⟨_, wo_same _ _ hL, _, wo_same _ _ h9, by rw [lenL, sizeLine_eq]; simp, ?_⟩
  intro g10 H10 a
  obtain ⟨_, w, h10⟩ := alW W.1 a
  replace htb := w.2 _ _ htb
  replace htp := w.2 _ _ htp
  replace hL := w.2 _ _ hL
  replace h6 := w.2 _ _ h6
  replace h7 := w.2 _ _ h7
  replace h8 := w.2 _ _ h8
  replace h9 := w.2 _ _ h9
  replace bag := bagS bag w.2
  replace W := Wl.trans W w
  clear a w
  obtain ⟨L, lenL, bag, hL⟩ : ∃ L : List V, L.length = 10 ∧ (∀ v ∈ L, NS K m (wo p H10) v) ∧ wo p H10 g10 = some (.lst L) := by
    obtain ⟨sb, rb, pb⟩ := PB htb
    refine ⟨_, ?_, fun v hv => ?_, h10⟩
    · simp [lenL]
    · rcases List.mem_append.mp hv with hv | hv
      · exact bag v hv
      · simp only [List.mem_cons, List.not_mem_nil, or_false] at hv
        rcases hv with rfl | rfl | rfl
        · exact ns4 h6 (at_int (by omega)) sb pb ap an (.inl (decide_eq_false (by omega)))
        · exact ns4 h7 (at_int (by decide)) sb pb ap an (.inl wm1)
        · exact ns4 h8 (at_bl true) sb pb ap an (.inl rfl)
  clear h6 h7 h8 h9 h10
  subst hr
  refine seqI fun rr hr => ?_
  simp only [and_assoc, rst, rs, re, ra, rq, rx, ro, rl, rl2, rsp, rz, rix, rln, rg, rd, ri, rv, rk, rdd, rwi, at0, at1, at2, at3, upd_at, List.getElem?_cons_zero, List.getElem?_cons_succ, Option.some.injEq, exists_eq_left', exists_eq_left, List.set_cons_zero, List.set_cons_succ, true_and, and_true, HO.lst.injEq, HO.tup.injEq, exists_and_left, exists_eq, exists_eq', Br.t, Br.f, Be.t, Be.f, List.cons.injEq, List.append_nil, scal, if_true, if_false, ite_true, ite_false, eq_self_iff_true, decide_true, decide_false, Bool.not_true, Bool.not_false, reduceIte, List.nil_append, List.cons_append, reduceCtorEq, false_and, exists_false, false_or, or_false, Int.reduceLT, ral, rmd, rsq, rlu, rdp, rrp, rrt, rtp, rzk, rsp5, Bool.true_or, Bool.false_or, Bool.or_false, Bool.or_true]
  refine ⟨_, wo_same _ _ htb, _, rfl, ?_⟩
  intro g11 H11 a
  obtain ⟨_, w, h11⟩ := alW W.1 a
  replace htb := w.2 _ _ htb
  replace htp := w.2 _ _ htp
  replace hL := w.2 _ _ hL
  replace bag := bagS bag w.2
  replace W := Wl.trans W w
  clear a w
  intro g12 H12 a
  obtain ⟨_, w, h12⟩ := alW W.1 a
  replace htb := w.2 _ _ htb
  replace htp := w.2 _ _ htp
  replace hL := w.2 _ _ hL
  replace h11 := w.2 _ _ h11
  replace bag := bagS bag w.2
  replace W := Wl.trans W w
  clear a w
  intro g13 H13 a
  obtain ⟨_, w, h13⟩ := alW W.1 a
  replace htb := w.2 _ _ htb
  replace htp := w.2 _ _ htp
  replace hL := w.2 _ _ hL
  replace h11 := w.2 _ _ h11
  replace h12 := w.2 _ _ h12
  replace bag := bagS bag w.2
  replace W := Wl.trans W w
  clear a w
  refine ⟨_, wo_same _ _ htb, _, wo_same _ _ h13, by rw [List.length_map, sizeLine_eq]; simp; omega, fun g14 H14 s2 hg => ?_⟩
  have w := Wl.of_same W.1 s2
  have h14 := wo_t w.1 hg
  replace htb := w.2 _ _ htb
  replace htp := w.2 _ _ htp
  replace hL := w.2 _ _ hL
  replace h11 := w.2 _ _ h11
  replace h12 := w.2 _ _ h12
  replace h13 := w.2 _ _ h13
  replace bag := bagS bag w.2
  replace W := Wl.trans W w
  clear hg s2 w
  intro g15 H15 a
  obtain ⟨_, w, h15⟩ := alW W.1 a
  replace htb := w.2 _ _ htb
  replace htp := w.2 _ _ htp
  replace hL := w.2 _ _ hL
  replace h11 := w.2 _ _ h11
  replace h12 := w.2 _ _ h12
  replace h13 := w.2 _ _ h13
  replace h14 := w.2 _ _ h14
  replace bag := bagS bag w.2
  replace W := Wl.trans W w
  clear a w
  intro g16 H16 a
  obtain ⟨_, w, h16⟩ := alW W.1 a
  replace htb := w.2 _ _ htb
  replace htp := w.2 _ _ htp
  replace hL := w.2 _ _ hL
  replace h11 := w.2 _ _ h11
  replace h12 := w.2 _ _ h12
  replace h13 := w.2 _ _ h13
  replace h14 := w.2 _ _ h14
  replace h15 := w.2 _ _ h15
  replace bag := bagS bag w.2
  replace W := Wl.trans W w
  clear a w
  intro g17 H17 a
  obtain ⟨_, w, h17⟩ := alW W.1 a
  replace htb := w.2 _ _ htb
  replace htp := w.2 _ _ htp
  replace hL := w.2 _ _ hL
  replace h11 := w.2 _ _ h11
  replace h12 := w.2 _ _ h12
  replace h13 := w.2 _ _ h13
  replace h14 := w.2 _ _ h14
  replace h15 := w.2 _ _ h15
  replace h16 := w.2 _ _ h16
  replace bag := bagS bag w.2
  replace W := Wl.trans W w
  clear a w
  refine ⟨_, wo_same _ _ hL, _, wo_same _ _ h17, by rw [lenL, sizeLine_eq]; simp, ?_⟩
  intro g18 H18 a
  obtain ⟨_, w, h18⟩ := alW W.1 a
  replace htb := w.2 _ _ htb
  replace htp := w.2 _ _ htp
  replace hL := w.2 _ _ hL
  replace h11 := w.2 _ _ h11
  replace h12 := w.2 _ _ h12
  replace h13 := w.2 _ _ h13
  replace h14 := w.2 _ _ h14
  replace h15 := w.2 _ _ h15
  replace h16 := w.2 _ _ h16
  replace h17 := w.2 _ _ h17
  replace bag := bagS bag w.2
  replace W := Wl.trans W w
  clear a w
  obtain ⟨L, lenL, bag, hL⟩ : ∃ L : List V, L.length = 13 ∧ (∀ v ∈ L, NS K m (wo p H18) v) ∧ wo p H18 g18 = some (.lst L) := by
    obtain ⟨sb, rb, pb⟩ := PB htb
    refine ⟨_, ?_, fun v hv => ?_, h18⟩
    · simp [lenL]
    · rcases List.mem_append.mp hv with hv | hv
      · exact bag v hv
      · simp only [List.mem_cons, List.not_mem_nil, or_false] at hv
        rcases hv with rfl | rfl | rfl
        · exact ns4 h12 as (sm_lst h11 (by rw [List.length_map]; omega) (sm_ints fun c hc => by have := pc c hc; omega)) (.no (isT_tup h11)) ap an (.inr (.inl rfl))
        · have h14' : wo p H18 g14 = some (.tup ((s.path ++ [m.parts]).map V.int)) := by rw [List.map_append]; exact h14
          refine ns4 h15 as (sm_tup h14' (by rw [List.length_map, List.length_append, List.length_singleton]; omega) (sm_ints fun c hc => ?_)) (.tup h14' (fun y hy => ?_) (by rw [List.length_map, List.length_append, List.length_singleton]; omega)) ap an (.inr (.inl ?_))
          · rcases List.mem_append.mp hc with h | h
            · have := pc c h
              omega
            · rw [List.mem_singleton.mp h]
              omega
          · obtain ⟨z, _, rfl⟩ := List.mem_map.mp hy
            exact ⟨_, rfl⟩
          · rw [List.map_append, List.all_append, show ([m.parts].map V.int).all (fun y => within y 0 (m.parts - 1)) = false from by simp only [List.map_cons, List.map_nil, List.all_cons, List.all_nil, Bool.and_true]; exact decide_eq_false (by omega), Bool.and_false, Bool.and_false]
        · exact ns4 h16 as at_non.2 (.no (kn _).2.2.2.2.1) ap an (.inr (.inl rfl))
  clear h11 h12 h13 h14 h15 h16 h17 h18
  subst hr
  refine seqI fun rr hr => ?_
  simp only [and_assoc, rst, rs, re, ra, rq, rx, ro, rl, rl2, rsp, rz, rix, rln, rg, rd, ri, rv, rk, rdd, rwi, at0, at1, at2, at3, upd_at, List.getElem?_cons_zero, List.getElem?_cons_succ, Option.some.injEq, exists_eq_left', exists_eq_left, List.set_cons_zero, List.set_cons_succ, true_and, and_true, HO.lst.injEq, HO.tup.injEq, exists_and_left, exists_eq, exists_eq', Br.t, Br.f, Be.t, Be.f, List.cons.injEq, List.append_nil, scal, if_true, if_false, ite_true, ite_false, eq_self_iff_true, decide_true, decide_false, Bool.not_true, Bool.not_false, reduceIte, List.nil_append, List.cons_append, reduceCtorEq, false_and, exists_false, false_or, or_false, Int.reduceLT, ral, rmd, rsq, rlu, rdp, rrp, rrt, rtp, rzk, rsp5, Bool.true_or, Bool.false_or, Bool.or_false, Bool.or_true]
  intro g19 H19 a
  obtain ⟨_, w, h19⟩ := alW W.1 a
  replace htb := w.2 _ _ htb
  replace htp := w.2 _ _ htp
  replace hL := w.2 _ _ hL
  replace bag := bagS bag w.2
  replace W := Wl.trans W w
  clear a w
  refine ⟨_, wo_same _ _ htp, _, rfl, _, rfl, _, rfl, ?_⟩
  refine rep0 (wo_same _ _ h19) (by omega) fun g20 H20 s2 hg => ?_
  have w := Wl.of_same W.1 s2
  have h20 := wo_t w.1 hg
  replace htb := w.2 _ _ htb
  replace htp := w.2 _ _ htp
  replace hL := w.2 _ _ hL
  replace h19 := w.2 _ _ h19
  replace bag := bagS bag w.2
  replace W := Wl.trans W w
  clear hg s2 w
  intro g21 H21 a
  obtain ⟨_, w, h21⟩ := alW W.1 a
  replace htb := w.2 _ _ htb
  replace htp := w.2 _ _ htp
  replace hL := w.2 _ _ hL
  replace h19 := w.2 _ _ h19
  replace h20 := w.2 _ _ h20
  replace bag := bagS bag w.2
  replace W := Wl.trans W w
  clear a w
  intro g22 H22 a
  obtain ⟨_, w, h22⟩ := alW W.1 a
  replace htb := w.2 _ _ htb
  replace htp := w.2 _ _ htp
  replace hL := w.2 _ _ hL
  replace h19 := w.2 _ _ h19
  replace h20 := w.2 _ _ h20
  replace h21 := w.2 _ _ h21
  replace bag := bagS bag w.2
  replace W := Wl.trans W w
  clear a w
  intro g23 H23 a
  obtain ⟨_, w, h23⟩ := alW W.1 a
  replace htb := w.2 _ _ htb
  replace htp := w.2 _ _ htp
  replace hL := w.2 _ _ hL
  replace h19 := w.2 _ _ h19
  replace h20 := w.2 _ _ h20
  replace h21 := w.2 _ _ h21
  replace h22 := w.2 _ _ h22
  replace bag := bagS bag w.2
  replace W := Wl.trans W w
  clear a w
  intro g24 H24 a
  obtain ⟨_, w, h24⟩ := alW W.1 a
  replace htb := w.2 _ _ htb
  replace htp := w.2 _ _ htp
  replace hL := w.2 _ _ hL
  replace h19 := w.2 _ _ h19
  replace h20 := w.2 _ _ h20
  replace h21 := w.2 _ _ h21
  replace h22 := w.2 _ _ h22
  replace h23 := w.2 _ _ h23
  replace bag := bagS bag w.2
  replace W := Wl.trans W w
  clear a w
  refine ⟨_, wo_same _ _ hL, _, wo_same _ _ h24, by rw [lenL, sizeLine_eq]; simp, ?_⟩
  intro g25 H25 a
  obtain ⟨_, w, h25⟩ := alW W.1 a
  replace htb := w.2 _ _ htb
  replace htp := w.2 _ _ htp
  replace hL := w.2 _ _ hL
  replace h19 := w.2 _ _ h19
  replace h20 := w.2 _ _ h20
  replace h21 := w.2 _ _ h21
  replace h22 := w.2 _ _ h22
  replace h23 := w.2 _ _ h23
  replace h24 := w.2 _ _ h24
  replace bag := bagS bag w.2
  replace W := Wl.trans W w
  clear a w
  obtain ⟨L, lenL, bag, hL⟩ : ∃ L : List V, L.length = 16 ∧ (∀ v ∈ L, NS K m (wo p H25) v) ∧ wo p H25 g25 = some (.lst L) := by
    obtain ⟨sb, rb, pb⟩ := PB htb
    refine ⟨_, ?_, fun v hv => ?_, h25⟩
    · simp [lenL]
    · rcases List.mem_append.mp hv with hv | hv
      · exact bag v hv
      · simp only [List.mem_cons, List.not_mem_nil, or_false] at hv
        rcases hv with rfl | rfl | rfl
        · have h20' : wo p H25 g20 = some (.tup ((List.replicate (m.dp + 1) (0 : Int)).map V.int)) := by rw [List.map_replicate]; exact h20
          refine ns4 h21 as (sm_tup h20' (by rw [List.length_map, List.length_replicate]; omega) (sm_ints fun c hc => by rw [List.eq_of_mem_replicate hc]; decide)) (.tup h20' (fun y hy => ?_) (by rw [List.length_map, List.length_replicate]; omega)) ap an (.inr (.inl ?_))
          · obtain ⟨z, _, rfl⟩ := List.mem_map.mp hy
            exact ⟨_, rfl⟩
          · rw [List.length_map, List.length_replicate, decide_eq_false (by omega), Bool.false_and]
        · exact ns4 h22 as sb pb (at_int (by omega)) (at_int (by decide)) (.inr (.inr (.inl (decide_eq_false (by omega)))))
        · exact ns4 h23 as sb pb (at_int (by decide)) an (.inr (.inr (.inl wm1)))
  clear h19 h20 h21 h22 h23 h24 h25
  subst hr
  refine seqI fun rr hr => ?_
  simp only [and_assoc, rst, rs, re, ra, rq, rx, ro, rl, rl2, rsp, rz, rix, rln, rg, rd, ri, rv, rk, rdd, rwi, at0, at1, at2, at3, upd_at, List.getElem?_cons_zero, List.getElem?_cons_succ, Option.some.injEq, exists_eq_left', exists_eq_left, List.set_cons_zero, List.set_cons_succ, true_and, and_true, HO.lst.injEq, HO.tup.injEq, exists_and_left, exists_eq, exists_eq', Br.t, Br.f, Be.t, Be.f, List.cons.injEq, List.append_nil, scal, if_true, if_false, ite_true, ite_false, eq_self_iff_true, decide_true, decide_false, Bool.not_true, Bool.not_false, reduceIte, List.nil_append, List.cons_append, reduceCtorEq, false_and, exists_false, false_or, or_false, Int.reduceLT, ral, rmd, rsq, rlu, rdp, rrp, rrt, rtp, rzk, rsp5, Bool.true_or, Bool.false_or, Bool.or_false, Bool.or_true]
  intro g26 H26 a
  obtain ⟨_, w, h26⟩ := alW W.1 a
  replace htb := w.2 _ _ htb
  replace htp := w.2 _ _ htp
  replace hL := w.2 _ _ hL
  replace bag := bagS bag w.2
  replace W := Wl.trans W w
  clear a w
  intro g27 H27 a
  obtain ⟨_, w, h27⟩ := alW W.1 a
  replace htb := w.2 _ _ htb
  replace htp := w.2 _ _ htp
  replace hL := w.2 _ _ hL
  replace h26 := w.2 _ _ h26
  replace bag := bagS bag w.2
  replace W := Wl.trans W w
  clear a w
  intro g28 H28 a
  obtain ⟨_, w, h28⟩ := alW W.1 a
  replace htb := w.2 _ _ htb
  replace htp := w.2 _ _ htp
  replace hL := w.2 _ _ hL
  replace h26 := w.2 _ _ h26
  replace h27 := w.2 _ _ h27
  replace bag := bagS bag w.2
  replace W := Wl.trans W w
  clear a w
  intro g29 H29 a
  obtain ⟨_, w, h29⟩ := alW W.1 a
  replace htb := w.2 _ _ htb
  replace htp := w.2 _ _ htp
  replace hL := w.2 _ _ hL
  replace h26 := w.2 _ _ h26
  replace h27 := w.2 _ _ h27
  replace h28 := w.2 _ _ h28
  replace bag := bagS bag w.2
  replace W := Wl.trans W w
  clear a w
  refine ⟨_, wo_same _ _ hL, _, wo_same _ _ h29, by rw [lenL, sizeLine_eq]; simp, ?_⟩
  intro g30 H30 a
  obtain ⟨_, w, h30⟩ := alW W.1 a
  replace htb := w.2 _ _ htb
  replace htp := w.2 _ _ htp
  replace hL := w.2 _ _ hL
  replace h26 := w.2 _ _ h26
  replace h27 := w.2 _ _ h27
  replace h28 := w.2 _ _ h28
  replace h29 := w.2 _ _ h29
  replace bag := bagS bag w.2
  replace W := Wl.trans W w
  clear a w
  obtain ⟨L, lenL, bag, hL⟩ : ∃ L : List V, L.length = 19 ∧ (∀ v ∈ L, NS K m (wo p H30) v) ∧ wo p H30 g30 = some (.lst L) := by
    obtain ⟨sb, rb, pb⟩ := PB htb
    refine ⟨_, ?_, fun v hv => ?_, h30⟩
    · simp [lenL]
    · rcases List.mem_append.mp hv with hv | hv
      · exact bag v hv
      · simp only [List.mem_cons, List.not_mem_nil, or_false] at hv
        rcases hv with rfl | rfl | rfl
        · exact ns4 h26 as sb pb ap (at_int (by omega)) (.inr (.inr (.inr (decide_eq_false (by show ¬ (_ ∧ _ ≤ m.len - s.place); omega)))))
        · exact ns4 h27 as sb pb ap (at_int (by decide)) (.inr (.inr (.inr wm1)))
        · exact ns4 h28 as sb pb (at_bl false) an (.inr (.inr (.inl rfl)))
  clear h26 h27 h28 h29 h30
  subst hr
  refine seqI fun rr hr => ?_
  simp only [and_assoc, rst, rs, re, ra, rq, rx, ro, rl, rl2, rsp, rz, rix, rln, rg, rd, ri, rv, rk, rdd, rwi, at0, at1, at2, at3, upd_at, List.getElem?_cons_zero, List.getElem?_cons_succ, Option.some.injEq, exists_eq_left', exists_eq_left, List.set_cons_zero, List.set_cons_succ, true_and, and_true, HO.lst.injEq, HO.tup.injEq, exists_and_left, exists_eq, exists_eq', Br.t, Br.f, Be.t, Be.f, List.cons.injEq, List.append_nil, scal, if_true, if_false, ite_true, ite_false, eq_self_iff_true, decide_true, decide_false, Bool.not_true, Bool.not_false, reduceIte, List.nil_append, List.cons_append, reduceCtorEq, false_and, exists_false, false_or, or_false, Int.reduceLT, ral, rmd, rsq, rlu, rdp, rrp, rrt, rtp, rzk, rsp5, Bool.true_or, Bool.false_or, Bool.or_false, Bool.or_true]
  intro g31 H31 a
  obtain ⟨_, w, h31⟩ := alW W.1 a
  replace htb := w.2 _ _ htb
  replace htp := w.2 _ _ htp
  replace hL := w.2 _ _ hL
  replace bag := bagS bag w.2
  replace W := Wl.trans W w
  clear a w
  intro g32 H32 a
  obtain ⟨_, w, h32⟩ := alW W.1 a
  replace htb := w.2 _ _ htb
  replace htp := w.2 _ _ htp
  replace hL := w.2 _ _ hL
  replace h31 := w.2 _ _ h31
  replace bag := bagS bag w.2
  replace W := Wl.trans W w
  clear a w
  intro g33 H33 a
  obtain ⟨_, w, h33⟩ := alW W.1 a
  replace htb := w.2 _ _ htb
  replace htp := w.2 _ _ htp
  replace hL := w.2 _ _ hL
  replace h31 := w.2 _ _ h31
  replace h32 := w.2 _ _ h32
  replace bag := bagS bag w.2
  replace W := Wl.trans W w
  clear a w
  intro g34 H34 a
  obtain ⟨_, w, h34⟩ := alW W.1 a
  replace htb := w.2 _ _ htb
  replace htp := w.2 _ _ htp
  replace hL := w.2 _ _ hL
  replace h31 := w.2 _ _ h31
  replace h32 := w.2 _ _ h32
  replace h33 := w.2 _ _ h33
  replace bag := bagS bag w.2
  replace W := Wl.trans W w
  clear a w
  intro g35 H35 a
  obtain ⟨_, w, h35⟩ := alW W.1 a
  replace htb := w.2 _ _ htb
  replace htp := w.2 _ _ htp
  replace hL := w.2 _ _ hL
  replace h31 := w.2 _ _ h31
  replace h32 := w.2 _ _ h32
  replace h33 := w.2 _ _ h33
  replace h34 := w.2 _ _ h34
  replace bag := bagS bag w.2
  replace W := Wl.trans W w
  clear a w
  refine ⟨_, wo_same _ _ hL, _, wo_same _ _ h35, by rw [lenL, sizeLine_eq]; simp, ?_⟩
  intro g36 H36 a
  obtain ⟨_, w, h36⟩ := alW W.1 a
  replace htb := w.2 _ _ htb
  replace htp := w.2 _ _ htp
  replace hL := w.2 _ _ hL
  replace h31 := w.2 _ _ h31
  replace h32 := w.2 _ _ h32
  replace h33 := w.2 _ _ h33
  replace h34 := w.2 _ _ h34
  replace h35 := w.2 _ _ h35
  replace bag := bagS bag w.2
  replace W := Wl.trans W w
  clear a w
  obtain ⟨L, lenL, bag, hL⟩ : ∃ L : List V, L.length = 23 ∧ (∀ v ∈ L, NS K m (wo p H36) v) ∧ wo p H36 g36 = some (.lst L) := by
    obtain ⟨sb, rb, pb⟩ := PB htb
    refine ⟨_, ?_, fun v hv => ?_, h36⟩
    · simp [lenL]
    · rcases List.mem_append.mp hv with hv | hv
      · exact bag v hv
      · simp only [List.mem_cons, List.not_mem_nil, or_false] at hv
        rcases hv with rfl | rfl | rfl | rfl
        · exact ns4 h31 as sb pb ap (at_bl true) (.inr (.inr (.inr rfl)))
        · exact ns4 h32 as sb pb at_non an (.inr (.inr (.inl rfl)))
        · exact ns4 h33 as sb pb ap at_one (.inr (.inr (.inr rfl)))
        · exact ⟨.no (fd2 h34).1, .inl ⟨(fd2 h34).2, _, _, .dic h34, by decide⟩⟩
  clear h31 h32 h33 h34 h35 h36
  subst hr
  refine seqI fun rr hr => ?_
  simp only [and_assoc, rst, rs, re, ra, rq, rx, ro, rl, rl2, rsp, rz, rix, rln, rg, rd, ri, rv, rk, rdd, rwi, at0, at1, at2, at3, upd_at, List.getElem?_cons_zero, List.getElem?_cons_succ, Option.some.injEq, exists_eq_left', exists_eq_left, List.set_cons_zero, List.set_cons_succ, true_and, and_true, HO.lst.injEq, HO.tup.injEq, exists_and_left, exists_eq, exists_eq', Br.t, Br.f, Be.t, Be.f, List.cons.injEq, List.append_nil, scal, if_true, if_false, ite_true, ite_false, eq_self_iff_true, decide_true, decide_false, Bool.not_true, Bool.not_false, reduceIte, List.nil_append, List.cons_append, reduceCtorEq, false_and, exists_false, false_or, or_false, Int.reduceLT, ral, rmd, rsq, rlu, rdp, rrp, rrt, rtp, rzk, rsp5, Bool.true_or, Bool.false_or, Bool.or_false, Bool.or_true]
  intro g37 H37 a
  obtain ⟨_, w, h37⟩ := alW W.1 a
  replace htb := w.2 _ _ htb
  replace htp := w.2 _ _ htp
  replace hL := w.2 _ _ hL
  replace bag := bagS bag w.2
  replace W := Wl.trans W w
  clear a w
  intro g38 H38 a
  obtain ⟨_, w, h38⟩ := alW W.1 a
  replace htb := w.2 _ _ htb
  replace htp := w.2 _ _ htp
  replace hL := w.2 _ _ hL
  replace h37 := w.2 _ _ h37
  replace bag := bagS bag w.2
  replace W := Wl.trans W w
  clear a w
  intro g39 H39 a
  obtain ⟨_, w, h39⟩ := alW W.1 a
  replace htb := w.2 _ _ htb
  replace htp := w.2 _ _ htp
  replace hL := w.2 _ _ hL
  replace h37 := w.2 _ _ h37
  replace h38 := w.2 _ _ h38
  replace bag := bagS bag w.2
  replace W := Wl.trans W w
  clear a w
  intro g40 H40 a
  obtain ⟨_, w, h40⟩ := alW W.1 a
  replace htb := w.2 _ _ htb
  replace htp := w.2 _ _ htp
  replace hL := w.2 _ _ hL
  replace h37 := w.2 _ _ h37
  replace h38 := w.2 _ _ h38
  replace h39 := w.2 _ _ h39
  replace bag := bagS bag w.2
  replace W := Wl.trans W w
  clear a w
  intro g41 H41 a
  obtain ⟨_, w, h41⟩ := alW W.1 a
  replace htb := w.2 _ _ htb
  replace htp := w.2 _ _ htp
  replace hL := w.2 _ _ hL
  replace h37 := w.2 _ _ h37
  replace h38 := w.2 _ _ h38
  replace h39 := w.2 _ _ h39
  replace h40 := w.2 _ _ h40
  replace bag := bagS bag w.2
  replace W := Wl.trans W w
  clear a w
  refine ⟨_, wo_same _ _ hL, _, wo_same _ _ h41, by rw [lenL, sizeLine_eq]; simp, ?_⟩
  intro g42 H42 a
  obtain ⟨_, w, h42⟩ := alW W.1 a
  replace htb := w.2 _ _ htb
  replace htp := w.2 _ _ htp
  replace hL := w.2 _ _ hL
  replace h37 := w.2 _ _ h37
  replace h38 := w.2 _ _ h38
  replace h39 := w.2 _ _ h39
  replace h40 := w.2 _ _ h40
  replace h41 := w.2 _ _ h41
  replace bag := bagS bag w.2
  replace W := Wl.trans W w
  clear a w
  obtain ⟨L, lenL, bag, hL⟩ : ∃ L : List V, L.length = 26 ∧ (∀ v ∈ L, NS K m (wo p H42) v) ∧ wo p H42 g42 = some (.lst L) := by
    obtain ⟨sb, rb, pb⟩ := PB htb
    refine ⟨_, ?_, fun v hv => ?_, h42⟩
    · simp [lenL]
    · rcases List.mem_append.mp hv with hv | hv
      · exact bag v hv
      · simp only [List.mem_cons, List.not_mem_nil, or_false] at hv
        rcases hv with rfl | rfl | rfl
        · exact ns4 h37 at_non sb pb ap an (.inl rfl)
        · refine ns4 h39 as (sm_tup h38 (by simp) fun y hy => ?_) (.tup h38 (fun y hy => ?_) (by simp)) ap an (.inr (.inl ?_))
          · rw [List.mem_singleton.mp hy]
            exact ⟨_, .up .non (by decide)⟩
          · rw [List.mem_singleton.mp hy]
            exact ⟨_, rfl⟩
          · rw [show ([V.non].all fun y => within y 0 (m.parts - 1)) = false from rfl, Bool.and_false]
        · exact ns4 h40 as sb pb ap at_non (.inr (.inr (.inr rfl)))
  clear h37 h38 h39 h40 h41 h42
  subst hr
  simp only [and_assoc, rst, rs, re, ra, rq, rx, ro, rl, rl2, rsp, rz, rix, rln, rg, rd, ri, rv, rk, rdd, rwi, at0, at1, at2, at3, upd_at, List.getElem?_cons_zero, List.getElem?_cons_succ, Option.some.injEq, exists_eq_left', exists_eq_left, List.set_cons_zero, List.set_cons_succ, true_and, and_true, HO.lst.injEq, HO.tup.injEq, exists_and_left, exists_eq, exists_eq', Br.t, Br.f, Be.t, Be.f, List.cons.injEq, List.append_nil, scal, if_true, if_false, ite_true, ite_false, eq_self_iff_true, decide_true, decide_false, Bool.not_true, Bool.not_false, reduceIte, List.nil_append, List.cons_append, reduceCtorEq, false_and, exists_false, false_or, or_false, Int.reduceLT, ral, rmd, rsq, rlu, rdp, rrp, rrt, rtp, rzk, rsp5, Bool.true_or, Bool.false_or, Bool.or_false, Bool.or_true]
  refine ⟨_, _, rfl, p, 26, rfl, W.1, rfl, by decide, by decide, fun c Hn c0 c1 b e => ?_⟩
  have w := Wl.draw b e
  obtain ⟨v, hv, fv⟩ := atI_ex bag c0 (by rw [lenL]; exact c1)
  exact ⟨_, wo_same _ _ (w.2 _ _ hL), _, rfl, c, rfl, v, hv, k v Hn (Wl.trans W w) (fv.1.same w.2) (fv.2.same w.2)⟩
end
end Law

-- RDX ral, rmd, rsq, rlu, rdp, rrp, rrt, rtp, rzk, rsp5, Bool.true_or, Bool.false_or, Bool.or_false, Bool.or_true
namespace Law
open PySem PySem.Spec PyProof.Rows L2 Sw
section
variable {P : Program} {w : World} {K : Fg} {mg : Str → Option Value} {base : Heap}
theorem rz__law_same {H : Hp} {x y : V} {Q : VK} (h : (∃ w d, 1 ≤ 0 ∧ y = .str w ∧ PyData.strOk w = true ∧ TyA H x ∧ Cd K H x d ∧ ∀ H', Same H H' → Q (.bl (PyData.eqv d (.str w))) H') ∨ (∃ n, 1 ≤ 0 ∧ y = .int n ∧ CD K H x ∧ ∀ H', Same H H' → Q (.bl (decide (x = .int n))) H') ∨
  ∃ q w ns r, 2 ≤ 0 ∧ y = .ref q ∧ PyData.strOk w = true ∧ H q = some (.tup (.str w :: ns.map V.int)) ∧ ns.length ≤ 10 ∧ SameR K H x w ns r ∧ ∀ H', Same H H' → Q (.bl r) H') : False := by
  rcases h with ⟨_, _, l, _⟩ | ⟨_, l, _⟩ | ⟨_, _, _, _, l, _⟩ <;> omega
theorem okn__law_same (T : Tx K mg w) (c__law_is_whole : Cal P w K mg base 1 "_law_is_whole" ["thing"] (sp__law_is_whole K)) : ∀ n, Cal P w K mg base (2 + n) "_law_same" ["found", "due"] (spn__law_same K n) := by
  intro n
  induction n with
  | zero =>
    refine cal_mk T.F__law_same T.g__law_same sc__law_same (len2 _) (fun _ _ _ _ _ _ us hl => match us, hl with | [_, _], _ => rfl) (fun cdv A outer s H vs Q E hr h => ?_)
    obtain ⟨v0, v1, rfl, h⟩ := h
    exact (rz__law_same h).elim
  | succ n c__law_same =>
    refine cal_mk T.F__law_same T.g__law_same sc__law_same (len2 _) (fun _ _ _ _ _ _ us hl => match us, hl with | [_, _], _ => rfl) (fun cdv A outer s H vs Q E hr h => ?_)
    obtain ⟨v0, v1, rfl, h⟩ := h
    have hu := hu_of hr.r
    refine ⟨_, (pss_cons (ps_if (pt_val (pe_callB is_2 (by rfl) T.n_isinstance (by decide +kernel) (pa_cons (pv 1) (pa_cons (pe_tup (pa_cons (pe_bltn (v := .ty "tuple") (by rfl) T.n_tuple (by decide +kernel) rfl) (pa_cons (pe_bltn (v := .ty "list") (by rfl) T.n_list (by decide +kernel) rfl) pa_nil))) pa_nil)))) (pss_cons (ps_if (pt_cmpR op_ne (pe_callB is_q (by rfl) T.n_isinstance (by decide +kernel) (pa_cons (pv 1) (pa_cons (pe_bltn (v := .ty "tuple") (by rfl) T.n_tuple (by decide +kernel) rfl) pa_nil))) (pe_callB is_q (by rfl) T.n_isinstance (by decide +kernel) (pa_cons (pv 0) (pa_cons (pe_bltn (v := .ty "tuple") (by rfl) T.n_tuple (by decide +kernel) rfl) pa_nil))) (nomark _)) (pss_one (ps_ret pe_bl)) pss_nil)
      (pss_cons (ps_if (pt_cmpR op_ne (pe_callB is_q (by rfl) T.n_isinstance (by decide +kernel) (pa_cons (pv 1) (pa_cons (pe_bltn (v := .ty "list") (by rfl) T.n_list (by decide +kernel) rfl) pa_nil))) (pe_callB is_q (by rfl) T.n_isinstance (by decide +kernel) (pa_cons (pv 0) (pa_cons (pe_bltn (v := .ty "list") (by rfl) T.n_list (by decide +kernel) rfl) pa_nil))) (nomark _)) (pss_one (ps_ret pe_bl)) pss_nil)
      (pss_cons (ps_if (pt_cmpR op_ne (pe_callB len_q (by rfl) T.n_len (by decide +kernel) (pa_cons (pv 0) pa_nil)) (pe_callB len_q (by rfl) T.n_len (by decide +kernel) (pa_cons (pv 1) pa_nil)) (nomark _)) (pss_one (ps_ret pe_bl)) pss_nil)
      (pss_one (ps_ret (pe_cmpR (op_eqA hr.units) (pe_lc (own := [("k", 2)]) (g := (gName 2)) rfl sc__law_same.nd (pi_range1 (by rfl) T.n_range (pa_cons (pe_callB len_q (by rfl) T.n_len (by decide +kernel) (pa_cons (pv 1) pa_nil)) pa_nil)) (blkOk_by (N := nm__law_same) (sc := defScope s__law_same) (by decide +kernel)) (fun _ _ _ _ _ => (pg_name (i := 2) sc__law_same.nd rfl (Or.inl rfl))) (fun _ _ _ _ _ => (pts_one (pt_not (pt_val (pe_cal c__law_same hr (Nat.le_refl _) passL rfl (pa_cons (pe_ix ix_q (pv 0) (pv 2) (fun _ _ => rfl)) (pa_cons (pe_ix ix_q (pv 1) (pv 2) (fun _ _ => rfl)) pa_nil))))))) (fun _ _ _ _ _ => (pv 2))) (pe_lst pa_nil) (nomark _))))))) pss_nil)
      (pss_cons (ps_if (PW.pt (pw_or (pt_val (pe_callB is_q (by rfl) T.n_isinstance (by decide +kernel) (pa_cons (pv 1) (pa_cons (pe_bltn (v := .ty "str") (by rfl) T.n_str (by decide +kernel) rfl) pa_nil)))) (pw_or1 (pt_cmpR op_isN (pv 1) pe_non (nomark _))))) (pss_one (ps_ret (pe_cmpR (op_eqA hr.units) (pv 0) (pv 1) (nomark _)))) pss_nil)
      (pss_one (ps_ret (pe_and (pe_cal c__law_is_whole hr (Nat.le_trans (by decide : 1 ≤ 2) (Nat.le_add_right _ _)) passL rfl (pa_cons (pv 0) pa_nil)) (pe_one (pe_cmpR (op_eqA hr.units) (pv 0) (pv 1) (nomark _)))))))), ?_⟩
    rcases h with ⟨ww, d, l, rfl, so, ty, cd, q⟩ | ⟨n, l, rfl, cd, q⟩ | ⟨qa, ww, ns, r, l, rfl, so, hq, nl, sr, q⟩
    · simp only [and_assoc, rst, rs, re, ra, rq, rx, ro, rl, rl2, rsp, rz, rix, rln, rg, rd, ri, rv, rk, rdd, rwi, at0, at1, at2, at3, upd_at, List.getElem?_cons_zero, List.getElem?_cons_succ, Option.some.injEq, exists_eq_left', exists_eq_left, List.set_cons_zero, List.set_cons_succ, true_and, and_true, HO.lst.injEq, HO.tup.injEq, exists_and_left, exists_eq, exists_eq', Br.t, Br.f, Be.t, Be.f, List.cons.injEq, List.append_nil, scal, if_true, if_false, ite_true, ite_false, eq_self_iff_true, decide_true, decide_false, Bool.not_true, Bool.not_false, reduceIte, List.nil_append, List.cons_append, reduceCtorEq, false_and, exists_false, false_or, or_false, Int.reduceLT, ral, rmd, rsq, rlu, rdp, rrp, rrt, rtp, rzk, rsp5, Bool.true_or, Bool.false_or, Bool.or_false, Bool.or_true]
      intro pt hpt
      have s0 := Same.new (o := .tup [.ty "tuple", .ty "list"]) hpt
      refine ⟨_, pt, "tuple", "list", _, _, rfl, upd_same, (ks ww _).2.2.2.2.1, (ks ww _).2.2.2.1, ?_⟩
      generalize upd H pt _ = H0 at s0 ⊢
      simp only [and_assoc, rst, rs, re, ra, rq, rx, ro, rl, rl2, rsp, rz, rix, rln, rg, rd, ri, rv, rk, rdd, rwi, at0, at1, at2, at3, upd_at, List.getElem?_cons_zero, List.getElem?_cons_succ, Option.some.injEq, exists_eq_left', exists_eq_left, List.set_cons_zero, List.set_cons_succ, true_and, and_true, HO.lst.injEq, HO.tup.injEq, exists_and_left, exists_eq, exists_eq', Br.t, Br.f, Be.t, Be.f, List.cons.injEq, List.append_nil, scal, if_true, if_false, ite_true, ite_false, eq_self_iff_true, decide_true, decide_false, Bool.not_true, Bool.not_false, reduceIte, List.nil_append, List.cons_append, reduceCtorEq, false_and, exists_false, false_or, or_false, Int.reduceLT, ral, rmd, rsq, rlu, rdp, rrp, rrt, rtp, rzk, rsp5, Bool.true_or, Bool.false_or, Bool.or_false, Bool.or_true]
      refine ⟨_, (ks ww _).2.2.1, ?_⟩
      simp only [and_assoc, rst, rs, re, ra, rq, rx, ro, rl, rl2, rsp, rz, rix, rln, rg, rd, ri, rv, rk, rdd, rwi, at0, at1, at2, at3, upd_at, List.getElem?_cons_zero, List.getElem?_cons_succ, Option.some.injEq, exists_eq_left', exists_eq_left, List.set_cons_zero, List.set_cons_succ, true_and, and_true, HO.lst.injEq, HO.tup.injEq, exists_and_left, exists_eq, exists_eq', Br.t, Br.f, Be.t, Be.f, List.cons.injEq, List.append_nil, scal, if_true, if_false, ite_true, ite_false, eq_self_iff_true, decide_true, decide_false, Bool.not_true, Bool.not_false, reduceIte, List.nil_append, List.cons_append, reduceCtorEq, false_and, exists_false, false_or, or_false, Int.reduceLT, ral, rmd, rsq, rlu, rdp, rrp, rrt, rtp, rzk, rsp5, Bool.true_or, Bool.false_or, Bool.or_false, Bool.or_true]
      exact eq_cd (cd.same s0) (str_cd so) (q _ s0)
    · simp only [and_assoc, rst, rs, re, ra, rq, rx, ro, rl, rl2, rsp, rz, rix, rln, rg, rd, ri, rv, rk, rdd, rwi, at0, at1, at2, at3, upd_at, List.getElem?_cons_zero, List.getElem?_cons_succ, Option.some.injEq, exists_eq_left', exists_eq_left, List.set_cons_zero, List.set_cons_succ, true_and, and_true, HO.lst.injEq, HO.tup.injEq, exists_and_left, exists_eq, exists_eq', Br.t, Br.f, Be.t, Be.f, List.cons.injEq, List.append_nil, scal, if_true, if_false, ite_true, ite_false, eq_self_iff_true, decide_true, decide_false, Bool.not_true, Bool.not_false, reduceIte, List.nil_append, List.cons_append, reduceCtorEq, false_and, exists_false, false_or, or_false, Int.reduceLT, ral, rmd, rsq, rlu, rdp, rrp, rrt, rtp, rzk, rsp5, Bool.true_or, Bool.false_or, Bool.or_false, Bool.or_true]
      intro pt hpt
      have s0 := Same.new (o := .tup [.ty "tuple", .ty "list"]) hpt
      refine ⟨_, pt, "tuple", "list", _, _, rfl, upd_same, (ki n _).2.2.2.2.1, (ki n _).2.2.2.1, ?_⟩
      generalize upd H pt _ = H0 at s0 ⊢
      obtain ⟨ty, d, cd⟩ := cd
      simp only [and_assoc, rst, rs, re, ra, rq, rx, ro, rl, rl2, rsp, rz, rix, rln, rg, rd, ri, rv, rk, rdd, rwi, at0, at1, at2, at3, upd_at, List.getElem?_cons_zero, List.getElem?_cons_succ, Option.some.injEq, exists_eq_left', exists_eq_left, List.set_cons_zero, List.set_cons_succ, true_and, and_true, HO.lst.injEq, HO.tup.injEq, exists_and_left, exists_eq, exists_eq', Br.t, Br.f, Be.t, Be.f, List.cons.injEq, List.append_nil, scal, if_true, if_false, ite_true, ite_false, eq_self_iff_true, decide_true, decide_false, Bool.not_true, Bool.not_false, reduceIte, List.nil_append, List.cons_append, reduceCtorEq, false_and, exists_false, false_or, or_false, Int.reduceLT, ral, rmd, rsq, rlu, rdp, rrp, rrt, rtp, rzk, rsp5, Bool.true_or, Bool.false_or, Bool.or_false, Bool.or_true]
      refine ⟨_, (ki n _).2.2.1, ?_⟩
      simp only [and_assoc, rst, rs, re, ra, rq, rx, ro, rl, rl2, rsp, rz, rix, rln, rg, rd, ri, rv, rk, rdd, rwi, at0, at1, at2, at3, upd_at, List.getElem?_cons_zero, List.getElem?_cons_succ, Option.some.injEq, exists_eq_left', exists_eq_left, List.set_cons_zero, List.set_cons_succ, true_and, and_true, HO.lst.injEq, HO.tup.injEq, exists_and_left, exists_eq, exists_eq', Br.t, Br.f, Be.t, Be.f, List.cons.injEq, List.append_nil, scal, if_true, if_false, ite_true, ite_false, eq_self_iff_true, decide_true, decide_false, Bool.not_true, Bool.not_false, reduceIte, List.nil_append, List.cons_append, reduceCtorEq, false_and, exists_false, false_or, or_false, Int.reduceLT, ral, rmd, rsq, rlu, rdp, rrp, rrt, rtp, rzk, rsp5, Bool.true_or, Bool.false_or, Bool.or_false, Bool.or_true]
      refine ⟨_, rfl, ty.same s0, ?_⟩
      cases v0 with
      | int z =>
        simp only [and_assoc, rst, rs, re, ra, rq, rx, ro, rl, rl2, rsp, rz, rix, rln, rg, rd, ri, rv, rk, rdd, rwi, at0, at1, at2, at3, upd_at, List.getElem?_cons_zero, List.getElem?_cons_succ, Option.some.injEq, exists_eq_left', exists_eq_left, List.set_cons_zero, List.set_cons_succ, true_and, and_true, HO.lst.injEq, HO.tup.injEq, exists_and_left, exists_eq, exists_eq', Br.t, Br.f, Be.t, Be.f, List.cons.injEq, List.append_nil, scal, if_true, if_false, ite_true, ite_false, eq_self_iff_true, decide_true, decide_false, Bool.not_true, Bool.not_false, reduceIte, List.nil_append, List.cons_append, reduceCtorEq, false_and, exists_false, false_or, or_false, Int.reduceLT, ral, rmd, rsq, rlu, rdp, rrp, rrt, rtp, rzk, rsp5, Bool.true_or, Bool.false_or, Bool.or_false, Bool.or_true, show whole (.int z) = true from rfl]
        refine eq_cd (int_cd z) (int_cd n) ?_
        have e : PyData.eqv (.int z) (.int n) = decide (V.int z = V.int n) := by
          rw [show PyData.eqv (.int z) (.int n) = decide (z = n) from rfl]
          congr 1
          exact propext ⟨fun h => by rw [h], fun h => by cases h; rfl⟩
        rw [e]
        exact q _ s0
      | _ =>
        simp only [and_assoc, rst, rs, re, ra, rq, rx, ro, rl, rl2, rsp, rz, rix, rln, rg, rd, ri, rv, rk, rdd, rwi, at0, at1, at2, at3, upd_at, List.getElem?_cons_zero, List.getElem?_cons_succ, Option.some.injEq, exists_eq_left', exists_eq_left, List.set_cons_zero, List.set_cons_succ, true_and, and_true, HO.lst.injEq, HO.tup.injEq, exists_and_left, exists_eq, exists_eq', Br.t, Br.f, Be.t, Be.f, List.cons.injEq, List.append_nil, scal, if_true, if_false, ite_true, ite_false, eq_self_iff_true, decide_true, decide_false, Bool.not_true, Bool.not_false, reduceIte, List.nil_append, List.cons_append, reduceCtorEq, false_and, exists_false, false_or, or_false, Int.reduceLT, ral, rmd, rsq, rlu, rdp, rrp, rrt, rtp, rzk, rsp5, Bool.true_or, Bool.false_or, Bool.or_false, Bool.or_true, whole]
        exact q _ s0
    · simp only [and_assoc, rst, rs, re, ra, rq, rx, ro, rl, rl2, rsp, rz, rix, rln, rg, rd, ri, rv, rk, rdd, rwi, at0, at1, at2, at3, upd_at, List.getElem?_cons_zero, List.getElem?_cons_succ, Option.some.injEq, exists_eq_left', exists_eq_left, List.set_cons_zero, List.set_cons_succ, true_and, and_true, HO.lst.injEq, HO.tup.injEq, exists_and_left, exists_eq, exists_eq', Br.t, Br.f, Be.t, Be.f, List.cons.injEq, List.append_nil, scal, if_true, if_false, ite_true, ite_false, eq_self_iff_true, decide_true, decide_false, Bool.not_true, Bool.not_false, reduceIte, List.nil_append, List.cons_append, reduceCtorEq, false_and, exists_false, false_or, or_false, Int.reduceLT, ral, rmd, rsq, rlu, rdp, rrp, rrt, rtp, rzk, rsp5, Bool.true_or, Bool.false_or, Bool.or_false, Bool.or_true]
      intro pt hpt
      have s0 := Same.new (o := .tup [.ty "tuple", .ty "list"]) hpt
      have kb := kindB (s0 _ _ hq) rfl
      refine ⟨_, pt, "tuple", "list", _, _, rfl, upd_same, kb.2.2.2.2.2, kb.2.2.2.2.1, ?_⟩
      have hq0 := s0 _ _ hq
      generalize upd H pt _ = H0 at s0 kb hq0 ⊢
      simp only [and_assoc, rst, rs, re, ra, rq, rx, ro, rl, rl2, rsp, rz, rix, rln, rg, rd, ri, rv, rk, rdd, rwi, at0, at1, at2, at3, upd_at, List.getElem?_cons_zero, List.getElem?_cons_succ, Option.some.injEq, exists_eq_left', exists_eq_left, List.set_cons_zero, List.set_cons_succ, true_and, and_true, HO.lst.injEq, HO.tup.injEq, exists_and_left, exists_eq, exists_eq', Br.t, Br.f, Be.t, Be.f, List.cons.injEq, List.append_nil, scal, if_true, if_false, ite_true, ite_false, eq_self_iff_true, decide_true, decide_false, Bool.not_true, Bool.not_false, reduceIte, List.nil_append, List.cons_append, reduceCtorEq, false_and, exists_false, false_or, or_false, Int.reduceLT, ral, rmd, rsq, rlu, rdp, rrp, rrt, rtp, rzk, rsp5, Bool.true_or, Bool.false_or, Bool.or_false, Bool.or_true]
      refine ⟨_, kb.2.2.2.2.2, ?_⟩
      cases sr with
      | no h1 h2 =>
        refine ⟨_, isB_same s0 h1, ?_⟩
        refine Br.n (fun _ => ?_) (fun c => absurd c (by rw [show isT (HO.tup (V.str ww :: List.map V.int ns)) = true from rfl]; decide))
        simp only [and_assoc, rst, rs, re, ra, rq, rx, ro, rl, rl2, rsp, rz, rix, rln, rg, rd, ri, rv, rk, rdd, rwi, at0, at1, at2, at3, upd_at, List.getElem?_cons_zero, List.getElem?_cons_succ, Option.some.injEq, exists_eq_left', exists_eq_left, List.set_cons_zero, List.set_cons_succ, true_and, and_true, HO.lst.injEq, HO.tup.injEq, exists_and_left, exists_eq, exists_eq', Br.t, Br.f, Be.t, Be.f, List.cons.injEq, List.append_nil, scal, if_true, if_false, ite_true, ite_false, eq_self_iff_true, decide_true, decide_false, Bool.not_true, Bool.not_false, reduceIte, List.nil_append, List.cons_append, reduceCtorEq, false_and, exists_false, false_or, or_false, Int.reduceLT, ral, rmd, rsq, rlu, rdp, rrp, rrt, rtp, rzk, rsp5, Bool.true_or, Bool.false_or, Bool.or_false, Bool.or_true]
        exact q _ s0
      | @len p xs _ _ h e l2 =>
        have h0 := s0 _ _ h
        have ka := kindB h0 rfl
        refine ⟨_, ka.2.2.2.2.2, ?_⟩
        refine Br.n (fun c => absurd rfl c) (fun _ => ?_)
        simp only [and_assoc, rst, rs, re, ra, rq, rx, ro, rl, rl2, rsp, rz, rix, rln, rg, rd, ri, rv, rk, rdd, rwi, at0, at1, at2, at3, upd_at, List.getElem?_cons_zero, List.getElem?_cons_succ, Option.some.injEq, exists_eq_left', exists_eq_left, List.set_cons_zero, List.set_cons_succ, true_and, and_true, HO.lst.injEq, HO.tup.injEq, exists_and_left, exists_eq, exists_eq', Br.t, Br.f, Be.t, Be.f, List.cons.injEq, List.append_nil, scal, if_true, if_false, ite_true, ite_false, eq_self_iff_true, decide_true, decide_false, Bool.not_true, Bool.not_false, reduceIte, List.nil_append, List.cons_append, reduceCtorEq, false_and, exists_false, false_or, or_false, Int.reduceLT, ral, rmd, rsq, rlu, rdp, rrp, rrt, rtp, rzk, rsp5, Bool.true_or, Bool.false_or, Bool.or_false, Bool.or_true]
        refine ⟨_, kb.2.2.2.2.1, ?_⟩
        refine ⟨_, ka.2.2.2.2.1, ?_⟩
        refine Br.n (fun c => absurd rfl c) (fun _ => ?_)
        simp only [and_assoc, rst, rs, re, ra, rq, rx, ro, rl, rl2, rsp, rz, rix, rln, rg, rd, ri, rv, rk, rdd, rwi, at0, at1, at2, at3, upd_at, List.getElem?_cons_zero, List.getElem?_cons_succ, Option.some.injEq, exists_eq_left', exists_eq_left, List.set_cons_zero, List.set_cons_succ, true_and, and_true, HO.lst.injEq, HO.tup.injEq, exists_and_left, exists_eq, exists_eq', Br.t, Br.f, Be.t, Be.f, List.cons.injEq, List.append_nil, scal, if_true, if_false, ite_true, ite_false, eq_self_iff_true, decide_true, decide_false, Bool.not_true, Bool.not_false, reduceIte, List.nil_append, List.cons_append, reduceCtorEq, false_and, exists_false, false_or, or_false, Int.reduceLT, ral, rmd, rsq, rlu, rdp, rrp, rrt, rtp, rzk, rsp5, Bool.true_or, Bool.false_or, Bool.or_false, Bool.or_true]
        refine ⟨_, h0, _, rfl, _, hq0, _, rfl, ?_⟩
        refine Br.n (fun _ => ?_) (fun c => absurd c ?_)
        · simp only [and_assoc, rst, rs, re, ra, rq, rx, ro, rl, rl2, rsp, rz, rix, rln, rg, rd, ri, rv, rk, rdd, rwi, at0, at1, at2, at3, upd_at, List.getElem?_cons_zero, List.getElem?_cons_succ, Option.some.injEq, exists_eq_left', exists_eq_left, List.set_cons_zero, List.set_cons_succ, true_and, and_true, HO.lst.injEq, HO.tup.injEq, exists_and_left, exists_eq, exists_eq', Br.t, Br.f, Be.t, Be.f, List.cons.injEq, List.append_nil, scal, if_true, if_false, ite_true, ite_false, eq_self_iff_true, decide_true, decide_false, Bool.not_true, Bool.not_false, reduceIte, List.nil_append, List.cons_append, reduceCtorEq, false_and, exists_false, false_or, or_false, Int.reduceLT, ral, rmd, rsq, rlu, rdp, rrp, rrt, rtp, rzk, rsp5, Bool.true_or, Bool.false_or, Bool.or_false, Bool.or_true]
          exact q _ s0
        · rw [List.length_cons, List.length_map]
          omega
      | @ok p x xs d _ _ h el tx cd cs =>
        have h0 := s0 _ _ h
        have ka := kindB h0 rfl
        refine ⟨_, ka.2.2.2.2.2, ?_⟩
        refine Br.n (fun c => absurd rfl c) (fun _ => ?_)
        simp only [and_assoc, rst, rs, re, ra, rq, rx, ro, rl, rl2, rsp, rz, rix, rln, rg, rd, ri, rv, rk, rdd, rwi, at0, at1, at2, at3, upd_at, List.getElem?_cons_zero, List.getElem?_cons_succ, Option.some.injEq, exists_eq_left', exists_eq_left, List.set_cons_zero, List.set_cons_succ, true_and, and_true, HO.lst.injEq, HO.tup.injEq, exists_and_left, exists_eq, exists_eq', Br.t, Br.f, Be.t, Be.f, List.cons.injEq, List.append_nil, scal, if_true, if_false, ite_true, ite_false, eq_self_iff_true, decide_true, decide_false, Bool.not_true, Bool.not_false, reduceIte, List.nil_append, List.cons_append, reduceCtorEq, false_and, exists_false, false_or, or_false, Int.reduceLT, ral, rmd, rsq, rlu, rdp, rrp, rrt, rtp, rzk, rsp5, Bool.true_or, Bool.false_or, Bool.or_false, Bool.or_true]
        refine ⟨_, kb.2.2.2.2.1, ?_⟩
        refine ⟨_, ka.2.2.2.2.1, ?_⟩
        refine Br.n (fun c => absurd rfl c) (fun _ => ?_)
        simp only [and_assoc, rst, rs, re, ra, rq, rx, ro, rl, rl2, rsp, rz, rix, rln, rg, rd, ri, rv, rk, rdd, rwi, at0, at1, at2, at3, upd_at, List.getElem?_cons_zero, List.getElem?_cons_succ, Option.some.injEq, exists_eq_left', exists_eq_left, List.set_cons_zero, List.set_cons_succ, true_and, and_true, HO.lst.injEq, HO.tup.injEq, exists_and_left, exists_eq, exists_eq', Br.t, Br.f, Be.t, Be.f, List.cons.injEq, List.append_nil, scal, if_true, if_false, ite_true, ite_false, eq_self_iff_true, decide_true, decide_false, Bool.not_true, Bool.not_false, reduceIte, List.nil_append, List.cons_append, reduceCtorEq, false_and, exists_false, false_or, or_false, Int.reduceLT, ral, rmd, rsq, rlu, rdp, rrp, rrt, rtp, rzk, rsp5, Bool.true_or, Bool.false_or, Bool.or_false, Bool.or_true]
        refine ⟨_, h0, _, rfl, _, hq0, _, rfl, ?_⟩
        refine Br.n (fun c => absurd ?_ c) (fun _ => ?_)
        · rw [List.length_cons, List.length_cons, List.length_map, el]
        · simp only [and_assoc, rst, rs, re, ra, rq, rx, ro, rl, rl2, rsp, rz, rix, rln, rg, rd, ri, rv, rk, rdd, rwi, at0, at1, at2, at3, upd_at, List.getElem?_cons_zero, List.getElem?_cons_succ, Option.some.injEq, exists_eq_left', exists_eq_left, List.set_cons_zero, List.set_cons_succ, true_and, and_true, HO.lst.injEq, HO.tup.injEq, exists_and_left, exists_eq, exists_eq', Br.t, Br.f, Be.t, Be.f, List.cons.injEq, List.append_nil, scal, if_true, if_false, ite_true, ite_false, eq_self_iff_true, decide_true, decide_false, Bool.not_true, Bool.not_false, reduceIte, List.nil_append, List.cons_append, reduceCtorEq, false_and, exists_false, false_or, or_false, Int.reduceLT, ral, rmd, rsq, rlu, rdp, rrp, rrt, rtp, rzk, rsp5, Bool.true_or, Bool.false_or, Bool.or_false, Bool.or_true]
          have hlen : (V.str ww :: ns.map V.int).length = ns.length + 1 := by rw [List.length_cons, List.length_map]
          refine ⟨_, hq0, _, rfl, by omega, by omega, ?_⟩
          rw [Int.toNat_natCast, hlen]
          generalize hb : PyData.eqv d (.str ww) :: List.zipWith (fun x n => within x n n) xs ns = bs
          have bl : bs.length = ns.length + 1 := by rw [← hb, List.length_cons, List.length_zipWith, el, Nat.min_self]
          refine LC.rng (fun D i H' => Same H0 H' ∧ ∃ l : List Int, H' D = some (.lst (l.map V.int)) ∧ (l = [] ↔ (bs.take i).all id = true) ∧ l.length ≤ i) (fun D hD => ⟨Same.new hD, [], upd_same, ⟨fun _ => rfl, fun _ => rfl⟩, Nat.le_refl _⟩) ?_ ?_
          · rintro D i H' hD hi ⟨s1, l, hd, iff, ll⟩
            have hbi : bs[i]? = some bs[i] := List.getElem?_eq_getElem (by omega)
            generalize bs[i] = b at hbi
            have key : ∃ a c, atI (x :: xs) ((i : Nat) : Int) = some a ∧ atI (V.str ww :: ns.map V.int) ((i : Nat) : Int) = some c ∧ ∀ (Qv : VK) (E : XK), (∀ H2, Same H' H2 → Qv (.bl b) H2) → spn__law_same K n [a, c] H' Qv E := by
              cases i with
              | zero =>
                rw [← hb] at hbi
                cases hbi
                exact ⟨x, _, atI_nat (j := 0) rfl, atI_nat (j := 0) rfl, fun Qv E k => ⟨_, _, rfl, .inl ⟨ww, d, by omega, rfl, so, (tx.same s0).same s1, (cd.same s0).same s1, k⟩⟩⟩
              | succ j =>
                have hj : j < ns.length := by omega
                have hj2 : j < xs.length := by omega
                have e1 : xs[j]? = some xs[j] := List.getElem?_eq_getElem hj2
                have e2 : ns[j]? = some ns[j] := List.getElem?_eq_getElem hj
                have e3 : b = within xs[j] ns[j] ns[j] := by
                  rw [← hb, List.getElem?_cons_succ, List.getElem?_zipWith, e1, e2] at hbi
                  cases hbi
                  rfl
                refine ⟨xs[j], .int ns[j], atI_nat (by rw [List.getElem?_cons_succ]; exact e1), atI_nat (by rw [List.getElem?_cons_succ, List.getElem?_map, e2]; rfl), fun Qv E k => ⟨_, _, rfl, .inr (.inl ⟨ns[j], by omega, rfl, ((cs _ (List.getElem_mem hj2)).same s0).same s1, ?_⟩)⟩⟩
                rw [← within_one, ← e3]
                exact k
            obtain ⟨a, c, ga, gc, kk⟩ := key
            simp only [and_assoc, rst, rs, re, ra, rq, rx, ro, rl, rl2, rsp, rz, rix, rln, rg, rd, ri, rv, rk, rdd, rwi, at0, at1, at2, at3, upd_at, List.getElem?_cons_zero, List.getElem?_cons_succ, Option.some.injEq, exists_eq_left', exists_eq_left, List.set_cons_zero, List.set_cons_succ, true_and, and_true, HO.lst.injEq, HO.tup.injEq, exists_and_left, exists_eq, exists_eq', Br.t, Br.f, Be.t, Be.f, List.cons.injEq, List.append_nil, scal, if_true, if_false, ite_true, ite_false, eq_self_iff_true, decide_true, decide_false, Bool.not_true, Bool.not_false, reduceIte, List.nil_append, List.cons_append, reduceCtorEq, false_and, exists_false, false_or, or_false, Int.reduceLT, ral, rmd, rsq, rlu, rdp, rrp, rrt, rtp, rzk, rsp5, Bool.true_or, Bool.false_or, Bool.or_false, Bool.or_true, s1 _ _ h0, s1 _ _ hq0]
            refine ⟨a, by rw [Int.zero_add]; exact ga, c, by rw [Int.zero_add]; exact gc, kk _ _ fun H2 s2 => ?_⟩
            simp only [and_assoc, rst, rs, re, ra, rq, rx, ro, rl, rl2, rsp, rz, rix, rln, rg, rd, ri, rv, rk, rdd, rwi, at0, at1, at2, at3, upd_at, List.getElem?_cons_zero, List.getElem?_cons_succ, Option.some.injEq, exists_eq_left', exists_eq_left, List.set_cons_zero, List.set_cons_succ, true_and, and_true, HO.lst.injEq, HO.tup.injEq, exists_and_left, exists_eq, exists_eq', Br.t, Br.f, Be.t, Be.f, List.cons.injEq, List.append_nil, scal, if_true, if_false, ite_true, ite_false, eq_self_iff_true, decide_true, decide_false, Bool.not_true, Bool.not_false, reduceIte, List.nil_append, List.cons_append, reduceCtorEq, false_and, exists_false, false_or, or_false, Int.reduceLT, ral, rmd, rsq, rlu, rdp, rrp, rrt, rtp, rzk, rsp5, Bool.true_or, Bool.false_or, Bool.or_false, Bool.or_true]
            rw [take_snoc hbi, List.all_append]
            have n2 : H0 D = none := hD
            have hd2 := s2 _ _ hd
            have s3 := Same.trans s1 s2
            cases b with
            | true =>
              simp only [and_assoc, rst, rs, re, ra, rq, rx, ro, rl, rl2, rsp, rz, rix, rln, rg, rd, ri, rv, rk, rdd, rwi, at0, at1, at2, at3, upd_at, List.getElem?_cons_zero, List.getElem?_cons_succ, Option.some.injEq, exists_eq_left', exists_eq_left, List.set_cons_zero, List.set_cons_succ, true_and, and_true, HO.lst.injEq, HO.tup.injEq, exists_and_left, exists_eq, exists_eq', Br.t, Br.f, Be.t, Be.f, List.cons.injEq, List.append_nil, scal, if_true, if_false, ite_true, ite_false, eq_self_iff_true, decide_true, decide_false, Bool.not_true, Bool.not_false, reduceIte, List.nil_append, List.cons_append, reduceCtorEq, false_and, exists_false, false_or, or_false, Int.reduceLT, ral, rmd, rsq, rlu, rdp, rrp, rrt, rtp, rzk, rsp5, Bool.true_or, Bool.false_or, Bool.or_false, Bool.or_true]
              exact ⟨s3, l, hd2, by rw [iff]; simp, by omega⟩
            | false =>
              simp only [and_assoc, rst, rs, re, ra, rq, rx, ro, rl, rl2, rsp, rz, rix, rln, rg, rd, ri, rv, rk, rdd, rwi, at0, at1, at2, at3, upd_at, List.getElem?_cons_zero, List.getElem?_cons_succ, Option.some.injEq, exists_eq_left', exists_eq_left, List.set_cons_zero, List.set_cons_succ, true_and, and_true, HO.lst.injEq, HO.tup.injEq, exists_and_left, exists_eq, exists_eq', Br.t, Br.f, Be.t, Be.f, List.cons.injEq, List.append_nil, scal, if_true, if_false, ite_true, ite_false, eq_self_iff_true, decide_true, decide_false, Bool.not_true, Bool.not_false, reduceIte, List.nil_append, List.cons_append, reduceCtorEq, false_and, exists_false, false_or, or_false, Int.reduceLT, ral, rmd, rsq, rlu, rdp, rrp, rrt, rtp, rzk, rsp5, Bool.true_or, Bool.false_or, Bool.or_false, Bool.or_true]
              exact ⟨_, hd2, by rw [List.length_map, sizeLine_eq]; omega, Same.mut s3 n2, l ++ [(i : Int)], by rw [List.map_append, Int.zero_add]; rfl, by simp, by rw [List.length_append]; simp; omega⟩
          · rintro D H' hD ⟨s1, l, hd, iff, ll⟩
            rw [List.take_of_length_le (by omega), ← hb, List.all_cons, eqs_all xs ns el, id] at iff
            refine fun pE hp => .inl (eq_ints (ns := l) (ms := []) (SqL.of (Same.new hp _ _ hd)) (SqL.of upd_same) ?_)
            have e : decide (l = []) = (PyData.eqv d (.str ww) && eqs xs ns) := by
              by_cases c : l = []
              · rw [decide_eq_true c, iff.mp c]
              · rw [decide_eq_false c]
                cases z : (PyData.eqv d (.str ww) && eqs xs ns) with
                | false => rfl
                | true => exact absurd (iff.mpr z) c
            rw [e]
            exact q _ (Same.trans s0 (Same.trans s1 (Same.new hp)))
theorem ok__law_refused (T : Tx K mg w) (c_meeting : Cal P w K mg base 6 "meeting" ["machine", "one", "other"] (sp_meeting K)) (c__law_very : CalW P w K mg base 1 "_law_very" ["found", "thing"] (sp__law_very K))  : Cal P w K mg base 7 "_law_refused" ["machine", "one", "other", "bad"] (sp__law_refused K) := by
  refine cal_mk T.F__law_refused T.g__law_refused sc__law_refused (len4 _) (fun _ _ _ _ _ _ us hl => match us, hl with | [_, _, _, _], _ => rfl) (fun cdv A outer s H vs Q E hr h => ?_)
  obtain ⟨v0, v1, v2, v3, rfl, h⟩ := h
  have hu := hu_of hr.r
  refine ⟨_, (pss_one (ps_try_asesE (i := 4) (tb := _) (Wz := fun _ _ _ _ => False) (pss_one (ps_ret pe_bl)) rfl rfl sc__law_refused.nd rfl rfl takes0
        (fun W pn xe tk _ => (pss_one (ps_expr (pe_calS c_meeting hr (by decide) tk rfl (pa_cons (pv 0) (pa_cons (pv 1) (pa_cons (pv 2) pa_nil)))))))
        (.cons ⟨rfl, by decide, Or.inl T.g_NoRow⟩ (fun a oe cls d pn hz hf => (pss_one (ps_ret (pe_and (pe_calW c__law_very (hr.wm _) (by decide) passL rfl (pa_cons (pe_exf T.x_NoRow T.a_NoRow_found hz hf (pv 4)) (pa_cons (pv 3) pa_nil))) (pe_one (pe_callB (call_isD T.x_NoRow hz hf) (by rfl) T.n_isinstance (by decide +kernel) (pa_cons (pv 4) (pa_cons (pe_glob (v := .ref (He.ga K "SeedError")) rfl T.g_SeedError rfl) pa_nil)))))))) .nil))), ?_⟩
  obtain ⟨m, r1, r2, hm, mo, p1, p2, v, cs, q⟩ := h
  simp only [and_assoc, rst, rs, re, ra, rq, rx, ro, rl, rl2, rsp, rz, rix, rln, rg, rd, ri, rv, rk, rdd, rwi, at0, at1, at2, at3, upd_at, List.getElem?_cons_zero, List.getElem?_cons_succ, Option.some.injEq, exists_eq_left', exists_eq_left, List.set_cons_zero, List.set_cons_succ, true_and, and_true, HO.lst.injEq, HO.tup.injEq, exists_and_left, exists_eq, exists_eq', Br.t, Br.f, Be.t, Be.f, List.cons.injEq, List.append_nil, scal, if_true, if_false, ite_true, ite_false, eq_self_iff_true, decide_true, decide_false, Bool.not_true, Bool.not_false, reduceIte, List.nil_append, List.cons_append, reduceCtorEq, false_and, exists_false, false_or, or_false, Int.reduceLT, ral, rmd, rsq, rlu, rdp, rrp, rrt, rtp, rzk, rsp5, Bool.true_or, Bool.false_or, Bool.or_false, Bool.or_true]
  refine ⟨_, _, _, rfl, m, hm, mo, r1, r2, p1, p2, ?_, ?_, ?_⟩
  · intro hr H' d s nd
    have v' := (v.same s).same (Same.new (o := .xd [("found", v1)]) nd)
    refine ⟨true, T.exm_NoRow_NoRow, fun _ z hz => ?_, nofun⟩
    simp only [and_assoc, rst, rs, re, ra, rq, rx, ro, rl, rl2, rsp, rz, rix, rln, rg, rd, ri, rv, rk, rdd, rwi, at0, at1, at2, at3, upd_at, List.getElem?_cons_zero, List.getElem?_cons_succ, Option.some.injEq, exists_eq_left', exists_eq_left, List.set_cons_zero, List.set_cons_succ, true_and, and_true, HO.lst.injEq, HO.tup.injEq, exists_and_left, exists_eq, exists_eq', Br.t, Br.f, Be.t, Be.f, List.cons.injEq, List.append_nil, scal, if_true, if_false, ite_true, ite_false, eq_self_iff_true, decide_true, decide_false, Bool.not_true, Bool.not_false, reduceIte, List.nil_append, List.cons_append, reduceCtorEq, false_and, exists_false, false_or, or_false, Int.reduceLT, ral, rmd, rsq, rlu, rdp, rrp, rrt, rtp, rzk, rsp5, Bool.true_or, Bool.false_or, Bool.or_false, Bool.or_true]
    refine ⟨_, rfl, _, rfl, _, _, rfl, ?_, v', ?_⟩
    · rcases cs with ⟨_, c⟩ | ⟨c, _⟩
      · exact c.symm
      · rw [hr] at c; cases c
    simp only [and_assoc, rst, rs, re, ra, rq, rx, ro, rl, rl2, rsp, rz, rix, rln, rg, rd, ri, rv, rk, rdd, rwi, at0, at1, at2, at3, upd_at, List.getElem?_cons_zero, List.getElem?_cons_succ, Option.some.injEq, exists_eq_left', exists_eq_left, List.set_cons_zero, List.set_cons_succ, true_and, and_true, HO.lst.injEq, HO.tup.injEq, exists_and_left, exists_eq, exists_eq', Br.t, Br.f, Be.t, Be.f, List.cons.injEq, List.append_nil, scal, if_true, if_false, ite_true, ite_false, eq_self_iff_true, decide_true, decide_false, Bool.not_true, Bool.not_false, reduceIte, List.nil_append, List.cons_append, reduceCtorEq, false_and, exists_false, false_or, or_false, Int.reduceLT, ral, rmd, rsq, rlu, rdp, rrp, rrt, rtp, rzk, rsp5, Bool.true_or, Bool.false_or, Bool.or_false, Bool.or_true]
    refine isD_ref upd_same T.kit_NoRow_SeedError ?_
    exact q _ (Same.trans s (Same.new nd))
  · intro h1 h2 H' d s nd
    have v' := (v.same s).same (Same.new (o := .xd [("found", v2)]) nd)
    refine ⟨true, T.exm_NoRow_NoRow, fun _ z hz => ?_, nofun⟩
    simp only [and_assoc, rst, rs, re, ra, rq, rx, ro, rl, rl2, rsp, rz, rix, rln, rg, rd, ri, rv, rk, rdd, rwi, at0, at1, at2, at3, upd_at, List.getElem?_cons_zero, List.getElem?_cons_succ, Option.some.injEq, exists_eq_left', exists_eq_left, List.set_cons_zero, List.set_cons_succ, true_and, and_true, HO.lst.injEq, HO.tup.injEq, exists_and_left, exists_eq, exists_eq', Br.t, Br.f, Be.t, Be.f, List.cons.injEq, List.append_nil, scal, if_true, if_false, ite_true, ite_false, eq_self_iff_true, decide_true, decide_false, Bool.not_true, Bool.not_false, reduceIte, List.nil_append, List.cons_append, reduceCtorEq, false_and, exists_false, false_or, or_false, Int.reduceLT, ral, rmd, rsq, rlu, rdp, rrp, rrt, rtp, rzk, rsp5, Bool.true_or, Bool.false_or, Bool.or_false, Bool.or_true]
    refine ⟨_, rfl, _, rfl, _, _, rfl, ?_, v', ?_⟩
    · rcases cs with ⟨c, _⟩ | ⟨_, _, c⟩
      · rw [h1] at c; cases c
      · exact c.symm
    simp only [and_assoc, rst, rs, re, ra, rq, rx, ro, rl, rl2, rsp, rz, rix, rln, rg, rd, ri, rv, rk, rdd, rwi, at0, at1, at2, at3, upd_at, List.getElem?_cons_zero, List.getElem?_cons_succ, Option.some.injEq, exists_eq_left', exists_eq_left, List.set_cons_zero, List.set_cons_succ, true_and, and_true, HO.lst.injEq, HO.tup.injEq, exists_and_left, exists_eq, exists_eq', Br.t, Br.f, Be.t, Be.f, List.cons.injEq, List.append_nil, scal, if_true, if_false, ite_true, ite_false, eq_self_iff_true, decide_true, decide_false, Bool.not_true, Bool.not_false, reduceIte, List.nil_append, List.cons_append, reduceCtorEq, false_and, exists_false, false_or, or_false, Int.reduceLT, ral, rmd, rsq, rlu, rdp, rrp, rrt, rtp, rzk, rsp5, Bool.true_or, Bool.false_or, Bool.or_false, Bool.or_true]
    refine isD_ref upd_same T.kit_NoRow_SeedError ?_
    exact q _ (Same.trans s (Same.new nd))
  · intro h1 h2
    rcases cs with ⟨c, _⟩ | ⟨_, c, _⟩
    · rw [h1] at c; cases c
    · rw [h2] at c; cases c
end
end Law

-- RDX ral, rmd, rsq, rlu, rdp, rrp, rrt, rtp, rzk, rsp5, Bool.true_or, Bool.false_or, Bool.or_false, Bool.or_true
namespace Law
open PySem PySem.Spec PyProof.Rows L2 Sw
section
variable {P : Program} {w : World} {K : Fg} {mg : Str → Option Value} {base : Heap}
theorem onw_snoc {W : Nat} {s : Sk × Int} : ∀ {l : List (Sk × Int)} {x : Nat}, onw W (l ++ [s]) x = st1 s.1 s.2.toNat W (onw W l x)
  | [], _ => rfl
  | t :: r, x => onw_snoc (l := r)
theorem pk_snoc {B d : Nat} : ∀ {l : List Nat} {s : Nat}, pk B s (l ++ [d]) = pk B s l * B + d
  | [], _ => rfl
  | t :: r, s => pk_snoc (l := r)
theorem one_shl' (k : Nat) : (1 : Int) * 2 ^ ((k : Int)).toNat = ((2 ^ k : Nat) : Int) := by
  rw [Int.one_mul, Int.toNat_natCast]
  simp
theorem xx (x y : Nat) : Builtin.bitXor (x : Int) (y : Int) = ((x ^^^ y : Nat) : Int) := by
  rw [Bits.bitXor_pp (by omega) (by omega), Int.toNat_natCast, Int.toNat_natCast]
theorem p2c (k : Nat) : (2 : Int) ^ k = ((2 ^ k : Nat) : Int) := by simp
theorem shlu {u k : Nat} (hu : u < 2 ^ 64) (h : k ≤ 1000) : CShl (u : Int) (k : Int) := by
  refine ⟨by omega, ?_⟩
  have h6 := PySem.Flt.log2_lt_of (k := 71) (by decide) (show (u : Int).natAbs < 2 ^ 71 by omega)
  have h7 : Builtin.Int.intBits (u : Int) ≤ (u : Int).natAbs.log2 + 1 := by
    unfold Builtin.Int.intBits
    split <;> omega
  omega
theorem ok__law_onward (T : Tx K mg w)   : Cal P w K mg base 1 "_law_onward" ["steps", "number", "width"] (sp__law_onward K) := by
  refine cal_mk T.F__law_onward T.g__law_onward sc__law_onward (len3 _) (fun _ _ _ _ _ _ us hl => match us, hl with | [_, _, _], _ => rfl) (fun cdv A outer s H vs Q E hr h => ?_)
  obtain ⟨v0, v1, v2, rfl, h⟩ := h
  have hu := hu_of hr.r
  refine ⟨_, (pss_cons (ps_set (i := 3) sc__law_onward.nd rfl (Or.inl rfl) (pe_op op_shlW pe_int (pv 2)))
      (pss_cons (ps_for (passes_of rfl) rfl (pi_q (pv 0)) (pg_tupQ rfl (pgs_cons (pg_name (i := 4) sc__law_onward.nd rfl (Or.inl rfl)) (pgs_cons (pg_name (i := 5) sc__law_onward.nd rfl (Or.inl rfl)) pgs_nil)) (gname_len (gname_len (fun _ _ _ _ h => gnil_len h)))) (pss_one (ps_if (pt_cmpR op_eq (pv 4) pe_str (nomark _)) (pss_one (ps_set (i := 1) sc__law_onward.nd rfl (Or.inl rfl) (pe_op op_mod (pe_op op_add (pv 1) (pv 5)) (pv 3)))) (pss_one (ps_if (pt_cmpR op_eq (pv 4) pe_str (nomark _)) (pss_one (ps_set (i := 1) sc__law_onward.nd rfl (Or.inl rfl) (pe_op op_mod (pe_op op_mulA (pv 1) (pv 5)) (pv 3)))) (pss_one (ps_if (pt_cmpR op_eq (pv 4) pe_str (nomark _)) (pss_one (ps_set (i := 1) sc__law_onward.nd rfl (Or.inl rfl) (pe_op op_xor (pv 1) (pe_op op_mod (pv 5) (pv 3))))) (pss_one (ps_if (pt_cmpR op_eq (pv 4) pe_str (nomark _)) (pss_one (ps_set (i := 1) sc__law_onward.nd rfl (Or.inl rfl) (pe_op op_xor (pv 1) (pe_op op_shr (pv 1) (pv 5))))) (pss_one (ps_if (pt_cmpR op_eq (pv 4) pe_str (nomark _)) (pss_one (ps_set (i := 1) sc__law_onward.nd rfl (Or.inl rfl) (pe_op op_mod (pe_op op_xor (pv 1) (pe_op op_shlW (pv 1) (pv 5))) (pv 3)))) (pss_cons (ps_set (i := 6) sc__law_onward.nd rfl (Or.inl rfl) (pe_op op_mod (pv 5) (pv 2)))
      (pss_one (ps_set (i := 1) sc__law_onward.nd rfl (Or.inl rfl) (pe_op op_add (pe_op op_mod (pe_op op_shlW (pv 1) (pv 6)) (pv 3)) (pe_op op_shr (pv 1) (pe_op op_sub (pv 2) (pv 6))))))))))))))))))
      (pss_one (ps_ret (pv 1))))), ?_⟩
  obtain ⟨q, ss, xs, n, W, rfl, hq, al, hl, ok, rfl, hn, rfl, W1, W64, k⟩ := h
  refine seqI fun rr hr => ?_
  simp only [and_assoc, rst, rs, re, ra, rq, rx, ro, rl, rl2, rsp, rz, rix, rln, rg, rd, ri, rv, rk, rdd, rwi, at0, at1, at2, at3, upd_at, List.getElem?_cons_zero, List.getElem?_cons_succ, Option.some.injEq, exists_eq_left', exists_eq_left, List.set_cons_zero, List.set_cons_succ, true_and, and_true, HO.lst.injEq, HO.tup.injEq, exists_and_left, exists_eq, exists_eq', Br.t, Br.f, Be.t, Be.f, List.cons.injEq, List.append_nil, scal, if_true, if_false, ite_true, ite_false, eq_self_iff_true, decide_true, decide_false, Bool.not_true, Bool.not_false, reduceIte, List.nil_append, List.cons_append, reduceCtorEq, false_and, exists_false, false_or, or_false, Int.reduceLT, ral, rmd, rsq, rlu, rdp, rrp, rrt, rtp, rzk, rsp5, Bool.true_or, Bool.false_or, Bool.or_false, Bool.or_true]
  refine ⟨shl1 (by omega), ?_⟩
  rw [one_shl']
  subst hr
  refine seqI fun rr hr => ?_
  simp only [and_assoc, rst, rs, re, ra, rq, rx, ro, rl, rl2, rsp, rz, rix, rln, rg, rd, ri, rv, rk, rdd, rwi, at0, at1, at2, at3, upd_at, List.getElem?_cons_zero, List.getElem?_cons_succ, Option.some.injEq, exists_eq_left', exists_eq_left, List.set_cons_zero, List.set_cons_succ, true_and, and_true, HO.lst.injEq, HO.tup.injEq, exists_and_left, exists_eq, exists_eq', Br.t, Br.f, Be.t, Be.f, List.cons.injEq, List.append_nil, scal, if_true, if_false, ite_true, ite_false, eq_self_iff_true, decide_true, decide_false, Bool.not_true, Bool.not_false, reduceIte, List.nil_append, List.cons_append, reduceCtorEq, false_and, exists_false, false_or, or_false, Int.reduceLT, ral, rmd, rsq, rlu, rdp, rrp, rrt, rtp, rzk, rsp5, Bool.true_or, Bool.false_or, Bool.or_false, Bool.or_true]
  have ll := al.len
  refine ⟨_, hq, _, rfl, FI.seq (o := .lst xs) rfl (fun i σ H' => ∃ v4 v5 v6, H' = H ∧ σ = [some (.ref q), some (.int (onw W (ss.take i) n : Nat)), some (.int (W : Nat)), some (.int (2 ^ W : Nat)), v4, v5, v6]) ⟨_, _, _, rfl, rfl⟩ (fun i σ H' _ ⟨_, _, _, e, _⟩ => by rw [e]; exact hq) ?_ ?_⟩
  · rintro i x σ H' hx ⟨v4, v5, v6, rfl, rfl⟩
    have hi : i < xs.length := (List.getElem?_eq_some_iff.mp hx).1
    obtain ⟨⟨kk, z⟩, y, hs, hy, ⟨sp, e, hsp⟩⟩ := al.at (i := i) (by omega)
    rw [hx] at hy
    cases hy
    subst e
    have so := ok _ (List.mem_of_getElem? hs)
    have z0 : 0 ≤ z ∧ z < 2 ^ 64 := by cases kk <;> simp only [stOk] at so <;> omega
    obtain ⟨b, rfl⟩ := Int.eq_ofNat_of_zero_le z0.1
    have b64 : b < 2 ^ 64 := by omega
    have hm : onw W (ss.take i) n < 2 ^ W := onw_lt W1 hn
    have e1 : onw W (ss.take (i + 1)) n = st1 kk b W (onw W (ss.take i) n) := by rw [take_snoc hs, onw_snoc]; rfl
    rw [e1]
    clear e1
    generalize onw W (ss.take i) n = u at hm ⊢
    have w64 : 2 ^ W ≤ 2 ^ 64 := Nat.pow_le_pow_right (by decide) W64
    have wp : 0 < 2 ^ W := Nat.two_pow_pos W
    simp only [and_assoc, rst, rs, re, ra, rq, rx, ro, rl, rl2, rsp, rz, rix, rln, rg, rd, ri, rv, rk, rdd, rwi, at0, at1, at2, at3, upd_at, List.getElem?_cons_zero, List.getElem?_cons_succ, Option.some.injEq, exists_eq_left', exists_eq_left, List.set_cons_zero, List.set_cons_succ, true_and, and_true, HO.lst.injEq, HO.tup.injEq, exists_and_left, exists_eq, exists_eq', Br.t, Br.f, Be.t, Be.f, List.cons.injEq, List.append_nil, scal, if_true, if_false, ite_true, ite_false, eq_self_iff_true, decide_true, decide_false, Bool.not_true, Bool.not_false, reduceIte, List.nil_append, List.cons_append, reduceCtorEq, false_and, exists_false, false_or, or_false, Int.reduceLT, ral, rmd, rsq, rlu, rdp, rrp, rrt, rtp, rzk, rsp5, Bool.true_or, Bool.false_or, Bool.or_false, Bool.or_true]
    refine ⟨_, hsp, rfl, _, rfl, ?_⟩
    simp only [and_assoc, rst, rs, re, ra, rq, rx, ro, rl, rl2, rsp, rz, rix, rln, rg, rd, ri, rv, rk, rdd, rwi, at0, at1, at2, at3, upd_at, List.getElem?_cons_zero, List.getElem?_cons_succ, Option.some.injEq, exists_eq_left', exists_eq_left, List.set_cons_zero, List.set_cons_succ, true_and, and_true, HO.lst.injEq, HO.tup.injEq, exists_and_left, exists_eq, exists_eq', Br.t, Br.f, Be.t, Be.f, List.cons.injEq, List.append_nil, scal, if_true, if_false, ite_true, ite_false, eq_self_iff_true, decide_true, decide_false, Bool.not_true, Bool.not_false, reduceIte, List.nil_append, List.cons_append, reduceCtorEq, false_and, exists_false, false_or, or_false, Int.reduceLT, ral, rmd, rsq, rlu, rdp, rrp, rrt, rtp, rzk, rsp5, Bool.true_or, Bool.false_or, Bool.or_false, Bool.or_true]
    cases kk
    · refine Br.d (fun c => ?_) (fun c => absurd rfl c)
      simp only [and_assoc, rst, rs, re, ra, rq, rx, ro, rl, rl2, rsp, rz, rix, rln, rg, rd, ri, rv, rk, rdd, rwi, at0, at1, at2, at3, upd_at, List.getElem?_cons_zero, List.getElem?_cons_succ, Option.some.injEq, exists_eq_left', exists_eq_left, List.set_cons_zero, List.set_cons_succ, true_and, and_true, HO.lst.injEq, HO.tup.injEq, exists_and_left, exists_eq, exists_eq', Br.t, Br.f, Be.t, Be.f, List.cons.injEq, List.append_nil, scal, if_true, if_false, ite_true, ite_false, eq_self_iff_true, decide_true, decide_false, Bool.not_true, Bool.not_false, reduceIte, List.nil_append, List.cons_append, reduceCtorEq, false_and, exists_false, false_or, or_false, Int.reduceLT, ral, rmd, rsq, rlu, rdp, rrp, rrt, rtp, rzk, rsp5, Bool.true_or, Bool.false_or, Bool.or_false, Bool.or_true]
      exact ⟨by omega, by show ((u : Int) + (b : Int)) % ((2 ^ W : Nat) : Int) = (((u + b) % 2 ^ W : Nat) : Int); push_cast; rfl⟩
    · refine Br.d (fun c => absurd c (by decide +kernel)) (fun _ => ?_)
      simp only [and_assoc, rst, rs, re, ra, rq, rx, ro, rl, rl2, rsp, rz, rix, rln, rg, rd, ri, rv, rk, rdd, rwi, at0, at1, at2, at3, upd_at, List.getElem?_cons_zero, List.getElem?_cons_succ, Option.some.injEq, exists_eq_left', exists_eq_left, List.set_cons_zero, List.set_cons_succ, true_and, and_true, HO.lst.injEq, HO.tup.injEq, exists_and_left, exists_eq, exists_eq', Br.t, Br.f, Be.t, Be.f, List.cons.injEq, List.append_nil, scal, if_true, if_false, ite_true, ite_false, eq_self_iff_true, decide_true, decide_false, Bool.not_true, Bool.not_false, reduceIte, List.nil_append, List.cons_append, reduceCtorEq, false_and, exists_false, false_or, or_false, Int.reduceLT, ral, rmd, rsq, rlu, rdp, rrp, rrt, rtp, rzk, rsp5, Bool.true_or, Bool.false_or, Bool.or_false, Bool.or_true]
      refine Br.d (fun c => ?_) (fun c => absurd rfl c)
      simp only [and_assoc, rst, rs, re, ra, rq, rx, ro, rl, rl2, rsp, rz, rix, rln, rg, rd, ri, rv, rk, rdd, rwi, at0, at1, at2, at3, upd_at, List.getElem?_cons_zero, List.getElem?_cons_succ, Option.some.injEq, exists_eq_left', exists_eq_left, List.set_cons_zero, List.set_cons_succ, true_and, and_true, HO.lst.injEq, HO.tup.injEq, exists_and_left, exists_eq, exists_eq', Br.t, Br.f, Be.t, Be.f, List.cons.injEq, List.append_nil, scal, if_true, if_false, ite_true, ite_false, eq_self_iff_true, decide_true, decide_false, Bool.not_true, Bool.not_false, reduceIte, List.nil_append, List.cons_append, reduceCtorEq, false_and, exists_false, false_or, or_false, Int.reduceLT, ral, rmd, rsq, rlu, rdp, rrp, rrt, rtp, rzk, rsp5, Bool.true_or, Bool.false_or, Bool.or_false, Bool.or_true]
      exact ⟨small_mul (by omega) (by omega), by omega, by show ((u : Int) * (b : Int)) % ((2 ^ W : Nat) : Int) = (((u * b) % 2 ^ W : Nat) : Int); push_cast; rfl⟩
    · refine Br.d (fun c => absurd c (by decide +kernel)) (fun _ => ?_)
      simp only [and_assoc, rst, rs, re, ra, rq, rx, ro, rl, rl2, rsp, rz, rix, rln, rg, rd, ri, rv, rk, rdd, rwi, at0, at1, at2, at3, upd_at, List.getElem?_cons_zero, List.getElem?_cons_succ, Option.some.injEq, exists_eq_left', exists_eq_left, List.set_cons_zero, List.set_cons_succ, true_and, and_true, HO.lst.injEq, HO.tup.injEq, exists_and_left, exists_eq, exists_eq', Br.t, Br.f, Be.t, Be.f, List.cons.injEq, List.append_nil, scal, if_true, if_false, ite_true, ite_false, eq_self_iff_true, decide_true, decide_false, Bool.not_true, Bool.not_false, reduceIte, List.nil_append, List.cons_append, reduceCtorEq, false_and, exists_false, false_or, or_false, Int.reduceLT, ral, rmd, rsq, rlu, rdp, rrp, rrt, rtp, rzk, rsp5, Bool.true_or, Bool.false_or, Bool.or_false, Bool.or_true]
      refine Br.d (fun c => absurd c (by decide +kernel)) (fun _ => ?_)
      simp only [and_assoc, rst, rs, re, ra, rq, rx, ro, rl, rl2, rsp, rz, rix, rln, rg, rd, ri, rv, rk, rdd, rwi, at0, at1, at2, at3, upd_at, List.getElem?_cons_zero, List.getElem?_cons_succ, Option.some.injEq, exists_eq_left', exists_eq_left, List.set_cons_zero, List.set_cons_succ, true_and, and_true, HO.lst.injEq, HO.tup.injEq, exists_and_left, exists_eq, exists_eq', Br.t, Br.f, Be.t, Be.f, List.cons.injEq, List.append_nil, scal, if_true, if_false, ite_true, ite_false, eq_self_iff_true, decide_true, decide_false, Bool.not_true, Bool.not_false, reduceIte, List.nil_append, List.cons_append, reduceCtorEq, false_and, exists_false, false_or, or_false, Int.reduceLT, ral, rmd, rsq, rlu, rdp, rrp, rrt, rtp, rzk, rsp5, Bool.true_or, Bool.false_or, Bool.or_false, Bool.or_true]
      refine Br.d (fun c => ?_) (fun c => absurd rfl c)
      simp only [and_assoc, rst, rs, re, ra, rq, rx, ro, rl, rl2, rsp, rz, rix, rln, rg, rd, ri, rv, rk, rdd, rwi, at0, at1, at2, at3, upd_at, List.getElem?_cons_zero, List.getElem?_cons_succ, Option.some.injEq, exists_eq_left', exists_eq_left, List.set_cons_zero, List.set_cons_succ, true_and, and_true, HO.lst.injEq, HO.tup.injEq, exists_and_left, exists_eq, exists_eq', Br.t, Br.f, Be.t, Be.f, List.cons.injEq, List.append_nil, scal, if_true, if_false, ite_true, ite_false, eq_self_iff_true, decide_true, decide_false, Bool.not_true, Bool.not_false, reduceIte, List.nil_append, List.cons_append, reduceCtorEq, false_and, exists_false, false_or, or_false, Int.reduceLT, ral, rmd, rsq, rlu, rdp, rrp, rrt, rtp, rzk, rsp5, Bool.true_or, Bool.false_or, Bool.or_false, Bool.or_true]
      refine ⟨by omega, ?_⟩
      rw [show ((b : Int) % ((2 ^ W : Nat) : Int)) = ((b % 2 ^ W : Nat) : Int) from by push_cast; rfl, xx]
      rfl
    · refine Br.d (fun c => absurd c (by decide +kernel)) (fun _ => ?_)
      simp only [and_assoc, rst, rs, re, ra, rq, rx, ro, rl, rl2, rsp, rz, rix, rln, rg, rd, ri, rv, rk, rdd, rwi, at0, at1, at2, at3, upd_at, List.getElem?_cons_zero, List.getElem?_cons_succ, Option.some.injEq, exists_eq_left', exists_eq_left, List.set_cons_zero, List.set_cons_succ, true_and, and_true, HO.lst.injEq, HO.tup.injEq, exists_and_left, exists_eq, exists_eq', Br.t, Br.f, Be.t, Be.f, List.cons.injEq, List.append_nil, scal, if_true, if_false, ite_true, ite_false, eq_self_iff_true, decide_true, decide_false, Bool.not_true, Bool.not_false, reduceIte, List.nil_append, List.cons_append, reduceCtorEq, false_and, exists_false, false_or, or_false, Int.reduceLT, ral, rmd, rsq, rlu, rdp, rrp, rrt, rtp, rzk, rsp5, Bool.true_or, Bool.false_or, Bool.or_false, Bool.or_true]
      refine Br.d (fun c => absurd c (by decide +kernel)) (fun _ => ?_)
      simp only [and_assoc, rst, rs, re, ra, rq, rx, ro, rl, rl2, rsp, rz, rix, rln, rg, rd, ri, rv, rk, rdd, rwi, at0, at1, at2, at3, upd_at, List.getElem?_cons_zero, List.getElem?_cons_succ, Option.some.injEq, exists_eq_left', exists_eq_left, List.set_cons_zero, List.set_cons_succ, true_and, and_true, HO.lst.injEq, HO.tup.injEq, exists_and_left, exists_eq, exists_eq', Br.t, Br.f, Be.t, Be.f, List.cons.injEq, List.append_nil, scal, if_true, if_false, ite_true, ite_false, eq_self_iff_true, decide_true, decide_false, Bool.not_true, Bool.not_false, reduceIte, List.nil_append, List.cons_append, reduceCtorEq, false_and, exists_false, false_or, or_false, Int.reduceLT, ral, rmd, rsq, rlu, rdp, rrp, rrt, rtp, rzk, rsp5, Bool.true_or, Bool.false_or, Bool.or_false, Bool.or_true]
      refine Br.d (fun c => absurd c (by decide +kernel)) (fun _ => ?_)
      simp only [and_assoc, rst, rs, re, ra, rq, rx, ro, rl, rl2, rsp, rz, rix, rln, rg, rd, ri, rv, rk, rdd, rwi, at0, at1, at2, at3, upd_at, List.getElem?_cons_zero, List.getElem?_cons_succ, Option.some.injEq, exists_eq_left', exists_eq_left, List.set_cons_zero, List.set_cons_succ, true_and, and_true, HO.lst.injEq, HO.tup.injEq, exists_and_left, exists_eq, exists_eq', Br.t, Br.f, Be.t, Be.f, List.cons.injEq, List.append_nil, scal, if_true, if_false, ite_true, ite_false, eq_self_iff_true, decide_true, decide_false, Bool.not_true, Bool.not_false, reduceIte, List.nil_append, List.cons_append, reduceCtorEq, false_and, exists_false, false_or, or_false, Int.reduceLT, ral, rmd, rsq, rlu, rdp, rrp, rrt, rtp, rzk, rsp5, Bool.true_or, Bool.false_or, Bool.or_false, Bool.or_true]
      refine Br.d (fun c => ?_) (fun c => absurd rfl c)
      simp only [and_assoc, rst, rs, re, ra, rq, rx, ro, rl, rl2, rsp, rz, rix, rln, rg, rd, ri, rv, rk, rdd, rwi, at0, at1, at2, at3, upd_at, List.getElem?_cons_zero, List.getElem?_cons_succ, Option.some.injEq, exists_eq_left', exists_eq_left, List.set_cons_zero, List.set_cons_succ, true_and, and_true, HO.lst.injEq, HO.tup.injEq, exists_and_left, exists_eq, exists_eq', Br.t, Br.f, Be.t, Be.f, List.cons.injEq, List.append_nil, scal, if_true, if_false, ite_true, ite_false, eq_self_iff_true, decide_true, decide_false, Bool.not_true, Bool.not_false, reduceIte, List.nil_append, List.cons_append, reduceCtorEq, false_and, exists_false, false_or, or_false, Int.reduceLT, ral, rmd, rsq, rlu, rdp, rrp, rrt, rtp, rzk, rsp5, Bool.true_or, Bool.false_or, Bool.or_false, Bool.or_true]
      refine ⟨by omega, ?_⟩
      rw [Int.toNat_natCast, p2c, show ((u : Int) / ((2 ^ b : Nat) : Int)) = ((u / 2 ^ b : Nat) : Int) from by push_cast; rfl, xx]
      rfl
    · refine Br.d (fun c => absurd c (by decide +kernel)) (fun _ => ?_)
      simp only [and_assoc, rst, rs, re, ra, rq, rx, ro, rl, rl2, rsp, rz, rix, rln, rg, rd, ri, rv, rk, rdd, rwi, at0, at1, at2, at3, upd_at, List.getElem?_cons_zero, List.getElem?_cons_succ, Option.some.injEq, exists_eq_left', exists_eq_left, List.set_cons_zero, List.set_cons_succ, true_and, and_true, HO.lst.injEq, HO.tup.injEq, exists_and_left, exists_eq, exists_eq', Br.t, Br.f, Be.t, Be.f, List.cons.injEq, List.append_nil, scal, if_true, if_false, ite_true, ite_false, eq_self_iff_true, decide_true, decide_false, Bool.not_true, Bool.not_false, reduceIte, List.nil_append, List.cons_append, reduceCtorEq, false_and, exists_false, false_or, or_false, Int.reduceLT, ral, rmd, rsq, rlu, rdp, rrp, rrt, rtp, rzk, rsp5, Bool.true_or, Bool.false_or, Bool.or_false, Bool.or_true]
      refine Br.d (fun c => absurd c (by decide +kernel)) (fun _ => ?_)
      simp only [and_assoc, rst, rs, re, ra, rq, rx, ro, rl, rl2, rsp, rz, rix, rln, rg, rd, ri, rv, rk, rdd, rwi, at0, at1, at2, at3, upd_at, List.getElem?_cons_zero, List.getElem?_cons_succ, Option.some.injEq, exists_eq_left', exists_eq_left, List.set_cons_zero, List.set_cons_succ, true_and, and_true, HO.lst.injEq, HO.tup.injEq, exists_and_left, exists_eq, exists_eq', Br.t, Br.f, Be.t, Be.f, List.cons.injEq, List.append_nil, scal, if_true, if_false, ite_true, ite_false, eq_self_iff_true, decide_true, decide_false, Bool.not_true, Bool.not_false, reduceIte, List.nil_append, List.cons_append, reduceCtorEq, false_and, exists_false, false_or, or_false, Int.reduceLT, ral, rmd, rsq, rlu, rdp, rrp, rrt, rtp, rzk, rsp5, Bool.true_or, Bool.false_or, Bool.or_false, Bool.or_true]
      refine Br.d (fun c => absurd c (by decide +kernel)) (fun _ => ?_)
      simp only [and_assoc, rst, rs, re, ra, rq, rx, ro, rl, rl2, rsp, rz, rix, rln, rg, rd, ri, rv, rk, rdd, rwi, at0, at1, at2, at3, upd_at, List.getElem?_cons_zero, List.getElem?_cons_succ, Option.some.injEq, exists_eq_left', exists_eq_left, List.set_cons_zero, List.set_cons_succ, true_and, and_true, HO.lst.injEq, HO.tup.injEq, exists_and_left, exists_eq, exists_eq', Br.t, Br.f, Be.t, Be.f, List.cons.injEq, List.append_nil, scal, if_true, if_false, ite_true, ite_false, eq_self_iff_true, decide_true, decide_false, Bool.not_true, Bool.not_false, reduceIte, List.nil_append, List.cons_append, reduceCtorEq, false_and, exists_false, false_or, or_false, Int.reduceLT, ral, rmd, rsq, rlu, rdp, rrp, rrt, rtp, rzk, rsp5, Bool.true_or, Bool.false_or, Bool.or_false, Bool.or_true]
      refine Br.d (fun c => absurd c (by decide +kernel)) (fun _ => ?_)
      simp only [and_assoc, rst, rs, re, ra, rq, rx, ro, rl, rl2, rsp, rz, rix, rln, rg, rd, ri, rv, rk, rdd, rwi, at0, at1, at2, at3, upd_at, List.getElem?_cons_zero, List.getElem?_cons_succ, Option.some.injEq, exists_eq_left', exists_eq_left, List.set_cons_zero, List.set_cons_succ, true_and, and_true, HO.lst.injEq, HO.tup.injEq, exists_and_left, exists_eq, exists_eq', Br.t, Br.f, Be.t, Be.f, List.cons.injEq, List.append_nil, scal, if_true, if_false, ite_true, ite_false, eq_self_iff_true, decide_true, decide_false, Bool.not_true, Bool.not_false, reduceIte, List.nil_append, List.cons_append, reduceCtorEq, false_and, exists_false, false_or, or_false, Int.reduceLT, ral, rmd, rsq, rlu, rdp, rrp, rrt, rtp, rzk, rsp5, Bool.true_or, Bool.false_or, Bool.or_false, Bool.or_true]
      refine Br.d (fun c => ?_) (fun c => absurd rfl c)
      simp only [and_assoc, rst, rs, re, ra, rq, rx, ro, rl, rl2, rsp, rz, rix, rln, rg, rd, ri, rv, rk, rdd, rwi, at0, at1, at2, at3, upd_at, List.getElem?_cons_zero, List.getElem?_cons_succ, Option.some.injEq, exists_eq_left', exists_eq_left, List.set_cons_zero, List.set_cons_succ, true_and, and_true, HO.lst.injEq, HO.tup.injEq, exists_and_left, exists_eq, exists_eq', Br.t, Br.f, Be.t, Be.f, List.cons.injEq, List.append_nil, scal, if_true, if_false, ite_true, ite_false, eq_self_iff_true, decide_true, decide_false, Bool.not_true, Bool.not_false, reduceIte, List.nil_append, List.cons_append, reduceCtorEq, false_and, exists_false, false_or, or_false, Int.reduceLT, ral, rmd, rsq, rlu, rdp, rrp, rrt, rtp, rzk, rsp5, Bool.true_or, Bool.false_or, Bool.or_false, Bool.or_true]
      have b6 : b ≤ 63 := by simp only [stOk] at so; omega
      refine ⟨shlu (by omega) (by omega), by omega, ?_⟩
      rw [Int.toNat_natCast, p2c, show ((u : Int) * ((2 ^ b : Nat) : Int)) = ((u * 2 ^ b : Nat) : Int) from by push_cast; rfl, xx, show (((u ^^^ (u * 2 ^ b) : Nat) : Int) % ((2 ^ W : Nat) : Int)) = (((u ^^^ (u * 2 ^ b)) % 2 ^ W : Nat) : Int) from (Int.natCast_emod _ _).symm]
      rfl
    · refine Br.d (fun c => absurd c (by decide +kernel)) (fun _ => ?_)
      simp only [and_assoc, rst, rs, re, ra, rq, rx, ro, rl, rl2, rsp, rz, rix, rln, rg, rd, ri, rv, rk, rdd, rwi, at0, at1, at2, at3, upd_at, List.getElem?_cons_zero, List.getElem?_cons_succ, Option.some.injEq, exists_eq_left', exists_eq_left, List.set_cons_zero, List.set_cons_succ, true_and, and_true, HO.lst.injEq, HO.tup.injEq, exists_and_left, exists_eq, exists_eq', Br.t, Br.f, Be.t, Be.f, List.cons.injEq, List.append_nil, scal, if_true, if_false, ite_true, ite_false, eq_self_iff_true, decide_true, decide_false, Bool.not_true, Bool.not_false, reduceIte, List.nil_append, List.cons_append, reduceCtorEq, false_and, exists_false, false_or, or_false, Int.reduceLT, ral, rmd, rsq, rlu, rdp, rrp, rrt, rtp, rzk, rsp5, Bool.true_or, Bool.false_or, Bool.or_false, Bool.or_true]
      refine Br.d (fun c => absurd c (by decide +kernel)) (fun _ => ?_)
      simp only [and_assoc, rst, rs, re, ra, rq, rx, ro, rl, rl2, rsp, rz, rix, rln, rg, rd, ri, rv, rk, rdd, rwi, at0, at1, at2, at3, upd_at, List.getElem?_cons_zero, List.getElem?_cons_succ, Option.some.injEq, exists_eq_left', exists_eq_left, List.set_cons_zero, List.set_cons_succ, true_and, and_true, HO.lst.injEq, HO.tup.injEq, exists_and_left, exists_eq, exists_eq', Br.t, Br.f, Be.t, Be.f, List.cons.injEq, List.append_nil, scal, if_true, if_false, ite_true, ite_false, eq_self_iff_true, decide_true, decide_false, Bool.not_true, Bool.not_false, reduceIte, List.nil_append, List.cons_append, reduceCtorEq, false_and, exists_false, false_or, or_false, Int.reduceLT, ral, rmd, rsq, rlu, rdp, rrp, rrt, rtp, rzk, rsp5, Bool.true_or, Bool.false_or, Bool.or_false, Bool.or_true]
      refine Br.d (fun c => absurd c (by decide +kernel)) (fun _ => ?_)
      simp only [and_assoc, rst, rs, re, ra, rq, rx, ro, rl, rl2, rsp, rz, rix, rln, rg, rd, ri, rv, rk, rdd, rwi, at0, at1, at2, at3, upd_at, List.getElem?_cons_zero, List.getElem?_cons_succ, Option.some.injEq, exists_eq_left', exists_eq_left, List.set_cons_zero, List.set_cons_succ, true_and, and_true, HO.lst.injEq, HO.tup.injEq, exists_and_left, exists_eq, exists_eq', Br.t, Br.f, Be.t, Be.f, List.cons.injEq, List.append_nil, scal, if_true, if_false, ite_true, ite_false, eq_self_iff_true, decide_true, decide_false, Bool.not_true, Bool.not_false, reduceIte, List.nil_append, List.cons_append, reduceCtorEq, false_and, exists_false, false_or, or_false, Int.reduceLT, ral, rmd, rsq, rlu, rdp, rrp, rrt, rtp, rzk, rsp5, Bool.true_or, Bool.false_or, Bool.or_false, Bool.or_true]
      refine Br.d (fun c => absurd c (by decide +kernel)) (fun _ => ?_)
      simp only [and_assoc, rst, rs, re, ra, rq, rx, ro, rl, rl2, rsp, rz, rix, rln, rg, rd, ri, rv, rk, rdd, rwi, at0, at1, at2, at3, upd_at, List.getElem?_cons_zero, List.getElem?_cons_succ, Option.some.injEq, exists_eq_left', exists_eq_left, List.set_cons_zero, List.set_cons_succ, true_and, and_true, HO.lst.injEq, HO.tup.injEq, exists_and_left, exists_eq, exists_eq', Br.t, Br.f, Be.t, Be.f, List.cons.injEq, List.append_nil, scal, if_true, if_false, ite_true, ite_false, eq_self_iff_true, decide_true, decide_false, Bool.not_true, Bool.not_false, reduceIte, List.nil_append, List.cons_append, reduceCtorEq, false_and, exists_false, false_or, or_false, Int.reduceLT, ral, rmd, rsq, rlu, rdp, rrp, rrt, rtp, rzk, rsp5, Bool.true_or, Bool.false_or, Bool.or_false, Bool.or_true]
      refine Br.d (fun c => absurd c (by decide +kernel)) (fun _ => ?_)
      simp only [and_assoc, rst, rs, re, ra, rq, rx, ro, rl, rl2, rsp, rz, rix, rln, rg, rd, ri, rv, rk, rdd, rwi, at0, at1, at2, at3, upd_at, List.getElem?_cons_zero, List.getElem?_cons_succ, Option.some.injEq, exists_eq_left', exists_eq_left, List.set_cons_zero, List.set_cons_succ, true_and, and_true, HO.lst.injEq, HO.tup.injEq, exists_and_left, exists_eq, exists_eq', Br.t, Br.f, Be.t, Be.f, List.cons.injEq, List.append_nil, scal, if_true, if_false, ite_true, ite_false, eq_self_iff_true, decide_true, decide_false, Bool.not_true, Bool.not_false, reduceIte, List.nil_append, List.cons_append, reduceCtorEq, false_and, exists_false, false_or, or_false, Int.reduceLT, ral, rmd, rsq, rlu, rdp, rrp, rrt, rtp, rzk, rsp5, Bool.true_or, Bool.false_or, Bool.or_false, Bool.or_true]
      have bw : b % W < W := Nat.mod_lt _ W1
      rw [show ((b : Int) % (W : Int)) = ((b % W : Nat) : Int) from by push_cast; rfl, show ((W : Int) - ((b % W : Nat) : Int)) = ((W - b % W : Nat) : Int) from by omega, Int.toNat_natCast, Int.toNat_natCast, p2c, p2c]
      refine ⟨by omega, shlu (by omega) (by omega), by omega, by omega, ?_⟩
      show ((u : Int) * ((2 ^ (b % W) : Nat) : Int)) % ((2 ^ W : Nat) : Int) + (u : Int) / ((2 ^ (W - b % W) : Nat) : Int) = (((u * 2 ^ (b % W)) % 2 ^ W + u / 2 ^ (W - b % W) : Nat) : Int)
      rw [Int.natCast_add, Int.natCast_emod, Int.natCast_ediv, Int.natCast_mul]
  · rintro σ H' ⟨v4, v5, v6, rfl, rfl⟩
    subst hr
    rw [List.take_of_length_le (by omega)]
    simp only [and_assoc, rst, rs, re, ra, rq, rx, ro, rl, rl2, rsp, rz, rix, rln, rg, rd, ri, rv, rk, rdd, rwi, at0, at1, at2, at3, upd_at, List.getElem?_cons_zero, List.getElem?_cons_succ, Option.some.injEq, exists_eq_left', exists_eq_left, List.set_cons_zero, List.set_cons_succ, true_and, and_true, HO.lst.injEq, HO.tup.injEq, exists_and_left, exists_eq, exists_eq', Br.t, Br.f, Be.t, Be.f, List.cons.injEq, List.append_nil, scal, if_true, if_false, ite_true, ite_false, eq_self_iff_true, decide_true, decide_false, Bool.not_true, Bool.not_false, reduceIte, List.nil_append, List.cons_append, reduceCtorEq, false_and, exists_false, false_or, or_false, Int.reduceLT, ral, rmd, rsq, rlu, rdp, rrp, rrt, rtp, rzk, rsp5, Bool.true_or, Bool.false_or, Bool.or_false, Bool.or_true]
    exact k
theorem ok__law_state_by (T : Tx K mg w) (c__law_onward : Cal P w K mg base 1 "_law_onward" ["steps", "number", "width"] (sp__law_onward K))  : Cal P w K mg base 2 "_law_state_by" ["m", "seed", "digits", "place"] (sp__law_state_by K) := by
  refine cal_mk T.F__law_state_by T.g__law_state_by sc__law_state_by (len4 _) (fun _ _ _ _ _ _ us hl => match us, hl with | [_, _, _, _], _ => rfl) (fun cdv A outer s H vs Q E hr h => ?_)
  obtain ⟨v0, v1, v2, v3, rfl, h⟩ := h
  have hu := hu_of hr.r
  refine ⟨_, (pss_cons (ps_set (i := 4) sc__law_state_by.nd rfl (Or.inl rfl) (pv 1))
      (pss_cons (ps_for (passes_of rfl) rfl (pi_q (pv 2)) (pg_name (i := 5) sc__law_state_by.nd rfl (Or.inl rfl)) (pss_one (ps_set (i := 4) sc__law_state_by.nd rfl (Or.inl rfl) (pe_op op_add (pe_op op_mulA (pv 4) (pe_op op_shlW pe_int (pe_ix ix_q (pv 0) pe_int (fun _ _ => rfl)))) (pv 5)))))
      (pss_cons (ps_set (i := 4) sc__law_state_by.nd rfl (Or.inl rfl) (pe_op op_add (pe_op op_mulA (pv 4) (pe_op op_shlW pe_int (pe_ix ix_q (pv 0) pe_int (fun _ _ => rfl)))) (pv 3)))
      (pss_one (ps_ret (pe_cal c__law_onward hr (by decide) passL rfl (pa_cons (pe_ix ix_q (pv 0) pe_int (fun _ _ => rfl)) (pa_cons (pv 4) (pa_cons (pe_op op_add (pe_op op_add (pe_ix ix_q (pv 0) pe_int (fun _ _ => rfl)) (pe_op op_mulA (pe_ix ix_q (pv 0) pe_int (fun _ _ => rfl)) (pe_ix ix_q (pv 0) pe_int (fun _ _ => rfl)))) (pe_ix ix_q (pv 0) pe_int (fun _ _ => rfl))) pa_nil))))))))), ?_⟩
  obtain ⟨m, ss, sd, a, ds, q, tm, mo, rfl, rfl, hq, dl, rfl, pl, k⟩ := h
  obtain ⟨tp, tq, xs, rfl, h1, h2, al, hl, ok⟩ := id tm
  simp only [and_assoc, rst, rs, re, ra, rq, rx, ro, rl, rl2, rsp, rz, rix, rln, rg, rd, ri, rv, rk, rdd, rwi, at0, at1, at2, at3, upd_at, List.getElem?_cons_zero, List.getElem?_cons_succ, Option.some.injEq, exists_eq_left', exists_eq_left, List.set_cons_zero, List.set_cons_succ, true_and, and_true, HO.lst.injEq, HO.tup.injEq, exists_and_left, exists_eq, exists_eq', Br.t, Br.f, Be.t, Be.f, List.cons.injEq, List.append_nil, scal, if_true, if_false, ite_true, ite_false, eq_self_iff_true, decide_true, decide_false, Bool.not_true, Bool.not_false, reduceIte, List.nil_append, List.cons_append, reduceCtorEq, false_and, exists_false, false_or, or_false, Int.reduceLT, ral, rmd, rsq, rlu, rdp, rrp, rrt, rtp, rzk, rsp5, Bool.true_or, Bool.false_or, Bool.or_false, Bool.or_true]
  refine ⟨_, hq, _, rfl, FI.seq (o := .lst (ds.map fun (d : Nat) => V.int (d : Nat))) rfl (fun i σ H' => ∃ v5, H' = H ∧ σ = [some (.ref tp), some (.int (sd : Nat)), some (.ref q), some (.int (a : Nat)), some (.int (pk (2 ^ m.pb) sd (ds.take i) : Nat)), v5]) ⟨_, rfl, rfl⟩ (fun i σ H' _ ⟨_, e, _⟩ => by rw [e]; exact hq) ?_ ?_⟩
  · rintro i x σ H' hx ⟨v5, rfl, rfl⟩
    rw [List.getElem?_map] at hx
    obtain ⟨d, hd, rfl⟩ := Option.map_eq_some_iff.mp hx
    simp only [and_assoc, rst, rs, re, ra, rq, rx, ro, rl, rl2, rsp, rz, rix, rln, rg, rd, ri, rv, rk, rdd, rwi, at0, at1, at2, at3, upd_at, List.getElem?_cons_zero, List.getElem?_cons_succ, Option.some.injEq, exists_eq_left', exists_eq_left, List.set_cons_zero, List.set_cons_succ, true_and, and_true, HO.lst.injEq, HO.tup.injEq, exists_and_left, exists_eq, exists_eq', Br.t, Br.f, Be.t, Be.f, List.cons.injEq, List.append_nil, scal, if_true, if_false, ite_true, ite_false, eq_self_iff_true, decide_true, decide_false, Bool.not_true, Bool.not_false, reduceIte, List.nil_append, List.cons_append, reduceCtorEq, false_and, exists_false, false_or, or_false, Int.reduceLT, ral, rmd, rsq, rlu, rdp, rrp, rrt, rtp, rzk, rsp5, Bool.true_or, Bool.false_or, Bool.or_false, Bool.or_true]
    refine ⟨_, h1, _, rfl, _, rfl, _, rfl, shl1 (by have := mo.2.2.1; omega), ?_⟩
    have pb : 2 ^ m.pb ≤ 2 ^ 5 := Nat.pow_le_pow_right (by decide) mo.2.2.1
    rw [one_shl']
    have pi : (0 : Int) ≤ ((2 ^ m.pb : Nat) : Int) ∧ ((2 ^ m.pb : Nat) : Int) ≤ 32 := ⟨Int.natCast_nonneg _, Int.ofNat_le.mpr pb⟩
    refine ⟨small_mul (by omega) (by omega), ?_⟩
    rw [take_snoc hd, pk_snoc]
    push_cast
    rfl
  · rintro σ H' ⟨v5, rfl, rfl⟩
    rw [List.length_map, List.take_length]
    simp only [and_assoc, rst, rs, re, ra, rq, rx, ro, rl, rl2, rsp, rz, rix, rln, rg, rd, ri, rv, rk, rdd, rwi, at0, at1, at2, at3, upd_at, List.getElem?_cons_zero, List.getElem?_cons_succ, Option.some.injEq, exists_eq_left', exists_eq_left, List.set_cons_zero, List.set_cons_succ, true_and, and_true, HO.lst.injEq, HO.tup.injEq, exists_and_left, exists_eq, exists_eq', Br.t, Br.f, Be.t, Be.f, List.cons.injEq, List.append_nil, scal, if_true, if_false, ite_true, ite_false, eq_self_iff_true, decide_true, decide_false, Bool.not_true, Bool.not_false, reduceIte, List.nil_append, List.cons_append, reduceCtorEq, false_and, exists_false, false_or, or_false, Int.reduceLT, ral, rmd, rsq, rlu, rdp, rrp, rrt, rtp, rzk, rsp5, Bool.true_or, Bool.false_or, Bool.or_false, Bool.or_true]
    refine ⟨_, h1, _, rfl, _, rfl, _, rfl, shl1 (by have := mo.2.2.2.2.2.1; omega), ?_⟩
    have lb : 2 ^ m.lb ≤ 2 ^ 16 := Nat.pow_le_pow_right (by decide) mo.2.2.2.2.2.1
    have li : (0 : Int) ≤ ((2 ^ m.lb : Nat) : Int) ∧ ((2 ^ m.lb : Nat) : Int) ≤ 2 ^ 16 := ⟨Int.natCast_nonneg _, Int.ofNat_le.mpr lb⟩
    rw [one_shl']
    refine ⟨small_mul (by omega) (by omega), _, h1, _, rfl, _, rfl, _, h1, _, rfl, _, rfl, _, h1, _, rfl, _, rfl, _, h1, _, rfl, _, rfl, ?_⟩
    refine ⟨_, rfl, _, rfl, small_mul' (by have := mo.2.2.1; omega) (by have := mo.2.2.1; omega), _, rfl, _, h1, _, rfl, _, rfl, _, rfl, ?_⟩
    refine ⟨_, _, _, rfl, tq, ss, xs, pk (2 ^ m.pb) sd ds * 2 ^ m.lb + a, m.wd, rfl, h2, al, hl, ok, by push_cast; rfl, pl, by unfold Mc.wd; push_cast; rfl, by have := mo.2.2.2.2.2.2.1; omega, mo.2.2.2.2.2.2.2, k⟩
theorem ok__law_state (T : Tx K mg w) (c__law_state_by : Cal P w K mg base 2 "_law_state_by" ["m", "seed", "digits", "place"] (sp__law_state_by K))  : Cal P w K mg base 3 "_law_state" ["m", "seed", "path", "place"] (sp__law_state K) := by
  refine cal_mk T.F__law_state T.g__law_state sc__law_state (len4 _) (fun _ _ _ _ _ _ us hl => match us, hl with | [_, _, _, _], _ => rfl) (fun cdv A outer s H vs Q E hr h => ?_)
  obtain ⟨v0, v1, v2, v3, rfl, h⟩ := h
  have hu := hu_of hr.r
  refine ⟨_, (pss_cons (ps_set (i := 4) sc__law_state.nd rfl (Or.inl rfl) (pe_op op_catAl (pe_lc (own := [("child", 5)]) (g := (gName 5)) rfl sc__law_state.nd (pi_q (pv 2)) (blkOk_by (N := nm__law_state) (sc := defScope s__law_state) (by decide +kernel)) (fun _ _ _ _ _ => (pg_name (i := 5) sc__law_state.nd rfl (Or.inl rfl))) (fun _ _ _ _ _ => pts_nil) (fun _ _ _ _ _ => (pe_op op_add (pv 5) pe_int))) (pe_op op_repAl (pe_lstA (pa_cons pe_int pa_nil)) (pe_op op_sub (pe_ix ix_q (pv 0) pe_int (fun _ _ => rfl)) (pe_callB len_q (by rfl) T.n_len (by decide +kernel) (pa_cons (pv 2) pa_nil))))))
      (pss_one (ps_ret (pe_cal c__law_state_by hr (by decide) passL rfl (pa_cons (pv 0) (pa_cons (pv 1) (pa_cons (pv 4) (pa_cons (pv 3) pa_nil)))))))), ?_⟩
  obtain ⟨m, ss, sd, a, cs, q, tm, mo, rfl, rfl, hq, rfl, hi, k⟩ := h
  obtain ⟨tp, tq, xs, rfl, h1, h2, al, hl, ok⟩ := id tm
  simp only [and_assoc, rst, rs, re, ra, rq, rx, ro, rl, rl2, rsp, rz, rix, rln, rg, rd, ri, rv, rk, rdd, rwi, at0, at1, at2, at3, upd_at, List.getElem?_cons_zero, List.getElem?_cons_succ, Option.some.injEq, exists_eq_left', exists_eq_left, List.set_cons_zero, List.set_cons_succ, true_and, and_true, HO.lst.injEq, HO.tup.injEq, exists_and_left, exists_eq, exists_eq', Br.t, Br.f, Be.t, Be.f, List.cons.injEq, List.append_nil, scal, if_true, if_false, ite_true, ite_false, eq_self_iff_true, decide_true, decide_false, Bool.not_true, Bool.not_false, reduceIte, List.nil_append, List.cons_append, reduceCtorEq, false_and, exists_false, false_or, or_false, Int.reduceLT, ral, rmd, rsq, rlu, rdp, rrp, rrt, rtp, rzk, rsp5, Bool.true_or, Bool.false_or, Bool.or_false, Bool.or_true]
  refine ⟨_, hq, _, rfl, ?_⟩
  obtain ⟨⟨s0, s1⟩, pl, pc, a0, a1⟩ := id hi
  have dp6 := mo.2.2.2.1
  refine LC.seq (o := .tup (cs.map V.int)) rfl (fun D i H' => Same H H' ∧ H' D = some (.lst (((cs.take i).map (· + 1)).map V.int))) (fun D hD => ⟨Same.new hD, upd_same⟩) (fun D i H' _ _ h => h.1 _ _ hq) ?_ ?_
  · rintro D i x H' hD hx ⟨s1, hd⟩
    rw [List.getElem?_map] at hx
    obtain ⟨z, hz, rfl⟩ := Option.map_eq_some_iff.mp hx
    simp only [and_assoc, rst, rs, re, ra, rq, rx, ro, rl, rl2, rsp, rz, rix, rln, rg, rd, ri, rv, rk, rdd, rwi, at0, at1, at2, at3, upd_at, List.getElem?_cons_zero, List.getElem?_cons_succ, Option.some.injEq, exists_eq_left', exists_eq_left, List.set_cons_zero, List.set_cons_succ, true_and, and_true, HO.lst.injEq, HO.tup.injEq, exists_and_left, exists_eq, exists_eq', Br.t, Br.f, Be.t, Be.f, List.cons.injEq, List.append_nil, scal, if_true, if_false, ite_true, ite_false, eq_self_iff_true, decide_true, decide_false, Bool.not_true, Bool.not_false, reduceIte, List.nil_append, List.cons_append, reduceCtorEq, false_and, exists_false, false_or, or_false, Int.reduceLT, ral, rmd, rsq, rlu, rdp, rrp, rrt, rtp, rzk, rsp5, Bool.true_or, Bool.false_or, Bool.or_false, Bool.or_true]
    exact ⟨_, hd, by rw [List.length_map, List.length_map, List.length_take, sizeLine_eq]; omega, Same.mut s1 hD, by rw [take_snoc hz]; simp⟩
  · rintro D H' hD ⟨s1, hd⟩
    rw [List.length_map, List.take_length] at hd
    simp only [and_assoc, rst, rs, re, ra, rq, rx, ro, rl, rl2, rsp, rz, rix, rln, rg, rd, ri, rv, rk, rdd, rwi, at0, at1, at2, at3, upd_at, List.getElem?_cons_zero, List.getElem?_cons_succ, Option.some.injEq, exists_eq_left', exists_eq_left, List.set_cons_zero, List.set_cons_succ, true_and, and_true, HO.lst.injEq, HO.tup.injEq, exists_and_left, exists_eq, exists_eq', Br.t, Br.f, Be.t, Be.f, List.cons.injEq, List.append_nil, scal, if_true, if_false, ite_true, ite_false, eq_self_iff_true, decide_true, decide_false, Bool.not_true, Bool.not_false, reduceIte, List.nil_append, List.cons_append, reduceCtorEq, false_and, exists_false, false_or, or_false, Int.reduceLT, ral, rmd, rsq, rlu, rdp, rrp, rrt, rtp, rzk, rsp5, Bool.true_or, Bool.false_or, Bool.or_false, Bool.or_true]
    intro p1 H2 a1'
    have S2 := Same.trans s1 a1'.s
    refine ⟨_, S2 _ _ h1, _, rfl, _, rfl, _, S2 _ _ hq, _, rfl, _, rfl, _, a1'.e, ?_⟩
    rw [List.length_map]
    refine ⟨by omega, by omega, by rw [sizeLine_eq]; simp; omega, ?_⟩
    have er : (List.replicate ((m.dp : Nat) - (cs.length : Nat) : Int).toNat [V.int 0]).flatten = (List.replicate (m.dp - cs.length) (0 : Int)).map V.int := by
      rw [List.flatten_replicate_singleton, List.map_replicate]
      congr 1
      omega
    rw [er]
    intro p3 H3 a3
    refine ⟨_, (a3.s _ _ (a1'.s _ _ hd)), _, a3.e, by rw [List.length_map, List.length_map, List.length_map, List.length_replicate, sizeLine_eq]; omega, ?_⟩
    intro d1 H4 a4
    have S4 := Same.trans S2 (Same.trans a3.s a4.s)
    have hd1 : H4 d1 = some (.lst ((dN m.dp cs).map fun (d : Nat) => V.int (d : Nat))) := by
      rw [a4.e, ← List.map_append, dN, List.map_append, List.map_append, List.map_map, List.map_map, List.map_replicate, List.map_replicate]
      congr 3
      refine List.map_congr_left fun c hc => ?_
      have := pc c hc
      show V.int (c + 1) = V.int ((c.toNat + 1 : Nat) : Int)
      congr 1
      omega
    obtain ⟨sn, rfl⟩ := Int.eq_ofNat_of_zero_le s0
    obtain ⟨an, rfl⟩ := Int.eq_ofNat_of_zero_le a0
    have pk2 := (pack_lt mo hi).2
    exact ⟨_, _, _, _, rfl, m, ss, sn, an, dN m.dp cs, d1, tm.same S4, mo, rfl, rfl, hd1, by rw [dN_len pl]; exact dp6, rfl, pk2, k H4 S4⟩
theorem ok__law_numbers (T : Tx K mg w) (c__law_state : Cal P w K mg base 3 "_law_state" ["m", "seed", "path", "place"] (sp__law_state K))  : Cal P w K mg base 4 "_law_numbers" ["m", "stretch"] (sp__law_numbers K) := by
  refine cal_mk T.F__law_numbers T.g__law_numbers sc__law_numbers (len2 _) (fun _ _ _ _ _ _ us hl => match us, hl with | [_, _], _ => rfl) (fun cdv A outer s H vs Q E hr h => ?_)
  obtain ⟨v0, v1, rfl, h⟩ := h
  have hu := hu_of hr.r
  refine ⟨_, (pss_cons (ps_asg (pv 1) (pg_tupQ rfl (pgs_cons (pg_name (i := 2) sc__law_numbers.nd rfl (Or.inr rfl)) (pgs_cons (pg_name (i := 3) sc__law_numbers.nd rfl (Or.inr rfl)) (pgs_cons (pg_name (i := 4) sc__law_numbers.nd rfl (Or.inl rfl)) (pgs_cons (pg_name (i := 5) sc__law_numbers.nd rfl (Or.inl rfl)) pgs_nil)))) (gname_len (gname_len (gname_len (gname_len (fun _ _ _ _ h => gnil_len h)))))))
      (pss_one (ps_ret (pe_lc (own := [("at", 6)]) (g := (gName 6)) rfl sc__law_numbers.nd (pi_range2 (by rfl) T.n_range (pa_cons (pv 4) (pa_cons (pe_op op_add (pv 4) (pv 5)) pa_nil))) (blkOk_by (N := nm__law_numbers) (sc := defScope s__law_numbers) (by decide +kernel)) (fun _ _ _ _ _ => (pg_name (i := 6) sc__law_numbers.nd rfl (Or.inl rfl))) (fun _ _ _ _ _ => pts_nil) (fun _ _ _ _ _ => (pe_cal c__law_state hr (by decide) passL rfl (pa_cons (pv 0) (pa_cons (pv 2) (pa_cons (pv 3) (pa_cons (pv 6) pa_nil)))))))))), ?_⟩
  obtain ⟨m, ss, s, tm, mo, ts, so, k⟩ := h
  obtain ⟨ta, tb, rfl, hta, htb⟩ := id ts
  obtain ⟨tp, tq, xs, rfl, h1, h2, al, hl, ok⟩ := id tm
  simp only [and_assoc, rst, rs, re, ra, rq, rx, ro, rl, rl2, rsp, rz, rix, rln, rg, rd, ri, rv, rk, rdd, rwi, at0, at1, at2, at3, upd_at, List.getElem?_cons_zero, List.getElem?_cons_succ, Option.some.injEq, exists_eq_left', exists_eq_left, List.set_cons_zero, List.set_cons_succ, true_and, and_true, HO.lst.injEq, HO.tup.injEq, exists_and_left, exists_eq, exists_eq', Br.t, Br.f, Be.t, Be.f, List.cons.injEq, List.append_nil, scal, if_true, if_false, ite_true, ite_false, eq_self_iff_true, decide_true, decide_false, Bool.not_true, Bool.not_false, reduceIte, List.nil_append, List.cons_append, reduceCtorEq, false_and, exists_false, false_or, or_false, Int.reduceLT, ral, rmd, rsq, rlu, rdp, rrp, rrt, rtp, rzk, rsp5, Bool.true_or, Bool.false_or, Bool.or_false, Bool.or_true]
  refine ⟨_, hta, rfl, _, rfl, _, _, rfl, _, _, rfl, _, _, rfl, _, _, rfl, rfl, _, rfl, _, rfl, _, rfl, ?_⟩
  have lb : m.len ≤ 2 ^ 16 := by
    have : ∀ k : Nat, k ≤ 16 → (2 : Int) ^ k ≤ 2 ^ 16 := by decide +kernel
    exact this m.lb mo.2.2.2.2.2.1
  obtain ⟨sd, pl, pc, ⟨p0, p1⟩, n0, n1⟩ := id so
  refine ⟨by omega, by omega, by omega, by omega, ?_⟩
  have en : (s.place + s.many - s.place).toNat = s.many.toNat := by congr 1; omega
  rw [en]
  refine LC.rng (fun D i H' => Same H H' ∧ H' D = some (.lst (((List.range i).map fun (i : Nat) => stt m ss s.seed s.path (s.place + (i : Nat))).map fun (n : Nat) => V.int (n : Nat)))) (fun D hD => ⟨Same.new hD, upd_same⟩) ?_ ?_
  · rintro D i H' hD hi ⟨s1, hd⟩
    simp only [and_assoc, rst, rs, re, ra, rq, rx, ro, rl, rl2, rsp, rz, rix, rln, rg, rd, ri, rv, rk, rdd, rwi, at0, at1, at2, at3, upd_at, List.getElem?_cons_zero, List.getElem?_cons_succ, Option.some.injEq, exists_eq_left', exists_eq_left, List.set_cons_zero, List.set_cons_succ, true_and, and_true, HO.lst.injEq, HO.tup.injEq, exists_and_left, exists_eq, exists_eq', Br.t, Br.f, Be.t, Be.f, List.cons.injEq, List.append_nil, scal, if_true, if_false, ite_true, ite_false, eq_self_iff_true, decide_true, decide_false, Bool.not_true, Bool.not_false, reduceIte, List.nil_append, List.cons_append, reduceCtorEq, false_and, exists_false, false_or, or_false, Int.reduceLT, ral, rmd, rsq, rlu, rdp, rrp, rrt, rtp, rzk, rsp5, Bool.true_or, Bool.false_or, Bool.or_false, Bool.or_true]
    refine ⟨_, _, _, _, rfl, m, ss, s.seed, s.place + (i : Nat), s.path, tb, tm.same s1, mo, rfl, rfl, s1 _ _ htb, rfl, ⟨sd, pl, pc, by omega, by omega⟩, fun H2 s2 => ?_⟩
    exact ⟨_, s2 _ _ hd, by rw [List.length_map, List.length_map, List.length_range, sizeLine_eq]; omega, Same.mut (Same.trans s1 s2) hD, by rw [List.range_succ, List.map_append, List.map_append]; rfl⟩
  · rintro D H' hD ⟨s1, hd⟩
    exact k D H' s1 hD hd
end
end Law

-- RDX ral, rmd, rsq, rlu, rdp, rrp, rrt, rtp, rzk, rsp5, Bool.true_or, Bool.false_or, Bool.or_false, Bool.or_true
namespace Law
open PySem PySem.Spec PyProof.Rows L2 Sw
section
variable {P : Program} {w : World} {K : Fg} {mg : Str → Option Value} {base : Heap}
theorem ts_fun {H : Hp} {s t : Sx} {v : V} (h1 : Ts H s v) (h2 : Ts H t v) : s = t := by
  obtain ⟨x1, x2, x3, x4⟩ := s
  obtain ⟨y1, y2, y3, y4⟩ := t
  obtain ⟨p, q, rfl, a1, b1⟩ := h1
  obtain ⟨p', q', e, a2, b2⟩ := h2
  cases e
  rw [a1] at a2
  cases a2
  rw [b1] at b2
  have e2 : x2 = y2 := (List.map_inj_right (f := V.int) (fun x y h => by cases h; rfl)).mp (HO.tup.inj (Option.some.inj b2))
  cases e2
  rfl
theorem mw_ok (s t : Sx) : PyData.strOk (mw s t) = true := by
  unfold mw
  split
  · decide +kernel
  · split
    · decide +kernel
    · split <;> decide +kernel
theorem mn_len (s t : Sx) : (mn s t).length ≤ 2 := by
  unfold mn
  split
  · simp
  · split
    · simp
    · split <;> simp
theorem eqs_self : ∀ ns : List Int, eqs (ns.map V.int) ns = true
  | [] => rfl
  | n :: r => by
    rw [List.map_cons, eqs, eqs_self r]
    simp
theorem same_self {K : Fg} {H : Hp} {p : Addr} {w : Str} {ns : List Int} (h : H p = some (.tup (.str w :: ns.map V.int))) (so : PyData.strOk w = true) : SameR K H (.ref p) w ns true := by
  have r := SameR.ok (K := K) (w := w) h (by rw [List.length_map]) ⟨_, rfl⟩ (str_cd so) (fun y hy => by
    obtain ⟨z, _, rfl⟩ := List.mem_map.mp hy
    exact ⟨⟨_, rfl⟩, _, int_cd z⟩)
  rw [eqs_self, show PyData.eqv (.str w) (.str w) = true from by simp [PyData.eqv]] at r
  exact r
theorem meeting_call {K : Fg} {H : Hp} {m : Mc} {mac x y : V} {s t : Sx} {Q : VK} {E : XK} (om : ObM K H m mac) (mo : m.ok) (hs : Ts H s x) (so : s.ok m) (ht : Ts H t y) (to : t.ok m) (q : ∀ p H', Same H H' → H' p = some (.tup (mrow s t)) → Q (.ref p) H') :
    sp_meeting K [mac, x, y] H Q E := ⟨_, _, _, rfl, m, om, mo, true, true, ts_part hs so (by have := mo.2.2.2.1; omega), ts_part ht to (by have := mo.2.2.2.1; omega), nofun, nofun, fun _ _ s' t' h1 _ h2 _ => by
    rw [ts_fun h1 hs, ts_fun h2 ht]
    exact q⟩
/-! numbers that stand in both -/
theorem in_of {m : Mc} {s : Sx} (so : s.ok m) {i : Nat} (h : i < s.many.toNat) : In m s.seed s.path (s.place + (i : Nat)) := by
  obtain ⟨sd, pl, pc, ⟨p0, p1⟩, n0, n1⟩ := so
  exact ⟨sd, pl, pc, by omega, by omega⟩
theorem mem_nums {m : Mc} (mo : m.ok) {ss : List (Sk × Int)} (ok : ∀ s ∈ ss, stOk s.1 s.2) {s t : Sx} (so : s.ok m) (to : t.ok m) {i : Nat} (hi : i < s.many.toNat) :
    stt m ss s.seed s.path (s.place + (i : Nat)) ∈ nums m ss t ↔ (s.seed = t.seed ∧ s.path = t.path ∧ t.place ≤ s.place + (i : Nat) ∧ s.place + (i : Nat) < t.place + t.many) := by
  constructor
  · intro h
    obtain ⟨j, hj, e⟩ := List.mem_map.mp h
    have hj2 := List.mem_range.mp hj
    obtain ⟨e1, e2, e3⟩ := stt_inj mo ok (in_of to hj2) (in_of so hi) e
    exact ⟨e1.symm, e2.symm, by omega, by omega⟩
  · rintro ⟨e1, e2, h1, h2⟩
    refine List.mem_map.mpr ⟨(s.place + (i : Nat) - t.place).toNat, List.mem_range.mpr (by omega), ?_⟩
    rw [e1, e2]
    congr 1
    omega
theorem in_nats (z : Nat) : ∀ l : List Nat, inV (.int (z : Nat)) (l.map fun (n : Nat) => V.int (n : Nat)) = decide (z ∈ l)
  | [] => rfl
  | y :: r => by
    have ih := in_nats z r
    show (eqV (.int (y : Nat)) (.int (z : Nat)) || inV (.int (z : Nat)) (r.map fun (n : Nat) => V.int (n : Nat))) = _
    rw [ih]
    show (((y : Int) == (z : Int)) || decide (z ∈ r)) = decide (z ∈ y :: r)
    by_cases h : z = y
    · subst h
      simp
    · have h2 : ((y : Int) == (z : Int)) = false := by
        simp only [beq_eq_false_iff_ne]
        omega
      rw [h2, Bool.false_or]
      simp [h]
theorem flat_nats (l : List Nat) : (l.map fun (n : Nat) => V.int (n : Nat)).all flatV = true := by
  rw [List.all_eq_true]
  intro x hx
  obtain ⟨n, _, rfl⟩ := List.mem_map.mp hx
  rfl
theorem ints_nats (l : List Nat) : (l.map fun (n : Nat) => V.int (n : Nat)) = (l.map fun (n : Nat) => (n : Int)).map V.int := by
  rw [List.map_map]
  rfl
def bothL (m : Mc) (ss : List (Sk × Int)) (s t : Sx) : List Nat := (nums m ss s).filter fun n => decide (n ∈ nums m ss t)
theorem both_filter {m : Mc} (mo : m.ok) {ss : List (Sk × Int)} (ok : ∀ s ∈ ss, stOk s.1 s.2) {s t : Sx} (so : s.ok m) (to : t.ok m) :
    bothL m ss s t = ((List.range s.many.toNat).filter fun (i : Nat) => decide (s.seed = t.seed ∧ s.path = t.path ∧ t.place ≤ s.place + (i : Nat) ∧ s.place + (i : Nat) < t.place + t.many)).map fun (i : Nat) => stt m ss s.seed s.path (s.place + (i : Nat)) := by
  rw [bothL, show nums m ss s = (List.range s.many.toNat).map (fun (i : Nat) => stt m ss s.seed s.path (s.place + (i : Nat))) from rfl, List.filter_map]
  congr 1
  refine List.filter_congr fun i hi => ?_
  have h := mem_nums mo ok so to (List.mem_range.mp hi)
  show decide (stt m ss s.seed s.path (s.place + (i : Nat)) ∈ nums m ss t) = _
  exact decide_eq_decide.mpr h
theorem both_none {m : Mc} (mo : m.ok) {ss : List (Sk × Int)} (ok : ∀ s ∈ ss, stOk s.1 s.2) {s t : Sx} (so : s.ok m) (to : t.ok m) (h : mw s t ≠ "meets") : bothL m ss s t = [] := by
  rw [both_filter mo ok so to, List.map_eq_nil_iff, List.filter_eq_nil_iff]
  intro i hi c
  obtain ⟨e1, e2, h1, h2⟩ := of_decide_eq_true c
  have hi2 := List.mem_range.mp hi
  apply h
  rw [mw, if_neg (fun k => k e1), if_neg (fun k => k e2), if_neg (by unfold mbehind mfirst; omega)]
theorem both_some {m : Mc} (mo : m.ok) {ss : List (Sk × Int)} (ok : ∀ s ∈ ss, stOk s.1 s.2) {s t : Sx} (so : s.ok m) (to : t.ok m) (h : mw s t = "meets") :
    (s.seed = t.seed ∧ s.path = t.path ∧ mfirst s t < mbehind s t) ∧ bothL m ss s t = nums m ss ⟨s.seed, s.path, mfirst s t, mbehind s t - mfirst s t⟩ := by
  have e1 : s.seed = t.seed := by
    apply Classical.byContradiction
    intro c
    rw [mw, if_pos c] at h
    exact absurd h (by decide +kernel)
  have e2 : s.path = t.path := by
    apply Classical.byContradiction
    intro c
    rw [mw, if_neg (fun k => k e1), if_pos c] at h
    exact absurd h (by decide +kernel)
  have e3 : mfirst s t < mbehind s t := by
    apply Classical.byContradiction
    intro c
    rw [mw, if_neg (fun k => k e1), if_neg (fun k => k e2), if_pos (by omega)] at h
    exact absurd h (by decide +kernel)
  refine ⟨⟨e1, e2, e3⟩, ?_⟩
  rw [both_filter mo ok so to]
  obtain ⟨_, _, _, ⟨s0, s1⟩, n0, n1⟩ := so
  obtain ⟨_, _, _, ⟨t0, t1⟩, u0, u1⟩ := to
  have key : ∀ n : Nat, ((List.range n).filter fun (i : Nat) => decide (s.seed = t.seed ∧ s.path = t.path ∧ t.place ≤ s.place + (i : Nat) ∧ s.place + (i : Nat) < t.place + t.many)).map (fun (i : Nat) => s.place + (i : Nat)) = meets s.place t.place t.many n := by
    intro n
    induction n with
    | zero =>
      rw [meets, show (min (s.place + ((0 : Nat) : Int)) (t.place + t.many) - max s.place t.place).toNat = 0 from by omega]
      rfl
    | succ n ih =>
      rw [List.range_succ, List.filter_append, List.map_append, ih]
      by_cases c : t.place ≤ s.place + (n : Nat) ∧ s.place + (n : Nat) < t.place + t.many
      · rw [meets_yes c.1 c.2]
        congr 1
        simp [e1, e2, c.1, c.2]
      · have z : ([n].filter fun (i : Nat) => decide (s.seed = t.seed ∧ s.path = t.path ∧ t.place ≤ s.place + (i : Nat) ∧ s.place + (i : Nat) < t.place + t.many)) = [] := by
          rw [List.filter_eq_nil_iff]
          intro a ha
          rw [List.mem_singleton.mp ha]
          intro z
          exact c (of_decide_eq_true z).2.2
        rw [meets_no c, z]
        simp
  have k2 := congrArg (List.map fun z => stt m ss s.seed s.path z) (key s.many.toNat)
  rw [List.map_map] at k2
  refine Eq.trans k2 ?_
  rw [meets, nums, List.map_map]
  have e4 : (min (s.place + ((s.many.toNat : Nat) : Int)) (t.place + t.many) - max s.place t.place).toNat = (mbehind s t - mfirst s t).toNat := by
    unfold mbehind mfirst
    omega
  rw [e4]
  rfl
theorem ok__law_told_right (T : Tx K mg w) (c_meeting : Cal P w K mg base 6 "meeting" ["machine", "one", "other"] (sp_meeting K)) (c__law_same : Cal P w K mg base 7 "_law_same" ["found", "due"] (sp__law_same K)) (c__law_meeting : Cal P w K mg base 1 "_law_meeting" ["m", "one", "other"] (sp__law_meeting K)) (c__law_numbers : Cal P w K mg base 4 "_law_numbers" ["m", "stretch"] (sp__law_numbers K))  : Cal P w K mg base 8 "_law_told_right" ["m", "machine", "one", "other"] (sp__law_told_right K) := by
  refine cal_mk T.F__law_told_right T.g__law_told_right sc__law_told_right (len4 _) (fun _ _ _ _ _ _ us hl => match us, hl with | [_, _, _, _], _ => rfl) (fun cdv A outer s H vs Q E hr h => ?_)
  obtain ⟨v0, v1, v2, v3, rfl, h⟩ := h
  have hu := hu_of hr.r
  refine ⟨_, (pss_cons (ps_set (i := 4) sc__law_told_right.nd rfl (Or.inl rfl) (pe_cal c_meeting hr (by decide) passL rfl (pa_cons (pv 1) (pa_cons (pv 2) (pa_cons (pv 3) pa_nil)))))
      (pss_cons (ps_if (pt_not (pt_val (pe_cal c__law_same hr (by decide) passL rfl (pa_cons (pv 4) (pa_cons (pe_cal c__law_meeting hr (by decide) passL rfl (pa_cons (pv 0) (pa_cons (pv 2) (pa_cons (pv 3) pa_nil)))) pa_nil))))) (pss_one (ps_ret pe_bl)) pss_nil)
      (pss_cons (ps_set (i := 5) sc__law_told_right.nd rfl (Or.inl rfl) (pe_cal c__law_numbers hr (by decide) passL rfl (pa_cons (pv 0) (pa_cons (pv 2) pa_nil))))
      (pss_cons (ps_set (i := 6) sc__law_told_right.nd rfl (Or.inr rfl) (pe_cal c__law_numbers hr (by decide) passL rfl (pa_cons (pv 0) (pa_cons (pv 3) pa_nil))))
      (pss_cons (ps_setLc (i := 7) (own := [("number", 8)]) (g := (gName 8)) rfl sc__law_told_right.nd rfl rfl (sw_true rfl rfl rfl (by decide +kernel)) (pi_q (pv 5)) (blkOk_by (N := nm__law_told_right) (sc := defScope s__law_told_right) (by decide +kernel)) (fun _ _ _ _ _ => (pg_name (i := 8) sc__law_told_right.nd rfl (Or.inl rfl))) (fun _ _ _ _ _ => (pts_one (pt_cmpR (show OpR _ (compareOp .In) (rIn K false) from op_in_seq) (pv 8) (pv 6) rfl))) (fun _ _ _ _ _ => (pv 8)))
      (pss_cons (ps_if (pt_cmpR op_ne (pe_ix ix_q (pv 4) pe_int (fun _ _ => rfl)) pe_str (nomark _)) (pss_one (ps_ret (pe_cmpR (op_eqA hr.units) (pv 7) (pe_lstA pa_nil) (nomark _)))) pss_nil)
      (pss_one (ps_ret (pe_cmpR (op_eqA hr.units) (pv 7) (pe_cal c__law_numbers hr (by decide) passL rfl (pa_cons (pv 0) (pa_cons (pe_tupA (pa_cons (pe_ix ix_q (pv 2) pe_int (fun _ _ => rfl)) (pa_cons (pe_ix ix_q (pv 2) pe_int (fun _ _ => rfl)) (pa_cons (pe_ix ix_q (pv 4) pe_int (fun _ _ => rfl)) (pa_cons (pe_ix ix_q (pv 4) pe_int (fun _ _ => rfl)) pa_nil))))) pa_nil))) (nomark _)))))))))), ?_⟩
  obtain ⟨m, ss, s, t, tm, mo, om, ts1, ok1, ts2, ok2, k⟩ := h
  refine seqI fun rr hr => ?_
  simp only [and_assoc, rst, rs, re, ra, rq, rx, ro, rl, rl2, rsp, rz, rix, rln, rg, rd, ri, rv, rk, rdd, rwi, at0, at1, at2, at3, upd_at, List.getElem?_cons_zero, List.getElem?_cons_succ, Option.some.injEq, exists_eq_left', exists_eq_left, List.set_cons_zero, List.set_cons_succ, true_and, and_true, HO.lst.injEq, HO.tup.injEq, exists_and_left, exists_eq, exists_eq', Br.t, Br.f, Be.t, Be.f, List.cons.injEq, List.append_nil, scal, if_true, if_false, ite_true, ite_false, eq_self_iff_true, decide_true, decide_false, Bool.not_true, Bool.not_false, reduceIte, List.nil_append, List.cons_append, reduceCtorEq, false_and, exists_false, false_or, or_false, Int.reduceLT, ral, rmd, rsq, rlu, rdp, rrp, rrt, rtp, rzk, rsp5, Bool.true_or, Bool.false_or, Bool.or_false, Bool.or_true]
  refine meeting_call om mo ts1 ok1 ts2 ok2 fun pt H1 s1 ht => ?_
  subst hr
  refine seqI fun rr hr => ?_
  simp only [and_assoc, rst, rs, re, ra, rq, rx, ro, rl, rl2, rsp, rz, rix, rln, rg, rd, ri, rv, rk, rdd, rwi, at0, at1, at2, at3, upd_at, List.getElem?_cons_zero, List.getElem?_cons_succ, Option.some.injEq, exists_eq_left', exists_eq_left, List.set_cons_zero, List.set_cons_succ, true_and, and_true, HO.lst.injEq, HO.tup.injEq, exists_and_left, exists_eq, exists_eq', Br.t, Br.f, Be.t, Be.f, List.cons.injEq, List.append_nil, scal, if_true, if_false, ite_true, ite_false, eq_self_iff_true, decide_true, decide_false, Bool.not_true, Bool.not_false, reduceIte, List.nil_append, List.cons_append, reduceCtorEq, false_and, exists_false, false_or, or_false, Int.reduceLT, ral, rmd, rsq, rlu, rdp, rrp, rrt, rtp, rzk, rsp5, Bool.true_or, Bool.false_or, Bool.or_false, Bool.or_true]
  refine ⟨_, _, _, rfl, m, ss, s, t, mo, tm.same s1, ts1.same s1, ts2.same s1, ok1, ok2, fun pd H2 s2 hd => ?_⟩
  have wk := mw_ok s t
  have S2 := Same.trans s1 s2
  refine ⟨_, _, rfl, .inr (.inr ⟨pd, mw s t, mn s t, true, by decide, rfl, wk, hd, by have := mn_len s t; omega, same_self (s2 _ _ ht) wk, fun H3 s3 => ?_⟩)⟩
  have S3 := Same.trans S2 s3
  have ht3 := s3 _ _ (s2 _ _ ht)
  refine ⟨_, rfl, ?_⟩
  simp only [and_assoc, rst, rs, re, ra, rq, rx, ro, rl, rl2, rsp, rz, rix, rln, rg, rd, ri, rv, rk, rdd, rwi, at0, at1, at2, at3, upd_at, List.getElem?_cons_zero, List.getElem?_cons_succ, Option.some.injEq, exists_eq_left', exists_eq_left, List.set_cons_zero, List.set_cons_succ, true_and, and_true, HO.lst.injEq, HO.tup.injEq, exists_and_left, exists_eq, exists_eq', Br.t, Br.f, Be.t, Be.f, List.cons.injEq, List.append_nil, scal, if_true, if_false, ite_true, ite_false, eq_self_iff_true, decide_true, decide_false, Bool.not_true, Bool.not_false, reduceIte, List.nil_append, List.cons_append, reduceCtorEq, false_and, exists_false, false_or, or_false, Int.reduceLT, ral, rmd, rsq, rlu, rdp, rrp, rrt, rtp, rzk, rsp5, Bool.true_or, Bool.false_or, Bool.or_false, Bool.or_true]
  subst hr
  refine seqI fun rr hr => ?_
  simp only [and_assoc, rst, rs, re, ra, rq, rx, ro, rl, rl2, rsp, rz, rix, rln, rg, rd, ri, rv, rk, rdd, rwi, at0, at1, at2, at3, upd_at, List.getElem?_cons_zero, List.getElem?_cons_succ, Option.some.injEq, exists_eq_left', exists_eq_left, List.set_cons_zero, List.set_cons_succ, true_and, and_true, HO.lst.injEq, HO.tup.injEq, exists_and_left, exists_eq, exists_eq', Br.t, Br.f, Be.t, Be.f, List.cons.injEq, List.append_nil, scal, if_true, if_false, ite_true, ite_false, eq_self_iff_true, decide_true, decide_false, Bool.not_true, Bool.not_false, reduceIte, List.nil_append, List.cons_append, reduceCtorEq, false_and, exists_false, false_or, or_false, Int.reduceLT, ral, rmd, rsq, rlu, rdp, rrp, rrt, rtp, rzk, rsp5, Bool.true_or, Bool.false_or, Bool.or_false, Bool.or_true]
  refine ⟨_, _, rfl, m, ss, s, tm.same S3, mo, ts1.same S3, ok1, fun pa H4 s4 fa ha => ?_⟩
  subst hr
  refine seqI fun rr hr => ?_
  simp only [and_assoc, rst, rs, re, ra, rq, rx, ro, rl, rl2, rsp, rz, rix, rln, rg, rd, ri, rv, rk, rdd, rwi, at0, at1, at2, at3, upd_at, List.getElem?_cons_zero, List.getElem?_cons_succ, Option.some.injEq, exists_eq_left', exists_eq_left, List.set_cons_zero, List.set_cons_succ, true_and, and_true, HO.lst.injEq, HO.tup.injEq, exists_and_left, exists_eq, exists_eq', Br.t, Br.f, Be.t, Be.f, List.cons.injEq, List.append_nil, scal, if_true, if_false, ite_true, ite_false, eq_self_iff_true, decide_true, decide_false, Bool.not_true, Bool.not_false, reduceIte, List.nil_append, List.cons_append, reduceCtorEq, false_and, exists_false, false_or, or_false, Int.reduceLT, ral, rmd, rsq, rlu, rdp, rrp, rrt, rtp, rzk, rsp5, Bool.true_or, Bool.false_or, Bool.or_false, Bool.or_true]
  have S4 := Same.trans S3 s4
  refine ⟨_, _, rfl, m, ss, t, tm.same S4, mo, ts2.same S4, ok2, fun pb H5 s5 fb hb => ?_⟩
  have S5 := Same.trans S4 s5
  replace ha := s5 _ _ ha
  replace ht3 := s5 _ _ (s4 _ _ ht3)
  subst hr
  refine seqI fun rr hr => ?_
  simp only [and_assoc, rst, rs, re, ra, rq, rx, ro, rl, rl2, rsp, rz, rix, rln, rg, rd, ri, rv, rk, rdd, rwi, at0, at1, at2, at3, upd_at, List.getElem?_cons_zero, List.getElem?_cons_succ, Option.some.injEq, exists_eq_left', exists_eq_left, List.set_cons_zero, List.set_cons_succ, true_and, and_true, HO.lst.injEq, HO.tup.injEq, exists_and_left, exists_eq, exists_eq', Br.t, Br.f, Be.t, Be.f, List.cons.injEq, List.append_nil, scal, if_true, if_false, ite_true, ite_false, eq_self_iff_true, decide_true, decide_false, Bool.not_true, Bool.not_false, reduceIte, List.nil_append, List.cons_append, reduceCtorEq, false_and, exists_false, false_or, or_false, Int.reduceLT, ral, rmd, rsq, rlu, rdp, rrp, rrt, rtp, rzk, rsp5, Bool.true_or, Bool.false_or, Bool.or_false, Bool.or_true]
  refine ⟨_, ha, _, rfl, LC.seq (o := .lst ((nums m ss s).map fun (n : Nat) => V.int (n : Nat))) rfl (fun D i H' => Same H5 H' ∧ H' D = some (.lst ((((nums m ss s).take i).filter fun n => decide (n ∈ nums m ss t)).map fun (n : Nat) => V.int (n : Nat)))) (fun D hD => ⟨Same.new hD, upd_same⟩) (fun D i H' _ _ h => h.1 _ _ ha) ?_ ?_⟩
  · rintro D i x H' hD hx ⟨s6, hd6⟩
    rw [List.getElem?_map] at hx
    obtain ⟨z, hz, rfl⟩ := Option.map_eq_some_iff.mp hx
    simp only [and_assoc, rst, rs, re, ra, rq, rx, ro, rl, rl2, rsp, rz, rix, rln, rg, rd, ri, rv, rk, rdd, rwi, at0, at1, at2, at3, upd_at, List.getElem?_cons_zero, List.getElem?_cons_succ, Option.some.injEq, exists_eq_left', exists_eq_left, List.set_cons_zero, List.set_cons_succ, true_and, and_true, HO.lst.injEq, HO.tup.injEq, exists_and_left, exists_eq, exists_eq', Br.t, Br.f, Be.t, Be.f, List.cons.injEq, List.append_nil, scal, if_true, if_false, ite_true, ite_false, eq_self_iff_true, decide_true, decide_false, Bool.not_true, Bool.not_false, reduceIte, List.nil_append, List.cons_append, reduceCtorEq, false_and, exists_false, false_or, or_false, Int.reduceLT, ral, rmd, rsq, rlu, rdp, rrp, rrt, rtp, rzk, rsp5, Bool.true_or, Bool.false_or, Bool.or_false, Bool.or_true]
    refine ⟨pb, _, rfl, .inl (SqL.of (s6 _ _ hb)), rfl, flat_nats _, ?_⟩
    rw [if_neg (by decide), in_nats]
    refine ⟨_, rfl, ?_⟩
    rw [take_snoc hz, List.filter_append]
    have lf : (((nums m ss s).take i).filter fun n => decide (n ∈ nums m ss t)).length ≤ 2 ^ 17 := by
      have h1 := List.length_filter_le (fun n => decide (n ∈ nums m ss t)) ((nums m ss s).take i)
      have h2 : (nums m ss s).length = s.many.toNat := by rw [nums, List.length_map, List.length_range]
      have lb : m.len ≤ 2 ^ 16 := by
        have : ∀ k : Nat, k ≤ 16 → (2 : Int) ^ k ≤ 2 ^ 16 := by decide +kernel
        exact this m.lb mo.2.2.2.2.2.1
      obtain ⟨_, _, _, ⟨p0, _⟩, n0, n1⟩ := ok1
      rw [List.length_take] at h1
      omega
    refine Be.d (fun c => ?_) (fun c => ?_)
    · refine ⟨_, hd6, by rw [List.length_map, sizeLine_eq]; omega, Same.mut s6 hD, ?_⟩
      rw [List.map_append, List.filter_cons_of_pos (by exact decide_eq_true c)]
      rfl
    · rw [List.filter_cons_of_neg (by intro z; exact c (of_decide_eq_true z)), List.filter_nil, List.append_nil]
      exact ⟨s6, hd6⟩
  · rintro D H' hD ⟨s6, hd6⟩
    rw [List.length_map, List.take_length] at hd6
    have S6 := Same.trans S5 s6
    replace ht3 := s6 _ _ ht3
    subst hr
    refine seqI fun rr hr => ?_
    simp only [and_assoc, rst, rs, re, ra, rq, rx, ro, rl, rl2, rsp, rz, rix, rln, rg, rd, ri, rv, rk, rdd, rwi, at0, at1, at2, at3, upd_at, List.getElem?_cons_zero, List.getElem?_cons_succ, Option.some.injEq, exists_eq_left', exists_eq_left, List.set_cons_zero, List.set_cons_succ, true_and, and_true, HO.lst.injEq, HO.tup.injEq, exists_and_left, exists_eq, exists_eq', Br.t, Br.f, Be.t, Be.f, List.cons.injEq, List.append_nil, scal, if_true, if_false, ite_true, ite_false, eq_self_iff_true, decide_true, decide_false, Bool.not_true, Bool.not_false, reduceIte, List.nil_append, List.cons_append, reduceCtorEq, false_and, exists_false, false_or, or_false, Int.reduceLT, ral, rmd, rsq, rlu, rdp, rrp, rrt, rtp, rzk, rsp5, Bool.true_or, Bool.false_or, Bool.or_false, Bool.or_true]
    refine ⟨_, ht3, _, rfl, _, atI_nat (j := 0) rfl, rfl, ?_⟩
    have okS : ∀ s ∈ ss, stOk s.1 s.2 := by
      obtain ⟨_, _, _, _, _, _, _, _, h⟩ := tm
      exact h
    replace hd6 : H' D = some (.lst ((bothL m ss s t).map fun (n : Nat) => V.int (n : Nat))) := hd6
    rw [ints_nats] at hd6
    refine Br.n (fun c => ?_) (fun c => ?_)
    · simp only [and_assoc, rst, rs, re, ra, rq, rx, ro, rl, rl2, rsp, rz, rix, rln, rg, rd, ri, rv, rk, rdd, rwi, at0, at1, at2, at3, upd_at, List.getElem?_cons_zero, List.getElem?_cons_succ, Option.some.injEq, exists_eq_left', exists_eq_left, List.set_cons_zero, List.set_cons_succ, true_and, and_true, HO.lst.injEq, HO.tup.injEq, exists_and_left, exists_eq, exists_eq', Br.t, Br.f, Be.t, Be.f, List.cons.injEq, List.append_nil, scal, if_true, if_false, ite_true, ite_false, eq_self_iff_true, decide_true, decide_false, Bool.not_true, Bool.not_false, reduceIte, List.nil_append, List.cons_append, reduceCtorEq, false_and, exists_false, false_or, or_false, Int.reduceLT, ral, rmd, rsq, rlu, rdp, rrp, rrt, rtp, rzk, rsp5, Bool.true_or, Bool.false_or, Bool.or_false, Bool.or_true]
      intro pe H7 a7
      refine eq_intsA (ms := []) (SqL.of (a7.s _ _ hd6)) (SqL.of a7.e) ?_
      rw [both_none mo okS ok1 ok2 (fun z => c (by rw [z]))]
      exact k H7 (Same.trans S6 a7.s)
    · obtain ⟨⟨e1, e2, e3⟩, eb⟩ := both_some mo okS ok1 ok2 (V.str.inj c)
      rw [mrow_meets e1 e2 (by omega)] at ht3
      rw [eb] at hd6
      simp only [and_assoc, rst, rs, re, ra, rq, rx, ro, rl, rl2, rsp, rz, rix, rln, rg, rd, ri, rv, rk, rdd, rwi, at0, at1, at2, at3, upd_at, List.getElem?_cons_zero, List.getElem?_cons_succ, Option.some.injEq, exists_eq_left', exists_eq_left, List.set_cons_zero, List.set_cons_succ, true_and, and_true, HO.lst.injEq, HO.tup.injEq, exists_and_left, exists_eq, exists_eq', Br.t, Br.f, Be.t, Be.f, List.cons.injEq, List.append_nil, scal, if_true, if_false, ite_true, ite_false, eq_self_iff_true, decide_true, decide_false, Bool.not_true, Bool.not_false, reduceIte, List.nil_append, List.cons_append, reduceCtorEq, false_and, exists_false, false_or, or_false, Int.reduceLT, ral, rmd, rsq, rlu, rdp, rrp, rrt, rtp, rzk, rsp5, Bool.true_or, Bool.false_or, Bool.or_false, Bool.or_true]
      subst hr
      simp only [and_assoc, rst, rs, re, ra, rq, rx, ro, rl, rl2, rsp, rz, rix, rln, rg, rd, ri, rv, rk, rdd, rwi, at0, at1, at2, at3, upd_at, List.getElem?_cons_zero, List.getElem?_cons_succ, Option.some.injEq, exists_eq_left', exists_eq_left, List.set_cons_zero, List.set_cons_succ, true_and, and_true, HO.lst.injEq, HO.tup.injEq, exists_and_left, exists_eq, exists_eq', Br.t, Br.f, Be.t, Be.f, List.cons.injEq, List.append_nil, scal, if_true, if_false, ite_true, ite_false, eq_self_iff_true, decide_true, decide_false, Bool.not_true, Bool.not_false, reduceIte, List.nil_append, List.cons_append, reduceCtorEq, false_and, exists_false, false_or, or_false, Int.reduceLT, ral, rmd, rsq, rlu, rdp, rrp, rrt, rtp, rzk, rsp5, Bool.true_or, Bool.false_or, Bool.or_false, Bool.or_true]
      obtain ⟨ta, tb, rfl, hta, htb⟩ := id ts1
      refine ⟨ta, rfl, _, S6 _ _ hta, _, rfl, _, rfl, ta, rfl, _, S6 _ _ hta, _, rfl, _, rfl, _, ht3, _, rfl, _, rfl, _, ht3, _, rfl, _, rfl, fun g H7 a7 => ?_⟩
      have S7 := Same.trans S6 a7.s
      obtain ⟨o1, o2, o3, ⟨s0, s1'⟩, n0, n1⟩ := id ok1
      obtain ⟨_, _, _, ⟨t0, t1'⟩, u0, u1⟩ := id ok2
      refine ⟨_, _, rfl, m, ss, ⟨s.seed, s.path, mfirst s t, mbehind s t - mfirst s t⟩, tm.same S7, mo, ⟨g, tb, rfl, a7.e, S7 _ _ htb⟩, ⟨o1, o2, o3, ⟨?_, ?_⟩, ?_, ?_⟩, fun pn H8 s8 f8 h8 => ?_⟩
      · show 0 ≤ mfirst s t
        unfold mfirst
        omega
      · show mfirst s t ≤ m.len
        unfold mfirst
        omega
      · show 0 ≤ mbehind s t - mfirst s t
        omega
      · show mbehind s t - mfirst s t ≤ m.len - mfirst s t
        unfold mbehind
        omega
      · rw [ints_nats] at h8
        refine eq_intsA (SqL.of (s8 _ _ (a7.s _ _ hd6))) (SqL.of h8) ?_
        rw [decide_eq_true rfl]
        exact k H8 (Same.trans S7 s8)
end
end Law

-- RDX ral, rmd, rsq, rlu, rdp, rrp, rrt, rtp, rzk, rsp5, Bool.true_or, Bool.false_or, Bool.or_false, Bool.or_true
namespace Law
open PySem PySem.Spec PyProof.Rows L2 Sw
section
variable {P : Program} {w : World} {K : Fg} {mg : Str → Option Value} {base : Heap}
theorem ok_law {fd : FuncData} (T : Tx K mg w) (F_law : FunD K "law" "law" (defArgs s_law) (defBody s_law) (defScope s_law) [] [] (He.ga K "law") fd) (c__law_cell_at : Cal P w K mg base 1 "_law_cell_at" ["script", "k"] (sp__law_cell_at K)) (c__law_box : Cal P w K mg base 1 "_law_box" ["cell"] (sp__law_box K)) (c__law_machine : Cal P w K mg base 3 "_law_machine" ["box"] (sp__law_machine K)) (c__law_made : Cal P w K mg base 9 "_law_made" ["m"] (sp__law_made K)) (c__law_stretch : Cal P w K mg base 3 "_law_stretch" ["box", "m"] (sp__law_stretch K)) (c__law_no_stretch : Cal P w K mg base 2 "_law_no_stretch" ["box", "m", "good"] (sp__law_no_stretch K)) (c__law_near : Cal P w K mg base 4 "_law_near" ["box", "m", "one"] (sp__law_near K)) (c__law_refused : Cal P w K mg base 7 "_law_refused" ["machine", "one", "other", "bad"] (sp__law_refused K)) (c__law_told_right : Cal P w K mg base 8 "_law_told_right" ["m", "machine", "one", "other"] (sp__law_told_right K)) : FnG P w K mg base 10 (He.ga K "law") fd ["script"] (sp_law K) := by
  refine fn_mk F_law sc_law (len1 _) (fun cdv A outer s H vs Q E hr h => ?_)
  obtain ⟨v0, rfl, h⟩ := h
  have hu := hu_of hr.r
  refine ⟨_, (pss_cons (ps_for (passes_of rfl) rfl (pi_range1 (by rfl) T.n_range (pa_cons (pe_callB (call_max2 rfl) (by rfl) T.n_max (by decide +kernel) (pa_cons pe_int (pa_cons (pe_callB (call_min2 rfl) (by rfl) T.n_min (by decide +kernel) (pa_cons (pe_callB call_len_seq (by rfl) T.n_len (by decide +kernel) (pa_cons (pv 0) pa_nil)) (pa_cons pe_int pa_nil))) pa_nil))) pa_nil)) (pg_name (i := 1) sc_law.nd rfl (Or.inl rfl)) (pss_cons (ps_set (i := 2) sc_law.nd rfl (Or.inl rfl) (pe_cal c__law_box hr (by decide) passL rfl (pa_cons (pe_cal c__law_cell_at hr (by decide) passL rfl (pa_cons (pv 0) (pa_cons (pv 1) pa_nil))) pa_nil)))
      (pss_cons (ps_set (i := 3) sc_law.nd rfl (Or.inl rfl) (pe_cal c__law_machine hr (by decide) passL rfl (pa_cons (pv 2) pa_nil)))
      (pss_cons (ps_set (i := 4) sc_law.nd rfl (Or.inl rfl) (pe_cal c__law_made hr (by decide) passL rfl (pa_cons (pv 3) pa_nil)))
      (pss_one (ps_for (passes_of rfl) rfl (pi_range1 (by rfl) T.n_range (pa_cons pe_int pa_nil)) (pg_name (i := 5) sc_law.nd rfl (Or.inl rfl)) (pss_cons (ps_set (i := 6) sc_law.nd rfl (Or.inl rfl) (pe_cal c__law_stretch hr (by decide) passL rfl (pa_cons (pv 2) (pa_cons (pv 3) pa_nil))))
      (pss_cons (ps_set (i := 7) sc_law.nd rfl (Or.inl rfl) (pe_cal c__law_near hr (by decide) passL rfl (pa_cons (pv 2) (pa_cons (pv 3) (pa_cons (pv 6) pa_nil)))))
      (pss_cons (ps_if (PW.pt (pw_or (pt_not (pt_val (pe_cal c__law_told_right hr (by decide) passL rfl (pa_cons (pv 3) (pa_cons (pv 4) (pa_cons (pv 6) (pa_cons (pv 7) pa_nil))))))) (pw_or1 (pt_not (pt_val (pe_cal c__law_told_right hr (by decide) passL rfl (pa_cons (pv 3) (pa_cons (pv 4) (pa_cons (pv 7) (pa_cons (pv 6) pa_nil)))))))))) (pss_one (ps_ret pe_bl)) pss_nil)
      (pss_cons (ps_set (i := 8) sc_law.nd rfl (Or.inl rfl) (pe_cal c__law_no_stretch hr (by decide) passL rfl (pa_cons (pv 2) (pa_cons (pv 3) (pa_cons (pv 6) pa_nil)))))
      (pss_cons (ps_set (i := 9) sc_law.nd rfl (Or.inl rfl) (pe_cal c__law_no_stretch hr (by decide) passL rfl (pa_cons (pv 2) (pa_cons (pv 3) (pa_cons (pv 7) pa_nil)))))
      (pss_cons (ps_if (PW.pt (pw_or (pt_not (pt_val (pe_cal c__law_refused hr (by decide) passL rfl (pa_cons (pv 4) (pa_cons (pv 8) (pa_cons (pv 9) (pa_cons (pv 8) pa_nil))))))) (pw_or1 (pt_not (pt_val (pe_cal c__law_refused hr (by decide) passL rfl (pa_cons (pv 4) (pa_cons (pv 6) (pa_cons (pv 9) (pa_cons (pv 9) pa_nil)))))))))) (pss_one (ps_ret pe_bl)) pss_nil)
      (pss_one (ps_if (pt_not (pt_val (pe_cal c__law_refused hr (by decide) passL rfl (pa_cons (pv 4) (pa_cons (pv 8) (pa_cons (pv 7) (pa_cons (pv 8) pa_nil))))))) (pss_one (ps_ret pe_bl)) pss_nil))))))))))))))
      (pss_one (ps_ret pe_bl))), ?_⟩
  obtain ⟨a, ns, rfl, hS, hl, q⟩ := h
  simp only [and_assoc, rst, rs, re, ra, rq, rx, ro, rl, rl2, rsp, rz, rix, rln, rg, rd, ri, rv, rk, rdd, rwi, at0, at1, at2, at3, upd_at, List.getElem?_cons_zero, List.getElem?_cons_succ, Option.some.injEq, exists_eq_left', exists_eq_left, List.set_cons_zero, List.set_cons_succ, true_and, and_true, HO.lst.injEq, HO.tup.injEq, exists_and_left, exists_eq, exists_eq', Br.t, Br.f, Be.t, Be.f, List.cons.injEq, List.append_nil, scal, if_true, if_false, ite_true, ite_false, eq_self_iff_true, decide_true, decide_false, Bool.not_true, Bool.not_false, reduceIte, List.nil_append, List.cons_append, reduceCtorEq, false_and, exists_false, false_or, or_false, Int.reduceLT, ral, rmd, rsq, rlu, rdp, rrp, rrt, rtp, rzk, rsp5, Bool.true_or, Bool.false_or, Bool.or_false, Bool.or_true]
  generalize hn : (if (if (10 : Int) < ((ns.map V.int).length : Int) then (10 : Int) else ((ns.map V.int).length : Int)) > 1 then if (10 : Int) < ((ns.map V.int).length : Int) then (10 : Int) else ((ns.map V.int).length : Int) else 1) = n
  have hn6 : 1 ≤ n ∧ n ≤ 10 := by
    rw [← hn]
    split
    · split <;> omega
    · omega
  refine ⟨ns.map V.int, .inl hS, ?_⟩
  rw [hn]
  refine ⟨by omega, by omega, FI.rng (fun i σ H' => ∃ v1 v2 v3 v4 v5 v6 v7 v8 v9, Same H H' ∧ σ = [some (.ref a), v1, v2, v3, v4, v5, v6, v7, v8, v9]) ⟨none, none, none, none, none, none, none, none, none, fun _ _ e => e, rfl⟩ ?_ ?_⟩
  rotate_left
  · rintro σ H' ⟨_, _, _, _, _, _, _, _, _, _, rfl⟩
    simp only [and_assoc, rst, rs, re, ra, rq, rx, ro, rl, rl2, rsp, rz, rix, rln, rg, rd, ri, rv, rk, rdd, rwi, at0, at1, at2, at3, upd_at, List.getElem?_cons_zero, List.getElem?_cons_succ, Option.some.injEq, exists_eq_left', exists_eq_left, List.set_cons_zero, List.set_cons_succ, true_and, and_true, HO.lst.injEq, HO.tup.injEq, exists_and_left, exists_eq, exists_eq', Br.t, Br.f, Be.t, Be.f, List.cons.injEq, List.append_nil, scal, if_true, if_false, ite_true, ite_false, eq_self_iff_true, decide_true, decide_false, Bool.not_true, Bool.not_false, reduceIte, List.nil_append, List.cons_append, reduceCtorEq, false_and, exists_false, false_or, or_false, Int.reduceLT, ral, rmd, rsq, rlu, rdp, rrp, rrt, rtp, rzk, rsp5, Bool.true_or, Bool.false_or, Bool.or_false, Bool.or_true]
    exact q _
  rintro i σ H' hi ⟨v1, v2, v3, v4, v5, v6, v7, v8, v9, s, rfl⟩
  unfold gName
  try dsimp only
  refine seqI fun rr hr => ?_
  simp only [and_assoc, rst, rs, re, ra, rq, rx, ro, rl, rl2, rsp, rz, rix, rln, rg, rd, ri, rv, rk, rdd, rwi, at0, at1, at2, at3, upd_at, List.getElem?_cons_zero, List.getElem?_cons_succ, Option.some.injEq, exists_eq_left', exists_eq_left, List.set_cons_zero, List.set_cons_succ, true_and, and_true, HO.lst.injEq, HO.tup.injEq, exists_and_left, exists_eq, exists_eq', Br.t, Br.f, Be.t, Be.f, List.cons.injEq, List.append_nil, scal, if_true, if_false, ite_true, ite_false, eq_self_iff_true, decide_true, decide_false, Bool.not_true, Bool.not_false, reduceIte, List.nil_append, List.cons_append, reduceCtorEq, false_and, exists_false, false_or, or_false, Int.reduceLT, ral, rmd, rsq, rlu, rdp, rrp, rrt, rtp, rzk, rsp5, Bool.true_or, Bool.false_or, Bool.or_false, Bool.or_true]
  rw [Int.zero_add]
  refine ⟨_, _, rfl, a, ns, i, rfl, sql_same s hS, rfl, by omega, fun z => ?_⟩
  refine ⟨_, rfl, z, rfl, fun p H1 s1 f1 w1 => ?_⟩
  have fp : H p = none := Same.free s f1
  have W := Wl.refl w1
  subst hr
  refine seqI fun rr hr => ?_
  simp only [and_assoc, rst, rs, re, ra, rq, rx, ro, rl, rl2, rsp, rz, rix, rln, rg, rd, ri, rv, rk, rdd, rwi, at0, at1, at2, at3, upd_at, List.getElem?_cons_zero, List.getElem?_cons_succ, Option.some.injEq, exists_eq_left', exists_eq_left, List.set_cons_zero, List.set_cons_succ, true_and, and_true, HO.lst.injEq, HO.tup.injEq, exists_and_left, exists_eq, exists_eq', Br.t, Br.f, Be.t, Be.f, List.cons.injEq, List.append_nil, scal, if_true, if_false, ite_true, ite_false, eq_self_iff_true, decide_true, decide_false, Bool.not_true, Bool.not_false, reduceIte, List.nil_append, List.cons_append, reduceCtorEq, false_and, exists_false, false_or, or_false, Int.reduceLT, ral, rmd, rsq, rlu, rdp, rrp, rrt, rtp, rzk, rsp5, Bool.true_or, Bool.false_or, Bool.or_false, Bool.or_true]
  refine ⟨_, rfl, p, rfl, W.1, fun vm m ss H2 w mo tm => ?_⟩
  replace W := Wl.trans W w
  clear w
  subst hr
  refine seqI fun rr hr => ?_
  simp only [and_assoc, rst, rs, re, ra, rq, rx, ro, rl, rl2, rsp, rz, rix, rln, rg, rd, ri, rv, rk, rdd, rwi, at0, at1, at2, at3, upd_at, List.getElem?_cons_zero, List.getElem?_cons_succ, Option.some.injEq, exists_eq_left', exists_eq_left, List.set_cons_zero, List.set_cons_succ, true_and, and_true, HO.lst.injEq, HO.tup.injEq, exists_and_left, exists_eq, exists_eq', Br.t, Br.f, Be.t, Be.f, List.cons.injEq, List.append_nil, scal, if_true, if_false, ite_true, ite_false, eq_self_iff_true, decide_true, decide_false, Bool.not_true, Bool.not_false, reduceIte, List.nil_append, List.cons_append, reduceCtorEq, false_and, exists_false, false_or, or_false, Int.reduceLT, ral, rmd, rsq, rlu, rdp, rrp, rrt, rtp, rzk, rsp5, Bool.true_or, Bool.false_or, Bool.or_false, Bool.or_true]
  refine ⟨_, rfl, m, ss, mo, tm.same wo_same, fun vo H3 s3 fr om => ?_⟩
  obtain ⟨ao, rfl, fo⟩ := fr
  have nao : ao ≠ p := fun e => by
    obtain ⟨_, _, _, ep⟩ := W.1
    rw [e, ep] at fo
    cases fo
  replace om : ObM K (wo p H3) m (.ref ao) := by
    obtain ⟨a', dx, x, y, e, hm⟩ := om
    cases e
    exact ⟨ao, dx, x, y, rfl, by rw [wo_at nao]; exact hm⟩
  have w := Wl.of_same W.1 s3
  replace tm := tm.same w.2
  replace W := Wl.trans W w
  clear w s3 fo
  subst hr
  try dsimp only
  simp only [and_assoc, rst, rs, re, ra, rq, rx, ro, rl, rl2, rsp, rz, rix, rln, rg, rd, ri, rv, rk, rdd, rwi, at0, at1, at2, at3, upd_at, List.getElem?_cons_zero, List.getElem?_cons_succ, Option.some.injEq, exists_eq_left', exists_eq_left, List.set_cons_zero, List.set_cons_succ, true_and, and_true, HO.lst.injEq, HO.tup.injEq, exists_and_left, exists_eq, exists_eq', Br.t, Br.f, Be.t, Be.f, List.cons.injEq, List.append_nil, scal, if_true, if_false, ite_true, ite_false, eq_self_iff_true, decide_true, decide_false, Bool.not_true, Bool.not_false, reduceIte, List.nil_append, List.cons_append, reduceCtorEq, false_and, exists_false, false_or, or_false, Int.reduceLT, ral, rmd, rsq, rlu, rdp, rrp, rrt, rtp, rzk, rsp5, Bool.true_or, Bool.false_or, Bool.or_false, Bool.or_true]
  refine ⟨by decide, by decide, FI.rng (fun j σ H' => ∃ x5 x6 x7 x8 x9, Wl p H3 H' ∧ σ = [some (.ref a), some (.int (i : Nat)), some (.ref p), some vm, some (.ref ao), x5, x6, x7, x8, x9]) ⟨_, _, _, _, _, Wl.refl W.1, rfl⟩ ?_ ?_⟩
  rotate_left
  · rintro σ H4 ⟨x5, x6, x7, x8, x9, w, rfl⟩
    have W := Wl.trans W w
    simp only [and_assoc, rst, rs, re, ra, rq, rx, ro, rl, rl2, rsp, rz, rix, rln, rg, rd, ri, rv, rk, rdd, rwi, at0, at1, at2, at3, upd_at, List.getElem?_cons_zero, List.getElem?_cons_succ, Option.some.injEq, exists_eq_left', exists_eq_left, List.set_cons_zero, List.set_cons_succ, true_and, and_true, HO.lst.injEq, HO.tup.injEq, exists_and_left, exists_eq, exists_eq', Br.t, Br.f, Be.t, Be.f, List.cons.injEq, List.append_nil, scal, if_true, if_false, ite_true, ite_false, eq_self_iff_true, decide_true, decide_false, Bool.not_true, Bool.not_false, reduceIte, List.nil_append, List.cons_append, reduceCtorEq, false_and, exists_false, false_or, or_false, Int.reduceLT, ral, rmd, rsq, rlu, rdp, rrp, rrt, rtp, rzk, rsp5, Bool.true_or, Bool.false_or, Bool.or_false, Bool.or_true]
    refine fun b o e => W.at ?_ ((Same.trans s s1) _ _ e)
    intro z
    subst z
    rw [fp] at e
    cases e
  rintro j σ H3' hj ⟨x5, x6, x7, x8, x9, w, rfl⟩
  replace tm := tm.same w.2
  replace om := om.same w.2
  have W0 := w.1
  have w0 := w
  clear W w
  have W := w0
  try unfold gName
  try dsimp only
  refine seqI fun rr hr => ?_
  simp only [and_assoc, rst, rs, re, ra, rq, rx, ro, rl, rl2, rsp, rz, rix, rln, rg, rd, ri, rv, rk, rdd, rwi, at0, at1, at2, at3, upd_at, List.getElem?_cons_zero, List.getElem?_cons_succ, Option.some.injEq, exists_eq_left', exists_eq_left, List.set_cons_zero, List.set_cons_succ, true_and, and_true, HO.lst.injEq, HO.tup.injEq, exists_and_left, exists_eq, exists_eq', Br.t, Br.f, Be.t, Be.f, List.cons.injEq, List.append_nil, scal, if_true, if_false, ite_true, ite_false, eq_self_iff_true, decide_true, decide_false, Bool.not_true, Bool.not_false, reduceIte, List.nil_append, List.cons_append, reduceCtorEq, false_and, exists_false, false_or, or_false, Int.reduceLT, ral, rmd, rsq, rlu, rdp, rrp, rrt, rtp, rzk, rsp5, Bool.true_or, Bool.false_or, Bool.or_false, Bool.or_true]
  refine ⟨_, _, rfl, p, m, ss, rfl, W.1, mo, tm, fun u1 t1 H4 w ts1 ok1 mn1 => ?_⟩
  replace tm := tm.same w.2
  replace om := om.same w.2
  replace W := Wl.trans W w
  clear w
  subst hr
  refine seqI fun rr hr => ?_
  simp only [and_assoc, rst, rs, re, ra, rq, rx, ro, rl, rl2, rsp, rz, rix, rln, rg, rd, ri, rv, rk, rdd, rwi, at0, at1, at2, at3, upd_at, List.getElem?_cons_zero, List.getElem?_cons_succ, Option.some.injEq, exists_eq_left', exists_eq_left, List.set_cons_zero, List.set_cons_succ, true_and, and_true, HO.lst.injEq, HO.tup.injEq, exists_and_left, exists_eq, exists_eq', Br.t, Br.f, Be.t, Be.f, List.cons.injEq, List.append_nil, scal, if_true, if_false, ite_true, ite_false, eq_self_iff_true, decide_true, decide_false, Bool.not_true, Bool.not_false, reduceIte, List.nil_append, List.cons_append, reduceCtorEq, false_and, exists_false, false_or, or_false, Int.reduceLT, ral, rmd, rsq, rlu, rdp, rrp, rrt, rtp, rzk, rsp5, Bool.true_or, Bool.false_or, Bool.or_false, Bool.or_true]
  refine ⟨_, _, _, rfl, p, m, ss, t1, rfl, W.1, mo, tm, ts1, ok1, mn1, fun u2 t2 H5 w ts2 ok2 mn2 => ?_⟩
  replace tm := tm.same w.2
  replace om := om.same w.2
  replace ts1 := ts1.same w.2
  replace W := Wl.trans W w
  clear w
  subst hr
  refine seqI fun rr hr => ?_
  simp only [and_assoc, rst, rs, re, ra, rq, rx, ro, rl, rl2, rsp, rz, rix, rln, rg, rd, ri, rv, rk, rdd, rwi, at0, at1, at2, at3, upd_at, List.getElem?_cons_zero, List.getElem?_cons_succ, Option.some.injEq, exists_eq_left', exists_eq_left, List.set_cons_zero, List.set_cons_succ, true_and, and_true, HO.lst.injEq, HO.tup.injEq, exists_and_left, exists_eq, exists_eq', Br.t, Br.f, Be.t, Be.f, List.cons.injEq, List.append_nil, scal, if_true, if_false, ite_true, ite_false, eq_self_iff_true, decide_true, decide_false, Bool.not_true, Bool.not_false, reduceIte, List.nil_append, List.cons_append, reduceCtorEq, false_and, exists_false, false_or, or_false, Int.reduceLT, ral, rmd, rsq, rlu, rdp, rrp, rrt, rtp, rzk, rsp5, Bool.true_or, Bool.false_or, Bool.or_false, Bool.or_true]
  refine ⟨_, _, _, _, rfl, m, ss, t1, t2, tm.same wo_same, mo, om.same wo_same, ts1.same wo_same, ok1, ts2.same wo_same, ok2, fun H6 s6 => ?_⟩
  have w := Wl.of_same W.1 s6
  replace tm := tm.same w.2
  replace om := om.same w.2
  replace ts1 := ts1.same w.2
  replace ts2 := ts2.same w.2
  replace W := Wl.trans W w
  clear w s6
  simp only [and_assoc, rst, rs, re, ra, rq, rx, ro, rl, rl2, rsp, rz, rix, rln, rg, rd, ri, rv, rk, rdd, rwi, at0, at1, at2, at3, upd_at, List.getElem?_cons_zero, List.getElem?_cons_succ, Option.some.injEq, exists_eq_left', exists_eq_left, List.set_cons_zero, List.set_cons_succ, true_and, and_true, HO.lst.injEq, HO.tup.injEq, exists_and_left, exists_eq, exists_eq', Br.t, Br.f, Be.t, Be.f, List.cons.injEq, List.append_nil, scal, if_true, if_false, ite_true, ite_false, eq_self_iff_true, decide_true, decide_false, Bool.not_true, Bool.not_false, reduceIte, List.nil_append, List.cons_append, reduceCtorEq, false_and, exists_false, false_or, or_false, Int.reduceLT, ral, rmd, rsq, rlu, rdp, rrp, rrt, rtp, rzk, rsp5, Bool.true_or, Bool.false_or, Bool.or_false, Bool.or_true]
  refine ⟨_, _, _, _, rfl, m, ss, t2, t1, tm.same wo_same, mo, om.same wo_same, ts2.same wo_same, ok2, ts1.same wo_same, ok1, fun H7 s6 => ?_⟩
  have w := Wl.of_same W.1 s6
  replace tm := tm.same w.2
  replace om := om.same w.2
  replace ts1 := ts1.same w.2
  replace ts2 := ts2.same w.2
  replace W := Wl.trans W w
  clear w s6
  simp only [and_assoc, rst, rs, re, ra, rq, rx, ro, rl, rl2, rsp, rz, rix, rln, rg, rd, ri, rv, rk, rdd, rwi, at0, at1, at2, at3, upd_at, List.getElem?_cons_zero, List.getElem?_cons_succ, Option.some.injEq, exists_eq_left', exists_eq_left, List.set_cons_zero, List.set_cons_succ, true_and, and_true, HO.lst.injEq, HO.tup.injEq, exists_and_left, exists_eq, exists_eq', Br.t, Br.f, Be.t, Be.f, List.cons.injEq, List.append_nil, scal, if_true, if_false, ite_true, ite_false, eq_self_iff_true, decide_true, decide_false, Bool.not_true, Bool.not_false, reduceIte, List.nil_append, List.cons_append, reduceCtorEq, false_and, exists_false, false_or, or_false, Int.reduceLT, ral, rmd, rsq, rlu, rdp, rrp, rrt, rtp, rzk, rsp5, Bool.true_or, Bool.false_or, Bool.or_false, Bool.or_true]
  subst hr
  refine seqI fun rr hr => ?_
  simp only [and_assoc, rst, rs, re, ra, rq, rx, ro, rl, rl2, rsp, rz, rix, rln, rg, rd, ri, rv, rk, rdd, rwi, at0, at1, at2, at3, upd_at, List.getElem?_cons_zero, List.getElem?_cons_succ, Option.some.injEq, exists_eq_left', exists_eq_left, List.set_cons_zero, List.set_cons_succ, true_and, and_true, HO.lst.injEq, HO.tup.injEq, exists_and_left, exists_eq, exists_eq', Br.t, Br.f, Be.t, Be.f, List.cons.injEq, List.append_nil, scal, if_true, if_false, ite_true, ite_false, eq_self_iff_true, decide_true, decide_false, Bool.not_true, Bool.not_false, reduceIte, List.nil_append, List.cons_append, reduceCtorEq, false_and, exists_false, false_or, or_false, Int.reduceLT, ral, rmd, rsq, rlu, rdp, rrp, rrt, rtp, rzk, rsp5, Bool.true_or, Bool.false_or, Bool.or_false, Bool.or_true]
  refine ⟨_, _, _, rfl, p, m, ss, t1, rfl, W.1, mo, tm, ts1, ok1, mn1, fun ub H40 w pb1 vb1 => ?_⟩
  replace tm := tm.same w.2
  replace om := om.same w.2
  replace ts1 := ts1.same w.2
  replace ts2 := ts2.same w.2
  replace W := Wl.trans W w
  clear w
  subst hr
  refine seqI fun rr hr => ?_
  simp only [and_assoc, rst, rs, re, ra, rq, rx, ro, rl, rl2, rsp, rz, rix, rln, rg, rd, ri, rv, rk, rdd, rwi, at0, at1, at2, at3, upd_at, List.getElem?_cons_zero, List.getElem?_cons_succ, Option.some.injEq, exists_eq_left', exists_eq_left, List.set_cons_zero, List.set_cons_succ, true_and, and_true, HO.lst.injEq, HO.tup.injEq, exists_and_left, exists_eq, exists_eq', Br.t, Br.f, Be.t, Be.f, List.cons.injEq, List.append_nil, scal, if_true, if_false, ite_true, ite_false, eq_self_iff_true, decide_true, decide_false, Bool.not_true, Bool.not_false, reduceIte, List.nil_append, List.cons_append, reduceCtorEq, false_and, exists_false, false_or, or_false, Int.reduceLT, ral, rmd, rsq, rlu, rdp, rrp, rrt, rtp, rzk, rsp5, Bool.true_or, Bool.false_or, Bool.or_false, Bool.or_true]
  refine ⟨_, _, _, rfl, p, m, ss, t2, rfl, W.1, mo, tm, ts2, ok2, mn2, fun uw H41 w pw1 vw1 => ?_⟩
  replace tm := tm.same w.2
  replace om := om.same w.2
  replace ts1 := ts1.same w.2
  replace ts2 := ts2.same w.2
  replace pb1 := pb1.same w.2
  replace vb1 := vb1.same w.2
  replace W := Wl.trans W w
  clear w
  have dpl : m.dp ≤ 1000 := by have := mo.2.2.2.1; omega
  subst hr
  refine seqI fun rr hr => ?_
  simp only [and_assoc, rst, rs, re, ra, rq, rx, ro, rl, rl2, rsp, rz, rix, rln, rg, rd, ri, rv, rk, rdd, rwi, at0, at1, at2, at3, upd_at, List.getElem?_cons_zero, List.getElem?_cons_succ, Option.some.injEq, exists_eq_left', exists_eq_left, List.set_cons_zero, List.set_cons_succ, true_and, and_true, HO.lst.injEq, HO.tup.injEq, exists_and_left, exists_eq, exists_eq', Br.t, Br.f, Be.t, Be.f, List.cons.injEq, List.append_nil, scal, if_true, if_false, ite_true, ite_false, eq_self_iff_true, decide_true, decide_false, Bool.not_true, Bool.not_false, reduceIte, List.nil_append, List.cons_append, reduceCtorEq, false_and, exists_false, false_or, or_false, Int.reduceLT, ral, rmd, rsq, rlu, rdp, rrp, rrt, rtp, rzk, rsp5, Bool.true_or, Bool.false_or, Bool.or_false, Bool.or_true]
  refine ⟨_, _, _, _, rfl, m, false, false, om.same wo_same, mo, pb1.same wo_same, pw1.same wo_same, vb1.same wo_same, .inl ⟨rfl, rfl⟩, fun H42 s42 => ?_⟩
  have w := Wl.of_same W.1 s42
  replace tm := tm.same w.2
  replace om := om.same w.2
  replace ts1 := ts1.same w.2
  replace ts2 := ts2.same w.2
  replace pb1 := pb1.same w.2
  replace vb1 := vb1.same w.2
  replace pw1 := pw1.same w.2
  replace vw1 := vw1.same w.2
  replace W := Wl.trans W w
  clear w s42
  simp only [and_assoc, rst, rs, re, ra, rq, rx, ro, rl, rl2, rsp, rz, rix, rln, rg, rd, ri, rv, rk, rdd, rwi, at0, at1, at2, at3, upd_at, List.getElem?_cons_zero, List.getElem?_cons_succ, Option.some.injEq, exists_eq_left', exists_eq_left, List.set_cons_zero, List.set_cons_succ, true_and, and_true, HO.lst.injEq, HO.tup.injEq, exists_and_left, exists_eq, exists_eq', Br.t, Br.f, Be.t, Be.f, List.cons.injEq, List.append_nil, scal, if_true, if_false, ite_true, ite_false, eq_self_iff_true, decide_true, decide_false, Bool.not_true, Bool.not_false, reduceIte, List.nil_append, List.cons_append, reduceCtorEq, false_and, exists_false, false_or, or_false, Int.reduceLT, ral, rmd, rsq, rlu, rdp, rrp, rrt, rtp, rzk, rsp5, Bool.true_or, Bool.false_or, Bool.or_false, Bool.or_true]
  refine ⟨_, _, _, _, rfl, m, true, false, om.same wo_same, mo, (ts_part ts1 ok1 dpl).same wo_same, pw1.same wo_same, vw1.same wo_same, .inr ⟨rfl, rfl, rfl⟩, fun H43 s43 => ?_⟩
  have w := Wl.of_same W.1 s43
  replace tm := tm.same w.2
  replace om := om.same w.2
  replace ts1 := ts1.same w.2
  replace ts2 := ts2.same w.2
  replace pb1 := pb1.same w.2
  replace vb1 := vb1.same w.2
  replace pw1 := pw1.same w.2
  replace vw1 := vw1.same w.2
  replace W := Wl.trans W w
  clear w s43
  simp only [and_assoc, rst, rs, re, ra, rq, rx, ro, rl, rl2, rsp, rz, rix, rln, rg, rd, ri, rv, rk, rdd, rwi, at0, at1, at2, at3, upd_at, List.getElem?_cons_zero, List.getElem?_cons_succ, Option.some.injEq, exists_eq_left', exists_eq_left, List.set_cons_zero, List.set_cons_succ, true_and, and_true, HO.lst.injEq, HO.tup.injEq, exists_and_left, exists_eq, exists_eq', Br.t, Br.f, Be.t, Be.f, List.cons.injEq, List.append_nil, scal, if_true, if_false, ite_true, ite_false, eq_self_iff_true, decide_true, decide_false, Bool.not_true, Bool.not_false, reduceIte, List.nil_append, List.cons_append, reduceCtorEq, false_and, exists_false, false_or, or_false, Int.reduceLT, ral, rmd, rsq, rlu, rdp, rrp, rrt, rtp, rzk, rsp5, Bool.true_or, Bool.false_or, Bool.or_false, Bool.or_true]
  subst hr
  simp only [and_assoc, rst, rs, re, ra, rq, rx, ro, rl, rl2, rsp, rz, rix, rln, rg, rd, ri, rv, rk, rdd, rwi, at0, at1, at2, at3, upd_at, List.getElem?_cons_zero, List.getElem?_cons_succ, Option.some.injEq, exists_eq_left', exists_eq_left, List.set_cons_zero, List.set_cons_succ, true_and, and_true, HO.lst.injEq, HO.tup.injEq, exists_and_left, exists_eq, exists_eq', Br.t, Br.f, Be.t, Be.f, List.cons.injEq, List.append_nil, scal, if_true, if_false, ite_true, ite_false, eq_self_iff_true, decide_true, decide_false, Bool.not_true, Bool.not_false, reduceIte, List.nil_append, List.cons_append, reduceCtorEq, false_and, exists_false, false_or, or_false, Int.reduceLT, ral, rmd, rsq, rlu, rdp, rrp, rrt, rtp, rzk, rsp5, Bool.true_or, Bool.false_or, Bool.or_false, Bool.or_true]
  refine ⟨_, _, _, _, rfl, m, false, true, om.same wo_same, mo, pb1.same wo_same, (ts_part ts2 ok2 dpl).same wo_same, vb1.same wo_same, .inl ⟨rfl, rfl⟩, fun H44 s44 => ?_⟩
  have w := Wl.of_same W.1 s44
  replace tm := tm.same w.2
  replace om := om.same w.2
  replace ts1 := ts1.same w.2
  replace ts2 := ts2.same w.2
  replace pb1 := pb1.same w.2
  replace vb1 := vb1.same w.2
  replace pw1 := pw1.same w.2
  replace vw1 := vw1.same w.2
  replace W := Wl.trans W w
  clear w s44
  simp only [and_assoc, rst, rs, re, ra, rq, rx, ro, rl, rl2, rsp, rz, rix, rln, rg, rd, ri, rv, rk, rdd, rwi, at0, at1, at2, at3, upd_at, List.getElem?_cons_zero, List.getElem?_cons_succ, Option.some.injEq, exists_eq_left', exists_eq_left, List.set_cons_zero, List.set_cons_succ, true_and, and_true, HO.lst.injEq, HO.tup.injEq, exists_and_left, exists_eq, exists_eq', Br.t, Br.f, Be.t, Be.f, List.cons.injEq, List.append_nil, scal, if_true, if_false, ite_true, ite_false, eq_self_iff_true, decide_true, decide_false, Bool.not_true, Bool.not_false, reduceIte, List.nil_append, List.cons_append, reduceCtorEq, false_and, exists_false, false_or, or_false, Int.reduceLT, ral, rmd, rsq, rlu, rdp, rrp, rrt, rtp, rzk, rsp5, Bool.true_or, Bool.false_or, Bool.or_false, Bool.or_true]
  exact W
end
theorem sp_law_of {K : Fg} {H : Hp} {a : Addr} {ns : List Int} (h1 : ns.length ≤ 63) (h2 : SqL K H a (ns.map V.int)) : sp_law K [.ref a] H (fun v _ => v = .bl true) fun _ _ _ => False := ⟨_, rfl, a, ns, rfl, h2, h1, fun _ => rfl⟩
end Law

namespace Law
open PySem PySem.Spec PyProof.Rows L2 Sw
section
variable {P : Program} {w : World} {K : Fg} {mg : Str → Option Value} {base : Heap}
theorem okL__law_same (T : Tx K mg w) (c__law_is_whole : Cal P w K mg base 1 "_law_is_whole" ["thing"] (sp__law_is_whole K))  : Cal P w K mg base 7 "_law_same" ["found", "due"] (sp__law_same K) := okn__law_same T c__law_is_whole  5
end
end Law

namespace Law
open PySem PySem.Spec PyProof.Rows L2 Sw
theorem all_ok {P : Program} {w : World} {K : Fg} {mg : Str → Option Value} {base : Heap} {fd : FuncData} (T : Tx K mg w) (F_law : FunD K "law" "law" (defArgs s_law) (defBody s_law) (defScope s_law) [] [] (He.ga K "law") fd) : FnG P w K mg base 10 (He.ga K "law") fd ["script"] (sp_law K) := by
  have c_is_whole := ok_is_whole (P := P) (w := w) (base := base) T  
  have c_is_within := ok_is_within (P := P) (w := w) (base := base) T (c_is_whole := c_is_whole) 
  have c_Machine_seeds := ok_Machine_seeds (P := P) (w := w) (base := base) T  
  have c_Machine_parts := ok_Machine_parts (P := P) (w := w) (base := base) T  
  have c_Machine_is_path := ok_Machine_is_path (P := P) (w := w) (base := base) T (c_is_within := c_is_within) (c_Machine_parts := c_Machine_parts) 
  have c_Machine_length := ok_Machine_length (P := P) (w := w) (base := base) T  
  have c_is_part := ok_is_part (P := P) (w := w) (base := base) T (c_is_within := c_is_within) (c_Machine_seeds := c_Machine_seeds) (c_Machine_is_path := c_Machine_is_path) (c_Machine_length := c_Machine_length) 
  have c_need_part := ok_need_part (P := P) (w := w) (base := base) T (c_is_part := c_is_part) (ex_NoRow T)
  have c_first_unlike := ok_first_unlike (P := P) (w := w) (base := base) T  
  have c_meeting := ok_meeting (P := P) (w := w) (base := base) T (c_need_part := c_need_part) (c_first_unlike := c_first_unlike) 
  have c_need_much := ok_need_much (P := P) (w := w) (base := base) T (c_is_within := c_is_within) (ex_NoNumber T)
  have c_need_odd := ok_need_odd (P := P) (w := w) (base := base) T (c_need_much := c_need_much) (ex_NoNumber T)
  have c_need_far := ok_need_far (P := P) (w := w) (base := base) T (c_is_within := c_is_within) (ex_NoNumber T)
  have c_Cross_levels := ok_Cross_levels (P := P) (w := w) (base := base) T  
  have c_Times_levels := ok_Times_levels (P := P) (w := w) (base := base) T  
  have c_Rise_levels := ok_Rise_levels (P := P) (w := w) (base := base) T  
  have c_Plus_levels := ok_Plus_levels (P := P) (w := w) (base := base) T  
  have c_Turn_levels := ok_Turn_levels (P := P) (w := w) (base := base) T  
  have c_Fold_levels := ok_Fold_levels (P := P) (w := w) (base := base) T  
  have c_need_step := ok_need_step (P := P) (w := w) (base := base) T (c_Cross_levels := c_Cross_levels) (c_Times_levels := c_Times_levels) (c_Rise_levels := c_Rise_levels) (c_Plus_levels := c_Plus_levels) (c_Turn_levels := c_Turn_levels) (c_Fold_levels := c_Fold_levels) (ex_NoStep T)
  have c__law_cell_at := ok__law_cell_at (P := P) (w := w) (base := base) T  
  have c__law_box := ok__law_box (P := P) (w := w) (base := base) T  
  have c__law_take := ok__law_take (P := P) (w := w) (base := base) T  
  have c__law_is_whole := ok__law_is_whole (P := P) (w := w) (base := base) T  
  have c__law_step := ok__law_step (P := P) (w := w) (base := base) T (c__law_take := c__law_take) 
  have c__law_machine := ok__law_machine (P := P) (w := w) (base := base) T (c__law_take := c__law_take) (c__law_step := c__law_step) 
  have c_sinit_Plus := ok_sinit_Plus (P := P) (w := w) (base := base) T  
  have c_Plus_init := ok_Plus_init (P := P) (w := w) (base := base) T (c_need_much := c_need_much) (c_sinit_Plus := c_sinit_Plus) 
  have c_sinit_Times := ok_sinit_Times (P := P) (w := w) (base := base) T  
  have c_Times_init := ok_Times_init (P := P) (w := w) (base := base) T (c_need_odd := c_need_odd) (c_sinit_Times := c_sinit_Times) 
  have c_sinit_Cross := ok_sinit_Cross (P := P) (w := w) (base := base) T  
  have c_Cross_init := ok_Cross_init (P := P) (w := w) (base := base) T (c_need_much := c_need_much) (c_sinit_Cross := c_sinit_Cross) 
  have c_sinit_Fold := ok_sinit_Fold (P := P) (w := w) (base := base) T  
  have c_Fold_init := ok_Fold_init (P := P) (w := w) (base := base) T (c_need_far := c_need_far) (c_sinit_Fold := c_sinit_Fold) 
  have c_sinit_Rise := ok_sinit_Rise (P := P) (w := w) (base := base) T  
  have c_Rise_init := ok_Rise_init (P := P) (w := w) (base := base) T (c_need_far := c_need_far) (c_sinit_Rise := c_sinit_Rise) 
  have c_sinit_Turn := ok_sinit_Turn (P := P) (w := w) (base := base) T  
  have c_Turn_init := ok_Turn_init (P := P) (w := w) (base := base) T (c_need_far := c_need_far) (c_sinit_Turn := c_sinit_Turn) 
  have c_sinit_Chain := ok_sinit_Chain (P := P) (w := w) (base := base) T  
  have c_Chain_init := ok_Chain_init (P := P) (w := w) (base := base) T (c_sinit_Chain := c_sinit_Chain) (c_need_step := c_need_step) (ex_NoStep T)
  have c_Machine_init := ok_Machine_init (P := P) (w := w) (base := base) T (c_is_within := c_is_within) (c_Chain_init := c_Chain_init) (ex_NoMachine T)
  have c__law_made := ok__law_made (P := P) (w := w) (base := base) T (c_Plus_init := c_Plus_init) (c_Times_init := c_Times_init) (c_Cross_init := c_Cross_init) (c_Fold_init := c_Fold_init) (c_Rise_init := c_Rise_init) (c_Turn_init := c_Turn_init) (c_Machine_init := c_Machine_init) 
  have c__law_onward := ok__law_onward (P := P) (w := w) (base := base) T  
  have c__law_state_by := ok__law_state_by (P := P) (w := w) (base := base) T (c__law_onward := c__law_onward) 
  have c__law_state := ok__law_state (P := P) (w := w) (base := base) T (c__law_state_by := c__law_state_by) 
  have c__law_seed := ok__law_seed (P := P) (w := w) (base := base) T (c__law_take := c__law_take) 
  have c__law_path := ok__law_path (P := P) (w := w) (base := base) T (c__law_take := c__law_take) 
  have c__law_same := okL__law_same (P := P) (w := w) (base := base) T (c__law_is_whole := c__law_is_whole) 
  have c__law_stretch := ok__law_stretch (P := P) (w := w) (base := base) T (c__law_take := c__law_take) (c__law_seed := c__law_seed) (c__law_path := c__law_path) 
  have c__law_no_stretch := ok__law_no_stretch (P := P) (w := w) (base := base) T (c__law_take := c__law_take) 
  have c__law_near := ok__law_near (P := P) (w := w) (base := base) T (c__law_take := c__law_take) (c__law_stretch := c__law_stretch) 
  have c__law_meeting := ok__law_meeting (P := P) (w := w) (base := base) T  
  have c__law_numbers := ok__law_numbers (P := P) (w := w) (base := base) T (c__law_state := c__law_state) 
  have c__law_very := ok__law_very (P := P) (w := w) (base := base) T  
  have c__law_refused := ok__law_refused (P := P) (w := w) (base := base) T (c_meeting := c_meeting) (c__law_very := c__law_very) 
  have c__law_told_right := ok__law_told_right (P := P) (w := w) (base := base) T (c_meeting := c_meeting) (c__law_same := c__law_same) (c__law_meeting := c__law_meeting) (c__law_numbers := c__law_numbers) 
  exact ok_law T F_law c__law_cell_at c__law_box c__law_machine c__law_made c__law_stretch c__law_no_stretch c__law_near c__law_refused c__law_told_right
theorem fin {P : Program} {w : World} {K : Fg} {mg : Str → Option Value} {h : Heap} {fa : Addr} (KX : K.In h) (G : h.Ns mainGlobals mg) (c : sayT fp fn ts w K) (hmg : mg ("law" : Str) = some (.ref fa)) :
    ∃ (K : PySem.W.Frag) (fd : FuncData) (sp : Sp), K.In h ∧ (∀ (s : Shared) (u : Value), BindsTo s fd ⟨[u], []⟩ [("script", u)]) ∧
        (∀ (H : Hp) (a : Addr) (ns : List Int), ns.length ≤ 63 → Only H → SqL K H a (ns.map V.int) → sp [.ref a] H (fun v _ => v = .bl true) fun _ _ _ => False) ∧
        ∀ base : Heap, FnG P w K mg base 10 fa fd ["script"] sp := by
  have T := tx_mk KX G c
  have e : fa = He.ga K "law" := Value.ref.inj (Option.some.inj (hmg.symm.trans T.g_law))
  exact fin_mk KX e T.F_law (fun _ _ _ _ _ _ us hl => match us, hl with | [_], _ => rfl) (fun H a ns h1 h2 => sp_law_of h1 h2) (fun fd base F => all_ok T F)
abbrev R : PySem.W.OpenRow := PySem.W.OpenLaw.row PySem.Challenge.rw_splitwide_k68_whole_stretches_that_meet
abbrev hk : PySem.W.Hook := hkT 4 fp fn ts
def ob (s : PySem.W.SharedT) : AlX := obT fp fn ts (He.frG (HandSHeadRun.getT s) (asZ (HandSHeadRun.getT s) 4))
theorem ob_eq (s : PySem.W.SharedT) : ob s = hk.obs s.abs := obT_eq (HandSHeadRun.getT_eq s)
def loose : List Str := (["_wall", "SeedError", "NoNumber", "NoStep", "NoMachine", "NoRow", "is_whole", "is_within", "is_part", "need_part", "first_unlike", "meeting", "need_much", "need_odd", "need_far", "Step", "Plus", "Times", "Cross", "Fold", "Rise", "Turn", "need_step", "Chain", "Machine", "_law_cell_at", "_law_box", "_law_take", "_law_is_whole", "_law_step"] : List Str) ++ (["_law_machine", "_law_made", "_law_onward", "_law_state_by", "_law_state", "_law_seed", "_law_path", "_law_same", "_law_stretch", "_law_no_stretch", "_law_near", "_law_meeting", "_law_numbers", "_law_very", "_law_refused", "_law_told_right", "MOST_MUCH", "MOST_FAR", "MOST_LEVELS", "MOST_STEPS", "BOUNDS", "LEAST_WIDTH", "MOST_WIDTH"] : List Str)
theorem run (w : World) : HandSHeadRun.RunEq R (PySem.W.view R.prog [60]) hk ob 20000 loose w := by
  intro os
  kernel_rfl
end Law
open PySem PySem.W PySem.Calls PyProof.Rows
theorem PySem.Challenge.cw_splitwide_k68_whole_stretches_that_meet_holds : PySem.Challenge.rw_splitwide_k68_whole_stretches_that_meet.Holds := by
  w_on; o_law
  refine HandSHeadRun.head_any (r := OpenLaw.row PySem.Challenge.rw_splitwide_k68_whole_stretches_that_meet) (q := view (OpenLaw.row PySem.Challenge.rw_splitwide_k68_whole_stretches_that_meet).prog [60]) (H := Law.hk) (ob := Law.ob) (M := 20000) (loose := Law.loose) (d := HandSHeadRun.topDef (OpenLaw.row PySem.Challenge.rw_splitwide_k68_whole_stretches_that_meet).prog 60) (kwd := []) Law.ob_eq
    (by kernel_rfl) (fun s => by kernel_rfl) Law.run (by kernel_rfl) (by kernel_rfl) (by kernel_rfl) (by rfl) (by first | assumption | decide +kernel) (by decide +kernel) ⟨rfl, rfl, rfl, rfl, rfl, by decide +kernel⟩ ?hw ?hc
  case hw => w_witness2
  case hc =>
    refine Sw.walk_top (l := PySem.Challenge.rw_splitwide_k68_whole_stretches_that_meet) (n := 63) (k := 10) (x := "script") rfl (by decide) (by kernel_rfl) ⟨⟨rfl, by decide, by decide⟩, rfl⟩ ?F
    intro w mg fa h Y G hmg0
    obtain ⟨K, KX, c⟩ := Y
    have hmg : mg ("law" : PySem.Str) = some (.ref fa) := by
      have e : (HandSHeadRun.topDef (OpenLaw.row PySem.Challenge.rw_splitwide_k68_whole_stretches_that_meet).prog 60).name = ("law" : PySem.Str) := by kernel_rfl
      rw [← e]
      exact hmg0
    exact Law.fin KX G c hmg
