import PyProof.Rows.All
import Wide.All
import OpenK.AllK
import Wide.FinOn
import HandS.ForMost
import HandS.Exc
import HandS.ExcOwn
import HandS.ExcInit
import HandS.ExcIs
import HandS.WordsExc
import HandS.Defaults
import HandS.IsInst
import HandS.CallLocal
import HandS.RevRange
import HandS.Rev
import HandS.Zip
import HandS.Style
import HandS.Wide
import HandS.WideBits
import HandS.Head0
import HandS.Head1
import HandS.Head2
import HandS.HeadEnd
import HandS.HeadHook1
import HandS.HeadHook2
import HandS.ExcField
import HandS.HeadWalk
import HandS.DeepEq
import HandS.TupAny
import HandS.More
import HandS.HeadHook3
import HandS.ExcValue
import HandS.Iter
import HandS.Dict
import HandS.WordsDict
import HandS.TryMany
import HandS.DictComp
import KE.KTupSum
import HandS.TupMul
import PyProof.ReprReads
import PyProof.ReprRoads
import PyProof.ReprLen
import PySem.Challenge.RW_splitwide_k62_pairs_and_rows
import HandS.Flt
set_option Elab.async false
set_option linter.all false
set_option maxRecDepth 100000
set_option maxHeartbeats 0
/-! Defs that are called where no display is under way: the room with the guards. -/
namespace Sw
open PySem PySem.Spec PyProof.Rows L2
abbrev Fg := PySem.W.Frag
/-- room for k calls, and no repr is going on -/
structure Rm (k : Nat) (A : Around) : Prop where
  r : Room k A
  gd : A.guards = some []
theorem Rm.mono {j k : Nat} {A : Around} (q : Rm k A) (h : j ≤ k) : Rm j A := ⟨q.r.mono h, q.gd⟩
theorem Rm.deeper {k : Nat} {A : Around} (q : Rm (k + 1) A) (env : Env) : Rm k (A.deeper env) := ⟨q.r.deeper env, q.gd⟩
theorem Rm.make {k : Nat} {A : Around} (q : Rm (k + 1) A) (C : Addr) (us : List Value) : Rm k (A.under (.builtin "type.__call__" ⟨.ref C :: us, []⟩)) := ⟨q.r.make C us [], by simp [Around.under, Code.weight, Code.guards, Code.isGuard, Code.isCreation, Code.isCaller, pushGuards, guardIds, q.gd]⟩
theorem Rm.units {k : Nat} {A : Around} (q : Rm k A) : A.units + 64 < cLine := q.r.units
/-- a def's promise, kept wherever such room is -/
structure FnG (P : Program) (w : World) (K : Fg) (mg : Str → Option Value) (base : Heap) (k : Nat) (f : Addr) (fd : FuncData) (ps : List Str) (sp : Sp) : Prop where
  n : ∀ vs H Q E, sp vs H Q E → vs.length = ps.length
  go : ∀ (A : Around) (o : List Env) (s : Shared) (H : Hp) (ar : Args) (us : List Value) (vs : List V) (Q : VK) (E : XK), Rm k A → Env0 P w K mg base A o s H → BindsTo s fd ar (ps.zip us) → Vals vs us → sp vs H Q E →
    codeAny (model P w) A (.call (.ref f) ar) (CR (L2.CX P w) o P w H s Q E) s
section
variable {P : Program} {w : World} {K : Fg} {mg : Str → Option Value} {base : Heap} {k j : Nat} {f : Addr} {fd : FuncData} {ps : List Str} {sp sp' : Sp}
theorem FnG.weak (F : FnG P w K mg base k f fd ps sp) (h : ∀ vs H Q E, sp' vs H Q E → sp vs H Q E) : FnG P w K mg base k f fd ps sp' :=
  ⟨fun vs H Q E q => F.n vs H Q E (h _ _ _ _ q), fun A o s H ar us vs Q E m e b r q => F.go A o s H ar us vs Q E m e b r (h _ _ _ _ q)⟩
theorem FnG.of {CX : CXT} (F : FnOk P w K mg base (L2.CX P w) k f fd ps sp) : FnG P w K mg base k f fd ps sp :=
  ⟨F.len, fun A o s H ar us vs Q E m e b r q => F.run A o s H ar us vs Q E m.r e b r q⟩
/-- a body that is read gives the promise -/
theorem fnG_of {x qual : Str} {params : Arguments} {body : List Stmt} {scope : Scope} {dvs : List V} {kws : List (Str × V)} {N : List Str} (D : FunD K x qual params body scope dvs kws f fd) (S : FnScope N ps scope) (n : ∀ vs H Q E, sp vs H Q E → vs.length = ps.length)
    (hb : ∀ (cdv : Value) (A : Around) (o : List Env) (s : Shared) (H : Hp) (vs : List V) (Q : VK) (E : XK), Rm k (A.deeper (envOfC qual scope s.heap.objs.size f cdv)) → sp vs H Q E →
      ∃ t, PSs (cxOf (L2.CX P w) P w K mg base N qual scope f cdv A o s H E) body t ∧ t { nx := fun _ H' => Q .non H', rt := Q } (start N vs) H) : FnG P w K mg base (k + 1) f fd ps sp := by
  obtain ⟨oc, od, dV, kV, doc, pm, an, cdv, ct, osl, rfl, lk, hcd, _, _⟩ := D.ex
  refine ⟨n, ?_⟩
  intro A o s H ar us vs Q E m e b r q
  have vl := n vs H Q E q
  have old : ∀ b o, base.get? b = some o → s.heap.get? b = some o := fun b o z => (e.bs b o z).1
  have kIn : K.In s.heap := e.mod.kin.keeps old
  have nl : s.heap.NoLimit := e.mod.nolimit.keeps old
  have kinds : ∀ y ∈ ps.zip us, scope.names.lookup y.1 = some .local ∨ (scope.names.lookup y.1 = some .cell ∧ ((cellsFrom (s.heap.objs.size + 1) scope.names []).lookup y.1).isSome = true) := by
    rintro ⟨y, u⟩ my
    exact (S.par y (List.of_mem_zip my).1).imp id fun z => ⟨z, PySem.W.cellsFrom_some _ _ _ (.inl z)⟩
  refine codeAny_call_function m.r.depth (kIn _ _ lk) rfl S.co S.gen rfl (PySem.W.codeRec_of kIn hcd) (b _ _ _ _ (wpAny_newFunctionEnv_cells S.kind kinds fun env ee s1 x => ?_))
  subst ee
  obtain ⟨t, pt, qt⟩ := hb cdv A o s H vs Q E (m.deeper _) q
  refine ⟨nl.keeps x.toInCall.keep, codeAny_func (wpAny_mono (pt.run [] s1 (start N vs) H _ (inv_start S m.r.hd e vl r x) qt) ?_ fun _ _ z => z)⟩
  intro fl s2 z
  have ends : ∀ {σ2 : L2.St} {H2 : Hp} {v : V} {u : Value}, Inv (cxOf (L2.CX P w) P w K mg base N qual scope f cdv A o s H E) [] σ2 H2 s2 → RelV v u → Q v H2 → CE o P w H s Q u s2 := by
    intro σ2 H2 v u J rv qv
    exact ⟨v, H2, J.os, J.bare, J.base, J.hok, rv, qv⟩
  rcases fl with _ | _ | _ | u
  all_goals first
    | (obtain ⟨σ2, H2, J, qv⟩ := z; first | exact False.elim qv | exact ends (v := .non) (u := .none) J rfl qv)
    | (obtain ⟨v, σ2, H2, J, rv, qv⟩ := z; exact ends J rv qv)
end
/-! ### from within a body -/
section
variable {X : Cx} {k j : Nat} {f C : Addr} {fd : FuncData} {ps : List Str} {sp : Sp} {E : L2.St → XK} {pins : List (Addr × Obj)} {σ : L2.St} {H : Hp} {s : Shared} {Q : VK} {us : List Value} {vs : List V}
theorem run_fnG (F : FnG X.prog X.w X.K X.mg X.base k f fd ps sp) (m : Rm k X.A) (hb : Binds X.K fd ps []) (hx : PassesAt (L2.CX X.prog X.w) X σ (E σ)) (I : Inv X pins σ H s) (r : Vals vs us) (q : sp vs H Q (E σ)) :
    wpAny (model X.prog X.w) X.A (call (.ref f) us) (EP X pins σ Q) X.xe s := by
  have ul : us.length = ps.length := r.length.symm.trans (F.n _ _ _ _ q)
  have bd : BindsTo s fd ⟨us, []⟩ (ps.zip us) := by simpa using hb s us I.kIn (by simpa using ul)
  refine wpAny_call (codeAny_mono (F.go X.A X.stack s H ⟨us, []⟩ us vs Q (E σ) m I.env0 bd r q) ?_)
  rintro (e | (_ | _ | _ | u)) s2 z <;> first | exact z.elim | exact hx pins H s e s2 I z | exact I.after z
theorem run_makG (M : Mk X.K C f) (F : FnG X.prog X.w X.K X.mg X.base k f fd ps sp) (m : Rm (k + 1) X.A) (hb : Binds X.K fd ps []) (hx : PassesAt (L2.CX X.prog X.w) X σ (E σ)) (I : Inv X pins σ H s) (r : Vals vs us)
    (q : ∀ x dx, H x = none → H dx = none → dx ≠ x → sp (.ref x :: vs) (upd (upd H dx (.own x)) x (.ins C dx [])) (fun v H2 => v = .non ∧ Q (.ref x) H2) (E σ)) : wpAny (model X.prog X.w) X.A (call (.ref C) us) (EP X pins σ Q) X.xe s := by
  have fr := fun b (h : s.heap.objs.size ≤ b) => I.hok.fresh h
  have q1 := q (s.heap.objs.size + 1) s.heap.objs.size (fr _ (Nat.le_succ _)) (fr _ (Nat.le_refl _)) (Nat.ne_of_lt (Nat.lt_succ_self _))
  have J := Inv.made (C := C) I
  have r1 : Vals (V.ref (s.heap.objs.size + 1) :: vs) (Value.ref (s.heap.objs.size + 1) :: us) := .cons rfl r
  have ul : (Value.ref (s.heap.objs.size + 1) :: us).length = ps.length := r1.length.symm.trans (F.n _ _ _ _ q1)
  refine wpAny_call (make_map (f := f) I.kIn M.makes M.init (beq_iff_eq.mp M.fn) (codeAny_mono (F.go _ X.stack _ _ ⟨_, []⟩ _ _ _ (E σ) (m.make C us) (J.env0.make C us []) (by simpa using hb _ (Value.ref (s.heap.objs.size + 1) :: us) J.kIn (by simpa using ul)) r1 q1) ?_))
  rintro (e | (_ | _ | _ | u)) s2 z
  · exact hx pins _ _ e s2 J z
  · exact z.elim
  · exact z.elim
  · exact z.elim
  · obtain ⟨v, H2, J2, rv, ev, q2⟩ := J.after z
    subst ev
    exact ⟨rv, V.ref (s.heap.objs.size + 1), H2, J2, rfl, q2⟩
end
/-! ### the top's call -/
/-- the law's def called on the script, from a heap in which the script is known -/
theorem top_from {P : Program} {w : World} {K : Fg} {mg mb : Str → Option Value} {k : Nat} {fa a : Addr} {fd : FuncData} {x : Str} {sp : Sp} {s : Shared} {vs : List Value} {H : Hp} (kIn : K.In s.heap) (hns : s.heap.Ns mainGlobals mg) (hb : s.heap.Ns builtinsNs mb)
    (hbb : ∀ x : Str, x ≠ "__name__" → mb x = bootBuiltins x) (hlim : s.heap.NoLimit) (hg : s.gens = #[]) (ha : s.heap.get? a = some { cls := .type "list", data := .seq vs.toArray }) (m : Rm k callerA)
    (F : ∀ base : Heap, FnG P w K mg base k fa fd [x] sp) (bd : ∀ (s : Shared) (u : Value), BindsTo s fd ⟨[u], []⟩ [(x, u)]) (hO : Only H) (q : sp [.ref a] H (fun v _ => v = .bl true) fun _ _ _ => False) (ok : HOk P w H s.heap)
    (one : ∀ b, H b ≠ none → b = a) (no : H a ≠ none → K.lookup a = none) :
    codeAny (model P w) callerA (.call (.ref fa) ⟨[.ref a], []⟩) (fun r s' => r = .ok (.ret (.bool true)) ∧ OldK s.heap s'.heap ∧ s'.os = s.os ∧ AllBare s'.gens) s := by
  have known : ∀ {b : Addr} {u : HO}, H b = some u → b = a := fun {b u} z => one b (by rw [z]; exact fun c => nomatch c)
  have dic : ∀ {b : Addr} {o : Obj} {es : Array DictEntry} {ep : Nat}, s.heap.get? b = some o → o.data = .dict es ep → H b = none := by
    intro b o es ep e d
    match z : H b with
    | none => rfl
    | some u =>
      have eb := known z
      rw [eb, ha] at e
      injection e with e
      rw [← e] at d
      exact nomatch d
  have ns2 : ∀ {b : Addr} {mm : Str → Option Value}, s.heap.Ns b mm → (hidT s.heap H).Ns b mm := by
    rintro b mm ⟨o, es, ep, e, d, z⟩
    exact ⟨o, es, ep, hidT_get e (dic e d), d, z⟩
  have kb : K.In (hidT s.heap H) := by
    intro b o e
    refine hidT_get (kIn b o e) ?_
    match z : H b with
    | none => rfl
    | some u =>
      have eb := known z
      have n := no (by rw [← eb, z]; exact fun c => nomatch c)
      rw [eb, n] at e
      exact nomatch e
  have mod : Mod K mg (hidT s.heap H) := by
    obtain ⟨mc, h1, h2⟩ := hlim
    exact ⟨kb, ns2 hns, ⟨mb, ns2 hb, hbb⟩, mc, ns2 h1, h2⟩
  have env : Env0 P w K mg (hidT s.heap H) callerA [] s H := ⟨rfl, mod, fun b o e => of_hidT e, Nat.le_of_eq (hidT_size _ _), trivial, fun b z => (nomatch z), ok, .of_eq hg⟩
  refine codeAny_mono ((F _).go callerA [] s H ⟨[.ref a], []⟩ [.ref a] [.ref a] _ _ m env (bd s (.ref a)) (.cons rfl .nil) q) ?_
  rintro (e | (_ | _ | _ | u)) s2 z
  · obtain ⟨_, _, _, _, _, _, _, _, _, _, _, _, y⟩ := z
    exact y.elim
  · exact z.elim
  · exact z.elim
  · exact z.elim
  obtain ⟨v, H2, os, bare, un, ok2, rv, ev⟩ := z
  have ev : v = .bl true := ev
  rw [ev] at rv
  have eu : u = .bool true := rv
  refine ⟨by rw [eu], OldK.of_keep ?_, os, bare⟩
  intro b o e
  match z : H b with
  | none => exact un.keep b o e z (fun y => (nomatch y)) (fun y => (nomatch y))
  | some u2 =>
    rcases hO b with y | ⟨ob, xs, y⟩
    · rw [z] at y
      exact nomatch y
    · have y2 := un.frzs b ob _ y
      have g1 := (ok b _ y).1
      have g2 := (ok2 b _ y2).1
      rw [g1] at e
      injection e with e
      rw [← e]
      exact g2
theorem top_call {P : Program} {w : World} {K : Fg} {mg mb : Str → Option Value} {k : Nat} {fa a : Addr} {fd : FuncData} {x : Str} {sp : Sp} {s : Shared} {vs : List Value} {ns : List Int} (kIn : K.In s.heap) (hns : s.heap.Ns mainGlobals mg) (hb : s.heap.Ns builtinsNs mb)
    (hbb : ∀ x : Str, x ≠ "__name__" → mb x = bootBuiltins x) (hlim : s.heap.NoLimit) (hg : s.gens = #[]) (ha : s.heap.get? a = some { cls := .type "list", data := .seq vs.toArray }) (hi : IntsAre vs ns) (hl : ns.length ≤ sizeLine) (m : Rm k callerA)
    (F : ∀ base : Heap, FnG P w K mg base k fa fd [x] sp) (bd : ∀ (s : Shared) (u : Value), BindsTo s fd ⟨[u], []⟩ [(x, u)]) (q : ∀ H : Hp, Only H → SqL K H a (ns.map V.int) → sp [.ref a] H (fun v _ => v = .bl true) fun _ _ _ => False) :
    codeAny (model P w) callerA (.call (.ref fa) ⟨[.ref a], []⟩) (fun r s' => r = .ok (.ret (.bool true)) ∧ OldK s.heap s'.heap ∧ s'.os = s.os ∧ AllBare s'.gens) s := by
  have rv := vals_ints hi
  have lv := hi.length
  match lk : K.lookup a with
  | some o =>
    have e := kIn a o lk
    rw [ha] at e
    injection e with e
    have on : Only fun _ => none := fun _ => .inl rfl
    have sq : SqL K (fun _ => none) a (ns.map V.int) := by
      refine .inr ⟨o, vs.toArray, ?_⟩
      rw [← e]
      exact ⟨_, by rw [lk, ← e], rfl, rfl, rfl, by rw [List.size_toArray, lv]; exact hl, by simpa using rv⟩
    exact top_from kIn hns hb hbb hlim hg ha m F bd on (q _ on sq) (fun b u z => nomatch z) (fun b z => (z rfl).elim) fun z => (z rfl).elim
  | none =>
    have at_ : ∀ (b : Addr) (u : HO), (if b = a then some (HO.frz { cls := .type "list", data := .seq vs.toArray } (.lst (ns.map V.int))) else none) = some u → b = a ∧ u = .frz { cls := .type "list", data := .seq vs.toArray } (.lst (ns.map V.int)) := by
      intro b u z
      by_cases eb : b = a
      · rw [if_pos eb] at z
        injection z with z
        exact ⟨eb, z.symm⟩
      · rw [if_neg eb] at z
        exact nomatch z
    have on : Only fun b => if b = a then some (HO.frz { cls := .type "list", data := .seq vs.toArray } (.lst (ns.map V.int))) else none := by
      intro b
      by_cases eb : b = a
      · exact .inr ⟨_, _, if_pos eb⟩
      · exact .inl (if_neg eb)
    refine top_from kIn hns hb hbb hlim hg ha m F bd on (q _ on (.inl (.inr ⟨_, if_pos rfl⟩))) ?_ ?_ fun _ => lk
    · intro b u z
      obtain ⟨eb, eu⟩ := at_ b u z
      subst eb eu
      exact ⟨ha, by rw [List.length_map]; exact hl, vs, _, rv, ha⟩
    · intro b z
      match y : (if b = a then some (HO.frz { cls := .type "list", data := .seq vs.toArray } (.lst (ns.map V.int))) else none) with
      | none => exact (z y).elim
      | some u => exact (at_ b u y).1
/-- a law's end over a head by facts -/
theorem walk_top {l : PySem.W.OpenLaw} {n k : Nat} {q : Program} {loose : List Str} {XP : (Str → Option Value) → Heap → Prop} {YP : World → Heap → Prop} {d : DefRec} {x : Str} (hn : l.most = some n) (hn2 : n ≤ sizeLine) (hdf : d.params.defaults = []) (m : Rm k callerA)
    (F : ∀ (w : World) (mg : Str → Option Value) (fa : Addr) (h : Heap), YP w h → h.Ns mainGlobals mg → mg d.name = some (.ref fa) → ∃ (K : Fg) (fd : FuncData) (sp : Sp), K.In h ∧ (∀ (s : Shared) (u : Value), BindsTo s fd ⟨[u], []⟩ [(x, u)]) ∧
      (∀ (H : Hp) (a : Addr) (ns : List Int), ns.length ≤ n → Only H → SqL K H a (ns.map V.int) → sp [.ref a] H (fun v _ => v = .bl true) fun _ _ _ => False) ∧ ∀ base : Heap, FnG l.prog w K mg base k fa fd [x] sp) :
    PySem.W.WalkO q loose XP YP l.row.toRowW d [] (fun f vs => PySem.call f vs) := by
  refine Att.attach_call hn hdf fun w s0 s1 mg mb fa o pm cd doc a vs ns G Y ho hd hcd hm hobj hi hlen hg => ?_
  obtain ⟨K, fd, sp, kIn, hb, hsp, hF⟩ := F w mg fa _ Y G.T.g hm
  exact top_call kIn G.T.g G.T.b G.T.builtins G.T.nolimit hg hobj hi (Nat.le_trans hlen hn2) m hF hb fun H hO hS => hsp H a ns hlen hO hS
end Sw

/-! Own words over the layer: the head's facts as a Bool, callable defs, errors of the program's own. -/
namespace Sw
open PySem PySem.Spec PyProof.Rows L2
/-! ### the head: any Bool over the written part, and the defs -/
def obX (p : Fg → Bool) (fn : List He.DefD) (K : Fg) : He.AlD := (p K && fn.all (fun d => d.ok K), fn.map fun d => He.fnW K d.at_)
/-- what the module's names, and the table of the classes' own, reach in n steps -/
def asX (g : Addr → Option Obj) : Nat → List Addr
  | 0 => [mainGlobals, PySem.cStatics]
  | n + 1 => He.growD g (asX g n)
/-- .. and the table of the modules -/
def asZ (g : Addr → Option Obj) (n : Nat) : List Addr := PySem.sysModules :: asX g n
def sayX (p : Fg → Bool) (fn : List He.DefD) (K : Fg) : Prop := obX p fn K = He.valD fn
def hkX (n : Nat) (p : Fg → Bool) (fn : List He.DefD) : PySem.W.Hook where
  α := He.AlD
  obs := fun s => obX p fn (He.frG s.heap.get? (asZ s.heap.get? n))
  val := fun _ => He.valD fn
  says := fun _ h => ∃ K : Fg, K.In h ∧ sayX p fn K
  of := fun _ _ e => ⟨_, He.frG_in, e⟩
  keeps := fun _ _ _ ⟨K, hK, c⟩ k => ⟨K, PySem.W.Frag.In.keeps hK k, c⟩
theorem obX_eq {n : Nat} {p : Fg → Bool} {fn : List He.DefD} {g : Addr → Option Obj} {s : Shared} (h : ∀ a, g a = s.heap.get? a) : obX p fn (He.frG g (asZ g n)) = (hkX n p fn).obs s := by
  rw [show g = s.heap.get? from funext h] <;> rfl
theorem sayX.p {p : Fg → Bool} {fn : List He.DefD} {K : Fg} (c : sayX p fn K) : p K = true := (He.ba (congrArg (·.1) c)).1
theorem sayX.def_ {p : Fg → Bool} {fn : List He.DefD} {K : Fg} (c : sayX p fn K) (i : Nat) {d : He.DefD} (h : fn[i]? = some d := by rfl) :
    ∃ fd, FunD K d.name d.qual d.params d.body d.scope (d.dvs K) (d.kws K) (He.fAd K d.at_) fd := by
  have c2 : (fn.all fun d => d.ok K) = true := (He.ba (congrArg (·.1) c)).2
  have e : fn.map (fun d => He.fnW K d.at_) = fn.map He.DefD.val := congrArg (·.2) c
  have e2 : (fn.map fun d => He.fnW K d.at_)[i]? = (fn.map He.DefD.val)[i]? := by rw [e]
  rw [List.getElem?_map, List.getElem?_map, h] at e2
  exact He.DefD.funD (Option.some.inj e2) (List.all_eq_true.mp c2 d (List.mem_of_getElem? h))
/-! ### a def that may be called by its name -/
structure Cal (P : Program) (w : World) (K : Fg) (mg : Str → Option Value) (base : Heap) (k : Nat) (x : Str) (ps : List Str) (sp : Sp) : Prop where
  ex : ∃ fd : FuncData, FnG P w K mg base k (He.ga K x) fd ps sp ∧ Binds K fd ps []
  at_ : mg x = some (.ref (He.ga K x))
  kp : PySem.W.keepIn K (.ref (He.ga K x)) = true
section
variable {X : Cx} {k j : Nat} {x : Str} {ps : List Str} {sp : Sp} {E : XK} {p pos : Pos} {e : Expr} {es : List Expr} {t : TA}
theorem pe_cal (c : Cal X.prog X.w X.K X.mg X.base k x ps sp) (hr : Rm j X.A) (hk : k ≤ j) (hx : Passes (L2.CX X.prog X.w) X E) (hg : Gl X x) (ha : PA X (e :: es) t)
    (hd : (x == ("__debug__" : Str)) = false := by decide) (he : starEach (e :: es) X.env = (false, eval e X.env) :: starEach es X.env := by rfl) (hpl : (backTo pos (starEach es X.env)).any (·.1) = false := by rfl) :
    PE X (.Call (.Name x p) (e :: es) [] pos) (tCallS sp (fun _ => E) t) := by
  obtain ⟨fd, F, b⟩ := c.ex
  refine ⟨fun pins s σ H Q I h => wpAny_Call_Name_kw (ld_glob I hg c.at_ ?_ hd)⟩
  refine PySem.W.callWith_K (h₀ := X.base) I.ok.mod.kin c.kp (thn (ha.run pos pins s σ H _ I h) fun us s1 ⟨vs, H1, I1, r, q⟩ => ⟨I1.kIn, ?_⟩) he hpl
  exact run_fnG (E := fun _ => E) F (hr.mono hk) b (fun pins H s e s' I c => hx pins σ H s e s' I c) I1 r q
theorem pe_cal0 (c : Cal X.prog X.w X.K X.mg X.base k x ps sp) (hr : Rm j X.A) (hk : k ≤ j) (hx : Passes (L2.CX X.prog X.w) X E) (hg : Gl X x)
    (hd : (x == ("__debug__" : Str)) = false := by decide) : PE X (.Call (.Name x p) [] [] pos) (tCallS sp (fun _ => E) tNil) := by
  obtain ⟨fd, F, b⟩ := c.ex
  refine ⟨fun pins s σ H Q I h => wpAny_Call_Name_kw (ld_glob I hg c.at_ ?_ hd)⟩
  exact PySem.W.callWith_K0 I.kIn c.kp (run_fnG (us := []) (E := fun _ => E) F (hr.mono hk) b (fun pins H s e s' I c => hx pins σ H s e s' I c) (I.tok _) .nil h)
/-- within a try's body -/
theorem pe_calS {W : WX} (c : Cal X.prog X.w X.K X.mg X.base k x ps sp) (hr : Rm j X.A) (hk : k ≤ j) (tk : Takes X W) (hg : Gl X x) (ha : PA X (e :: es) t)
    (hd : (x == ("__debug__" : Str)) = false := by decide) (he : starEach (e :: es) X.env = (false, eval e X.env) :: starEach es X.env := by rfl) (hpl : (backTo pos (starEach es X.env)).any (·.1) = false := by rfl) :
    PE X (.Call (.Name x p) (e :: es) [] pos) (tCallS sp (WE W) t) := by
  obtain ⟨fd, F, b⟩ := c.ex
  refine ⟨fun pins s σ H Q I h => wpAny_Call_Name_kw (ld_glob I hg c.at_ ?_ hd)⟩
  refine PySem.W.callWith_K (h₀ := X.base) I.ok.mod.kin c.kp (thn (ha.run pos pins s σ H _ I h) fun us s1 ⟨vs, H1, I1, r, q⟩ => ⟨I1.kIn, ?_⟩) he hpl
  exact run_fnG F (hr.mono hk) b (passAt tk σ) I1 r q
end
/-- one def of the text: its body's reading gives its promise -/
theorem cal_mk {P : Program} {w : World} {K : Fg} {mg : Str → Option Value} {base : Heap} {k : Nat} {x : Str} {N ps : List Str} {sp : Sp} {st : Stmt}
    (F : ∃ fd, FunD K x x (defArgs st) (defBody st) (defScope st) [] [] (He.ga K x) fd) (hm : mg x = some (.ref (He.ga K x))) (S : FnScope N ps (defScope st)) (len : ∀ vs H Q E, sp vs H Q E → vs.length = ps.length)
    (hb : ∀ (kV doc pm : Value) (an : Option Addr) (cdv ct : Value) (us : List Value), us.length = ps.length → bindArgs (PySem.W.fnOf x x (defArgs st) (defBody st) (defScope st) .none kV doc pm an cdv ct) ⟨us, []⟩ = pure (ps.zip us))
    (hbody : ∀ (cdv : Value) (A : Around) (outer : List Env) (s : Shared) (H : Hp) (vs : List V) (Q : VK) (E : XK), Rm k (A.deeper (envOfC x (defScope st) s.heap.objs.size (He.ga K x) cdv)) → sp vs H Q E →
      ∃ t, PSs (cxOf (L2.CX P w) P w K mg base N x (defScope st) (He.ga K x) cdv A outer s H E) (defBody st) t ∧ t { nx := fun _ H' => Q .non H', rt := Q } (start N vs) H) : Cal P w K mg base (k + 1) x ps sp := by
  obtain ⟨fd, F⟩ := F
  exact ⟨⟨fd, fnG_of F S len hbody, F.bindsN hb⟩, hm, F.kp⟩
theorem Cal.imp {P : Program} {w : World} {K : Fg} {mg : Str → Option Value} {base : Heap} {k : Nat} {x : Str} {ps : List Str} {sp sp' : Sp} (c : Cal P w K mg base k x ps sp) (h : ∀ vs H Q E, sp' vs H Q E → sp vs H Q E) :
    Cal P w K mg base k x ps sp' := by
  obtain ⟨⟨fd, F, b⟩, a, kp⟩ := c
  exact ⟨⟨fd, F.weak h, b⟩, a, kp⟩
end Sw

/-! Readings by simp: each reading opened when it stands at its slots and its heap, branches kept shut. -/
namespace Sw
open PySem PySem.Spec PyProof.Rows L2
/-- a branch that waits -/
def Br (b : Bool) (f g : L2.St → Hp → Prop) (σ : L2.St) (H : Hp) : Prop := if b = true then f σ H else g σ H
theorem Br.t {f g : L2.St → Hp → Prop} {σ : L2.St} {H : Hp} : Br true f g σ H = f σ H := by unfold Br; rw [if_pos rfl]
theorem Br.f {f g : L2.St → Hp → Prop} {σ : L2.St} {H : Hp} : Br false f g σ H = g σ H := by unfold Br; rw [if_neg (by decide)]
theorem Br.of {b : Bool} {f g : L2.St → Hp → Prop} {σ : L2.St} {H : Hp} (h1 : b = true → f σ H) (h2 : b = false → g σ H) : Br b f g σ H := by
  cases b with
  | true => rw [Br.t]; exact h1 rfl
  | false => rw [Br.f]; exact h2 rfl
theorem Br.d {p : Prop} [Decidable p] {f g : L2.St → Hp → Prop} {σ : L2.St} {H : Hp} (h1 : p → f σ H) (h2 : ¬ p → g σ H) : Br (decide p) f g σ H := .of (fun h => h1 (of_decide_eq_true h)) fun h => h2 (of_decide_eq_false h)
theorem Br.n {p : Prop} [Decidable p] {f g : L2.St → Hp → Prop} {σ : L2.St} {H : Hp} (h1 : ¬ p → f σ H) (h2 : p → g σ H) : Br (!decide p) f g σ H := .of (fun h => h1 (of_decide_eq_false (by simpa using h))) fun h => h2 (by simpa using h)
/-- a value's branch that waits -/
def Be (b : Bool) (f g : Hp → Prop) (H : Hp) : Prop := if b = true then f H else g H
theorem Be.t {f g : Hp → Prop} {H : Hp} : Be true f g H = f H := by unfold Be; rw [if_pos rfl]
theorem Be.f {f g : Hp → Prop} {H : Hp} : Be false f g H = g H := by unfold Be; rw [if_neg (by decide)]
theorem Be.of {b : Bool} {f g : Hp → Prop} {H : Hp} (h1 : b = true → f H) (h2 : b = false → g H) : Be b f g H := by
  cases b with
  | true => rw [Be.t]; exact h1 rfl
  | false => rw [Be.f]; exact h2 rfl
theorem Be.d {p : Prop} [Decidable p] {f g : Hp → Prop} {H : Hp} (h1 : p → f H) (h2 : ¬ p → g H) : Be (decide p) f g H := .of (fun h => h1 (of_decide_eq_true h)) fun h => h2 (of_decide_eq_false h)
theorem Be.n {p : Prop} [Decidable p] {f g : Hp → Prop} {H : Hp} (h1 : ¬ p → f H) (h2 : p → g H) : Be (!decide p) f g H := .of (fun h => h1 (of_decide_eq_false (by simpa using h))) fun h => h2 (by simpa using h)
theorem upd_at {H : Hp} {a b : Addr} {o : HO} : upd H a o b = if b = a then some o else H b := rfl
theorem rs : (∀ t u D σ H, tSeq t u D σ H = t ⟨u D, D.rt, D.bk, D.ct⟩ σ H) ∧ (∀ D σ H, tNext D σ H = D.nx σ H) ∧ (∀ D σ H, tBreak D σ H = D.bk σ H) ∧ (∀ D σ H, tCont D σ H = D.ct σ H) ∧
    (∀ te g D σ H, tAsg te g D σ H = te σ H fun x H1 => g x σ H1 D.nx) ∧ (∀ te D σ H, tDrop te D σ H = te σ H fun _ H1 => D.nx σ H1) ∧ (∀ te D σ H, tRet te D σ H = te σ H D.rt) ∧ (∀ D σ H, tRetN D σ H = D.rt .non H) ∧
    (∀ c t u D σ H, tIfS c t u D σ H = c σ H fun b H1 => Br b (t D) (u D) σ H1) ∧
    (∀ i j ta D σ H, tPar i j ta D σ H = ta σ H fun vs H1 => ∃ v w, vs = [v, w] ∧ D.nx ((σ.set i (some v)).set j (some w)) H1) ∧
    (∀ i te ti D σ H, tAug i te ti D σ H = ∃ x, σ[i]? = some (some x) ∧ te σ H fun y H1 => ti x y H1 fun z H2 => D.nx (σ.set i (some z)) H2) ∧
    (∀ i v σ H Q, gName i v σ H Q = Q (σ.set i (some v)) H) ∧ (∀ vs σ H Q, gNil vs σ H Q = (vs = [] ∧ Q σ H)) ∧ (∀ t u vs σ H Q, gCons t u vs σ H Q = ∃ v r, vs = v :: r ∧ t v σ H fun σ' H' => u r σ' H' Q) ∧
    (∀ to ti t v σ H Q, gSub to ti t v σ H Q = to σ H fun o H1 => ti σ H1 fun i H2 => t o i v H2 fun H3 => Q σ H3) ∧
    (∀ b f g σ H, Br b f g σ H = Br b f g σ H) := by
  refine ⟨?_, ?_, ?_, ?_, ?_, ?_, ?_, ?_, ?_, ?_, ?_, ?_, ?_, ?_, ?_, ?_⟩ <;> intros <;> rfl
theorem re : (∀ i σ H Q, tVar i σ H Q = ∃ v, σ[i]? = some (some v) ∧ Q v H) ∧ (∀ v σ H Q, tC v σ H Q = Q v H) ∧
    (∀ r ta tb σ H Q, tOp r ta tb σ H Q = ta σ H fun x H1 => tb σ H1 fun y H2 => r x y H2 Q) ∧ (∀ r ta σ H Q, tUn r ta σ H Q = ta σ H fun x H1 => r x H1 Q) ∧
    (∀ g x y H Q, rI0 g x y H Q = ∃ i j, x = .int i ∧ y = .int j ∧ Q (g i j) H) ∧ (∀ C g x y H Q, rI C g x y H Q = ∃ i j, x = .int i ∧ y = .int j ∧ C i j ∧ Q (g i j) H) ∧ (∀ g x H Q, rU g x H Q = ∃ i, x = .int i ∧ Q (g i) H) ∧
    (∀ x y H Q, L2.rEq x y H Q = (scal x y = true ∧ Q (.bl (decide (x = y))) H)) ∧ (∀ x y H Q, L2.rNe x y H Q = (scal x y = true ∧ Q (.bl (!decide (x = y))) H)) ∧
    (∀ t σ H Q, tTest t σ H Q = t σ H fun x H1 => ∃ k, x = .bl k ∧ Q k H1) ∧ (∀ t σ H Q, tB t σ H Q = t σ H fun x H1 => ∃ k, x = .bl k ∧ Q k H1) ∧
    (∀ t u σ H Q, tAnd t u σ H Q = t σ H fun c H1 => Be c (fun H2 => u σ H2 Q) (Q false) H1) ∧ (∀ t u σ H Q, tOr t u σ H Q = t σ H fun c H1 => Be c (Q true) (fun H2 => u σ H2 Q) H1) ∧ (∀ t σ H Q, tNot t σ H Q = t σ H fun c H1 => Q (!c) H1) ∧
    (∀ ta tb σ H Q, tAndV ta tb σ H Q = ta σ H fun x H1 => ∃ c, x = .bl c ∧ Be c (fun H2 => tb σ H2 Q) (Q (.bl false)) H1) ∧ (∀ ta tb σ H Q, tOrV ta tb σ H Q = ta σ H fun x H1 => ∃ c, x = .bl c ∧ Be c (Q (.bl true)) (fun H2 => tb σ H2 Q) H1) ∧
    (∀ ta σ H Q, tNotV ta σ H Q = ta σ H fun x H1 => ∃ c, x = .bl c ∧ Q (.bl (!c)) H1) ∧ (∀ t ta tb σ H Q, tIf t ta tb σ H Q = t σ H fun c H1 => Be c (fun H2 => ta σ H2 Q) (fun H2 => tb σ H2 Q) H1) ∧
    (∀ r r' ta tb tc σ H Q, tChain r r' ta tb tc σ H Q = ta σ H fun x H1 => tb σ H1 fun y H2 => r x y H2 fun z H3 => ∃ k, z = .bl k ∧ Be k (fun H4 => tc σ H4 fun w' H5 => r' y w' H5 Q) (Q (.bl false)) H3) := by
  refine ⟨?_, ?_, ?_, ?_, ?_, ?_, ?_, ?_, ?_, ?_, ?_, ?_, ?_, ?_, ?_, ?_, ?_, ?_, ?_⟩ <;> intros <;> rfl
theorem ra : (∀ σ H Q, tNil σ H Q = Q [] H) ∧ (∀ ta tr σ H Q, tCons ta tr σ H Q = ta σ H fun x H1 => tr σ H1 fun xs H2 => Q (x :: xs) H2) ∧ (∀ t σ H Q, tTup t σ H Q = t σ H fun xs H1 => xs.length ≤ sizeLine ∧ ∀ p, H1 p = none → Q (.ref p) (upd H1 p (.tup xs))) ∧
    (∀ t σ H Q, tLst t σ H Q = t σ H fun xs H1 => xs.length ≤ sizeLine ∧ ∀ p, H1 p = none → Q (.ref p) (upd H1 p (.lst xs))) ∧ (∀ sp dvs E t σ H Q, tCall sp dvs E t σ H Q = t σ H fun vs H1 => sp (vs ++ dvs) H1 Q E) ∧
    (∀ sp E t σ H Q, tCallS sp E t σ H Q = t σ H fun vs H1 => sp vs H1 Q (E σ)) ∧ (∀ r t σ H Q, tCB r t σ H Q = t σ H fun vs H1 => r vs H1 Q) ∧
    (∀ σ H Q, tNoPart σ H Q = Q none H) ∧ (∀ t σ H Q, tPart t σ H Q = t σ H fun x H1 => ∃ i, x = .int i ∧ Q (some i) H1) ∧ (∀ r te tl th σ H Q, tSl r te tl th σ H Q = te σ H fun x H1 => tl σ H1 fun l H2 => th σ H2 fun u H3 => r x l u H3 Q) ∧
    (∀ K T r to σ H Q, tBM0 K T r to σ H Q = to σ H fun x H1 => tyV K T x H1 ∧ r x [] H1 Q) ∧ (∀ K T r to t σ H Q, tBM K T r to t σ H Q = to σ H fun x H1 => tyV K T x H1 ∧ t σ H1 fun xs H2 => r x xs H2 Q) ∧
    (∀ K ta σ H Q, tVeI K ta σ H Q = ta σ H fun vs H1 => ∃ (a C : Addr) (ws : List V), vs = .ref a :: ws ∧ ws.length ≤ 1000 ∧ OexC K C ∧ H1 a = some (exo a C none) ∧ Q .non H1) := by
  refine ⟨?_, ?_, ?_, ?_, ?_, ?_, ?_, ?_, ?_, ?_, ?_, ?_, ?_⟩ <;> intros <;> rfl
/-! ### sequences by their place -/
def seqO : HO → Option (List V)
  | .lst xs => some xs
  | .tup xs => some xs
  | .frz _ (.lst xs) => some xs
  | .frz _ (.tup xs) => some xs
  | _ => none
theorem seqO_sq {K : Fg} {H : Hp} {p : Addr} {o : HO} {xs : List V} (h : H p = some o) (e : seqO o = some xs) : SqL K H p xs ∨ SqT K H p xs := by
  unfold seqO at e
  split at e <;> first
    | (cases e; exact .inl (.inl (.inl h)))
    | (cases e; exact .inr (.inl (.inl h)))
    | (cases e; exact .inl (.inl (.inr ⟨_, h⟩)))
    | (cases e; exact .inr (.inl (.inr ⟨_, h⟩)))
    | cases e
def rIxQ : R2 := fun x y H Q => ∃ p o xs i v, x = .ref p ∧ H p = some o ∧ seqO o = some xs ∧ y = .int i ∧ atI xs i = some v ∧ Q v H
theorem ix_q {X : Cx} : IxR X rIxQ := fun value slice pins s σ H x y v u Q I rx ry h hp => by
  obtain ⟨p, o, xs, i, z, rfl, ho, hs, rfl, ha, q⟩ := h
  rcases seqO_sq (K := X.K) ho hs with l | l
  · exact ix_list value slice pins s σ H _ _ v u Q I rx ry ⟨p, xs, i, z, rfl, rfl, l, ha, q⟩ hp
  · exact ix_tup value slice pins s σ H _ _ v u Q I rx ry ⟨p, xs, i, z, rfl, rfl, l, ha, q⟩ hp
def rLenQ : List V → Hp → VK → Prop := fun vs H Q => ∃ p o xs, vs = [.ref p] ∧ H p = some o ∧ seqO o = some xs ∧ Q (.int (xs.length : Nat)) H
theorem len_q {X : Cx} : CallR X (.builtin "len") rLenQ := fun pins s σ H xs us Q I r h => by
  obtain ⟨p, o, ys, rfl, ho, hs, q⟩ := h
  exact call_len_seq pins s σ H _ us Q I r ⟨p, ys, rfl, seqO_sq ho hs, q⟩
/-- list(t), a new list -/
def rLstQ : List V → Hp → VK → Prop := fun vs H Q => ∃ p o xs, vs = [.ref p] ∧ H p = some o ∧ seqO o = some xs ∧ ∀ l, H l = none → Q (.ref l) (upd H l (.lst xs))
theorem lst_q {X : Cx} : CallR X (.type "list") rLstQ := fun pins s σ H xs us Q I r h => by
  obtain ⟨p, o, ys, rfl, ho, hs, q⟩ := h
  exact call_list_of pins s σ H _ us Q I r ⟨p, ys, rfl, seqO_sq ho hs, q⟩
/-- tuple(l) of a list -/
def rTupQ : List V → Hp → VK → Prop := fun vs H Q => ∃ p xs, vs = [.ref p] ∧ H p = some (.lst xs) ∧ ∀ l, H l = none → Q (.ref l) (upd H l (.tup xs))
theorem tup_q {X : Cx} : CallR X (.type "tuple") rTupQ := fun pins s σ H xs us Q I r h => by
  obtain ⟨p, ys, rfl, ho, q⟩ := h
  exact call_tuple_of pins s σ H _ us Q I r ⟨p, ys, rfl, .inl ⟨SqL.of ho, q⟩⟩
/-! ### products -/
def MulOk (i j : Int) : Prop := CMul i j ∨ CMulW i j
theorem op_mulA {X : Cx} : OpR X (binaryOp .Mult) (rI MulOk fun i j => .int (i * j)) := fun pins s σ H x y v u Q I rx ry h => by
  obtain ⟨i, j, rfl, rfl, c, q⟩ := h
  rcases c with c | c
  · exact op_mul pins s σ H _ _ v u Q I rx ry ⟨i, j, rfl, rfl, c, q⟩
  · exact op_mulW pins s σ H _ _ v u Q I rx ry ⟨i, j, rfl, rfl, c, q⟩
theorem rq : (∀ x y H Q, rIxQ x y H Q = ∃ p o xs i v, x = .ref p ∧ H p = some o ∧ seqO o = some xs ∧ y = .int i ∧ atI xs i = some v ∧ Q v H) ∧ (∀ vs H Q, rLenQ vs H Q = ∃ p o xs, vs = [.ref p] ∧ H p = some o ∧ seqO o = some xs ∧ Q (.int (xs.length : Nat)) H) ∧
    (∀ vs H Q, rLstQ vs H Q = ∃ p o xs, vs = [.ref p] ∧ H p = some o ∧ seqO o = some xs ∧ ∀ l, H l = none → Q (.ref l) (upd H l (.lst xs))) ∧ (∀ vs H Q, rTupQ vs H Q = ∃ p xs, vs = [.ref p] ∧ H p = some (.lst xs) ∧ ∀ l, H l = none → Q (.ref l) (upd H l (.tup xs))) ∧
    (∀ xs, seqO (.lst xs) = some xs) ∧ (∀ xs, seqO (.tup xs) = some xs) ∧ (∀ o xs, seqO (.frz o (.lst xs)) = some xs) ∧ (∀ o i v H Q, rSetL o i v H Q = ∃ p xs k j, o = .ref p ∧ i = .int k ∧ H p = some (.lst xs) ∧ ixN xs.length k = some j ∧ Q (upd H p (.lst (xs.set j v)))) ∧
    (∀ x vs H Q, rAppend x vs H Q = ∃ l xs y, x = .ref l ∧ vs = [y] ∧ H l = some (.lst xs) ∧ xs.length < sizeLine ∧ Q .non (upd H l (.lst (xs ++ [y])))) ∧ (∀ x vs H Q, rClear x vs H Q = ∃ l xs, x = .ref l ∧ vs = [] ∧ H l = some (.lst xs) ∧ Q .non (upd H l (.lst []))) := by
  refine ⟨?_, ?_, ?_, ?_, ?_, ?_, ?_, ?_, ?_, ?_⟩ <;> intros <;> rfl
theorem at0 {a : V} {l : List V} : atI (a :: l) 0 = some a := by simp [atI, ixN]
theorem at1 {a b : V} {l : List V} : atI (a :: b :: l) 1 = some b := by
  have : (1 : Int) < (l.length : Int) + 1 + 1 := by omega
  simp [atI, ixN, this]
theorem at2 {a b c : V} {l : List V} : atI (a :: b :: c :: l) 2 = some c := by
  have : (2 : Int) < (l.length : Int) + 1 + 1 + 1 := by omega
  simp [atI, ixN, this]
theorem at3 {a b c d : V} {l : List V} : atI (a :: b :: c :: d :: l) 3 = some d := by
  have : (3 : Int) < (l.length : Int) + 1 + 1 + 1 + 1 := by omega
  simp [atI, ixN, this]
/-- what simp opens besides -/
theorem rx : (∀ (v : V) l, some v = some l ↔ v = l) ∧ (∀ (a b : Int), V.int a = V.int b ↔ a = b) ∧ (∀ (a b : Bool), V.bl a = V.bl b ↔ a = b) ∧ (∀ (a b : Addr), V.ref a = V.ref b ↔ a = b) ∧ (∀ (a b : Str), V.str a = V.str b ↔ a = b) := by
  refine ⟨?_, ?_, ?_, ?_, ?_⟩ <;> intros <;> simp
theorem rst : (∀ x N v vs, L2.start (x :: N) (v :: vs) = some v :: L2.start N vs) ∧ (∀ x N, L2.start (x :: N) [] = none :: L2.start N []) ∧ (L2.start [] [] = []) := by
  refine ⟨?_, ?_, ?_⟩ <;> intros <;> simp [L2.start, List.replicate_succ]
theorem rg : (∀ (a : V) (l : List V), ([] : List V) = a :: l ↔ False) ∧ (∀ (a : V) (l : List V), a :: l = ([] : List V) ↔ False) ∧ (∀ o u : HO, some o = some u ↔ o = u) := by
  refine ⟨?_, ?_, ?_⟩ <;> intros <;> simp
end Sw

/-! Errors of the program's own: a class over SeedError (over ValueError) whose __init__ says SeedError.__init__(self, text) and keeps one thing. -/
namespace PySem.W
open PySem.Calls PyProof.Rows
section
variable {prog : Program} {w : World} {A : Around} {E : Value → Shared → Prop} {s : Shared} {K : Frag} {x D : Addr} {ox : Obj} {od : Option Obj}
theorem sw_findData {C : Addr} {name : Str} {a g : Value} (hc : (clsIn K C).isSome = true) (ha : findIn K (.ref C) name = some (some a)) (hg : specialIn K a "__get__" = some (some g)) (ht : takesIn K a = some true) : findObj K C od name = some (.bind g a) := by
  obtain ⟨cd, q⟩ := Option.isSome_iff_exists.mp hc
  unfold findObj
  rw [q]
  simp [ha, hg, ht]
/-- the class of an exception that may have its own dict -/
theorem sw_classE {Q : Option Value → Shared → Prop} (hga : findIn K (.ref D) "__getattribute__" = some (some (.builtin "BaseException.__getattribute__"))) (hgt : findIn K (.ref D) "__getattr__" = some none) (hsub : subIn K (.ref D) (.type "BaseException") = some true)
    (hdct : hasDictIn K D = true) (ha : findIn K (.ref D) "__class__" = some (some (.builtin "object.__class__")))
    (hn : specialIn K (.builtin "object.__class__") "__get__" = some (some (.builtin "getset_descriptor.__get__"))) (htk : takesIn K (.builtin "object.__class__") = some true) (hm : mroIn K D (.type "object") = some true)
    (X : K.In s.heap) (I : InstAt s.heap x ox D od) (h : Q (some (.ref D)) { s with toks := s.toks + 1 }) : wpAny (model prog w) A (getAttr? (.ref x) "__class__") Q E s := by
  have hfo : findObj K D od "__class__" = some (.bind (.builtin "getset_descriptor.__get__") (.builtin "object.__class__")) := sw_findData (by obtain ⟨cd, hc, _⟩ := any_some hdct; rw [hc] <;> rfl) ha hn htk
  obtain ⟨hp, g, d, t, os⟩ := s
  have la := I.type (M := model prog w)
  have lb := looks_findIn (M := model prog w) X hga
  have lc := looks_findIn (M := model prog w) X hgt
  have ld := looks_find (M := model prog w) X I hfo
  have ls : Looks (model prog w) hp (isInstance (.ref x) (.type "BaseException")) true := la.andThen (looks_subIn X hsub)
  have k2 : (Value.builtin "BaseException.__getattribute__" == Value.builtin "object.__getattribute__") = false := by decide +kernel
  have k1 : (onTheHeap (Value.ref D) && Value.builtin "BaseException.__getattribute__" == Value.builtin "object.__getattribute__") = false := by rw [k2] <;> rfl
  unfold getAttr? getAttrBy? getAttrBy
  refine wpAny_bind (wpAny_mkText (wpAny_bind (wpAny_attempt (wpAny_holding (wpAny_bind (la.at (wpAny_bind (lb.at ?_))))))))
  show wpAny _ _ (if (onTheHeap (Value.ref D) && Value.builtin "BaseException.__getattribute__" == Value.builtin "object.__getattribute__") = true then _ else _) _ _ _
  rw [k1, if_neg (by decide)]
  unfold getAttrByItsOwn hookBefore
  refine wpAny_bind ?_
  rw [if_pos (by rfl : onTheHeap (Value.ref D) = true)]
  refine lc.at ?_
  refine wpAny_bind (wpAny_attempt (wpAny_holding ?_))
  unfold callGetattribute
  rw [show (false && onTheHeap (Value.builtin "BaseException.__getattribute__")) = false from rfl, if_neg (by decide)]
  unfold boundAndCalled
  rw [PySem.F.excAttr_ValueError.ga.bind (.ref x)]
  refine wpAny_bind (wpAny_pure ?_)
  show wpAny _ _ (call (.builtin "BaseException.__getattribute__") [.ref x, .str "__class__" t]) _ _ _
  refine wpAny_call (codeAny_call_builtin PySem.F.excAttr_ValueError.ga.plain PySem.F.entry_bexc_ga ?_)
  refine @check_slot (model prog w) _ _ ⟨hp, g, d, t + 1, os⟩ "BaseException.__getattribute__" "BaseException" "__getattribute__" (.ref x) [.str "__class__" t] [] _ (by decide +kernel) (by decide +kernel) ls (PySem.F.args_bexc_ga (.ref x) (.str "__class__" t)) ?_
  unfold Builtin.«object.__getattribute__»
  refine wpAny_bind (wpAny_of_eq (a := ((Value.ref x : Value), [Value.str "__class__" t])) (by first | rfl | (simp only [slotArgs] <;> rfl)) ?_)
  refine wpAny_bind (wpAny_pure (wpAny_bind (la.at (wpAny_bind (ld.at ?_)))))
  show wpAny _ _ (holding [Value.builtin "object.__class__"] (call (.builtin "getset_descriptor.__get__") [.builtin "object.__class__", .ref x, .ref D]) >>= ret) _ _ _
  refine wpAny_bind (wpAny_holding (wpAny_call (class_get (s := ⟨hp, g, d, t + 1, os⟩) (ox := ox) (od := od) X I hm ?_)))
  refine wpAny_pure ?_
  show wpAny _ _ (handedOut (.ref D)) _ _ _
  rw [handedOut_of (v := .ref D) rfl]
  first
    | exact wpAny_pure (wpAny_pure h)
    | exact wpAny_pure h
    | exact wpAny_pure (wpAny_bind (wpAny_pure (wpAny_pure h)))
theorem sw_kitE (hga : findIn K (.ref D) "__getattribute__" = some (some (.builtin "BaseException.__getattribute__"))) (hgt : findIn K (.ref D) "__getattr__" = some none) (hsub : subIn K (.ref D) (.type "BaseException") = some true)
    (hdct : hasDictIn K D = true) (ha : findIn K (.ref D) "__class__" = some (some (.builtin "object.__class__")))
    (hn : specialIn K (.builtin "object.__class__") "__get__" = some (some (.builtin "getset_descriptor.__get__"))) (htk : takesIn K (.builtin "object.__class__") = some true) (hm : mroIn K D (.type "object") = some true) :
    KitX K (.ref x) (.ref D) (fun h => InstAt h x ox D od) where
  ty := fun _ _ _ I => I.type
  it := fun _ _ X _ => by
    obtain ⟨cd, hc, _⟩ := any_some hdct
    unfold clsIn at hc
    split at hc
    · rename_i e1 e2 e3 e4 ho
      intro A' Q' E' s' k q
      unfold isType loadHead
      exact wpAny_bind (wpAny_loadPart (k _ _ (X _ _ ho)) (wpAny_pure q))
    · cases hc
  ne := fun h tp dd its n sl X htp => by
    obtain ⟨cd, hc, _⟩ := any_some hdct
    refine Bool.eq_false_iff.mpr fun q => ?_
    have e : D = tp := Value.ref.inj (beq_iff_eq.mp q)
    subst e
    unfold clsIn at hc
    split at hc
    · rename_i e1 e2 e3 e4 ho
      have z := (X _ _ ho).symm.trans htp
      cases z
    · cases hc
  ca := fun X I k => sw_classE hga hgt hsub hdct ha hn htk hm X I k
end
end PySem.W
namespace Sw
open PySem PySem.Spec PyProof.Rows L2
/-! ### what the head says of such a class, as one Bool -/
def excB (K : Fg) (C : Addr) : Bool := match K.lookup C with
  | some ⟨.type "type", _, .cls cd, sl⟩ => (match cd.mro, sl.toList with
    | .ref C' :: bm, [_, _, _, _, some (.builtin n), _] => decide (C' = C) && (decide (n = "ValueError.__new__") && (!cd.hasDel && (cd.hasDict && PySem.HandSPX.refsVE bm)))
    | _, _ => false)
  | _ => false
def exB (K : Fg) (C : Addr) : Bool := excB K C && (decide (PySem.W.findIn K (.ref C) "__setattr__" = some (some (.builtin "object.__setattr__"))) && (xfB K C && (decide (PySem.W.typeIn K (.ref C) = some (.type "type")) && (PySem.W.keepIn K (.ref C) &&
  (decide (PySem.W.findIn K (.ref C) "__class__" = some (some (.builtin "object.__class__"))) && (decide (PySem.W.mroIn K C (.type "object") = some true) &&
  (decide (PySem.W.specialIn K (.builtin "object.__class__") "__get__" = some (some (.builtin "getset_descriptor.__get__"))) && decide (PySem.W.takesIn K (.builtin "object.__class__") = some true))))))))
structure ExC (K : Fg) (C : Addr) : Prop where
  ox : OexC K C
  xf : XfC K C
  cc : PySem.W.findIn K (.ref C) "__class__" = some (some (.builtin "object.__class__"))
  mo : PySem.W.mroIn K C (.type "object") = some true
  gs : PySem.W.specialIn K (.builtin "object.__class__") "__get__" = some (some (.builtin "getset_descriptor.__get__"))
  tk : PySem.W.takesIn K (.builtin "object.__class__") = some true
theorem excB_ok {K : Fg} {C : Addr} (h : excB K C = true) : ∃ nm q N bs bm sn sub ab col dd k0 k1 k2 k3 k5, K.lookup C = some (excClassObj nm q C N bs bm true sn sub ab col dd k0 k1 k2 k3 k5 "ValueError.__new__") ∧ PySem.HandSPX.refsVE bm = true := by
  unfold excB at h
  split at h
  · rename_i dd cd sl ho
    split at h
    · rename_i C' bm k0 k1 k2 k3 n k5 hm hs
      simp only [Bool.and_eq_true, decide_eq_true_eq, Bool.not_eq_true'] at h
      obtain ⟨rfl, rfl, h3, h4, h5⟩ := h
      obtain ⟨nm, bs, mro, ns, qn, hd, sn, sub, ab, col, dl⟩ := cd
      dsimp only at hm h3 h4
      subst hm h3 h4
      obtain ⟨sl⟩ := sl
      dsimp only at hs
      subst hs
      exact ⟨nm, qn, ns, bs, bm, sn, sub, ab, col, dd, k0, k1, k2, k3, k5, ho, h5⟩
    · cases h
  · cases h
theorem exB_ok {K : Fg} {C : Addr} (h : exB K C = true) : ExC K C := by
  unfold exB at h
  simp only [Bool.and_eq_true, decide_eq_true_eq] at h
  obtain ⟨h1, h2, h3, h4, h5, h6, h7, h8, h9⟩ := h
  have xf := xfB_ok h3
  exact ⟨⟨excB_ok h1, h2, xf.exC, h4, h5⟩, xf, h6, h7, h8, h9⟩
/-- SeedError.__init__: the base's, read off the class at C -/
def iniB (K : Fg) (C : Addr) : Bool := decide (PySem.W.specialIn K (.ref C) "__getattribute__" = some (some (.builtin "type.__getattribute__"))) && (PySem.W.readsIn K C (.type "type") &&
  (match PySem.W.findCls K (.ref C) (.type "type") "__init__" with
  | some (.val (.builtin n)) => decide (n = "ValueError.__init__")
  | _ => false))
structure IniC (K : Fg) (C : Addr) : Prop where
  sp : PySem.W.specialIn K (.ref C) "__getattribute__" = some (some (.builtin "type.__getattribute__"))
  rd : PySem.W.readsIn K C (.type "type") = true
  fc : PySem.W.findCls K (.ref C) (.type "type") "__init__" = some (.val (.builtin "ValueError.__init__"))
theorem iniB_ok {K : Fg} {C : Addr} (h : iniB K C = true) : IniC K C := by
  unfold iniB at h
  simp only [Bool.and_eq_true, decide_eq_true_eq] at h
  obtain ⟨h1, h2, h3⟩ := h
  refine ⟨h1, h2, ?_⟩
  split at h3
  · rename_i n q
    have e : n = "ValueError.__init__" := of_decide_eq_true h3
    rw [q, e]
  · cases h3
section
variable {X : Cx} {o e : Expr} {es : List Expr} {ta : TA} {S : Str} {p1 p2 pos : Pos} {Cs : Addr}
/-- S.__init__(self, ..), S a class of the program whose __init__ is ValueError's -/
theorem pe_sinit (I0 : IniC X.K Cs) (hg : Gl X S) (hm : X.mg S = some (.ref Cs)) (ha : PA X (e :: es) ta) (hl : (p2.endLine == pos.line) = true := by rfl) (hf : methodCallForm ((e :: es).length + ([] : List Keyword).length) (backTo pos (starEach (e :: es) X.env)) (backToKw pos (keywordEach [] X.env)) = true := by rfl)
    (hdb : (S == ("__debug__" : Str)) = false := by decide)
    (he : starEach (e :: es) X.env = (false, eval e X.env) :: starEach es X.env := by rfl) (hpl : (backTo pos (starEach es X.env)).any (·.1) = false := by rfl) :
    PE X (.Call (.Attribute (.Name S p1) "__init__" p2) (e :: es) [] pos) (tVeI X.K ta) := by
  refine ⟨fun pins s σ H Q I h => ?_⟩
  have hc : eval (.Call (.Attribute (.Name S p1) "__init__" p2) (e :: es) [] pos) X.env = (do
      let ov ← eval (.Name S p1) X.env
      standAt p2.atName
      let (f, first) ← holding [ov] (getMethod ov "__init__" (plainOf (.Name S p1) X.env))
      callWith pos f first (backTo pos (starEach (e :: es) X.env)) (backToKw pos (keywordEach [] X.env))) := by
    show (do let ov ← eval (.Name S p1) X.env; standAt p2.atName; methodCall (.Name S p1) "__init__" p2 pos X.env ov _ _ _) = _
    simp only [mcall_line hf hl]
  refine PySem.W.methodCall_KW (ld_glob I hg hm ?_ hdb) hc
  refine PySem.W.method_cls I.kIn I0.sp (PySem.W.cls_value I.kIn I0.rd I0.fc (by decide +kernel) ?_)
  show wpAny _ _ (callWith pos (Value.builtin "ValueError.__init__") [] (backTo pos (starEach (e :: es) X.env)) []) _ _ _
  refine PyProof.Rows.callWith_method1 (thn (ha.run pos pins _ σ H _ (I.tok _) h) fun us s1 ⟨vs, H1, I1, r1, a, C, ws, ev, hl, T, ea, q⟩ => ?_) he hpl
  subst ev
  cases r1 with
  | @cons _ u0 _ ur ra rr =>
    obtain rfl : u0 = Value.ref a := ra
    have hlen : ur.length ≤ sizeLine := by
      rw [← Paired.length rr, sizeLine_eq]
      omega
    exact oinit_ok T I1 ea hlen fun s' J => ⟨.non, H1, J, rfl, q⟩
end
theorem ro : (∀ K f to te D σ H, tOst K f to te D σ H = te σ H fun y H1 => to σ H1 fun x H2 => ∃ a C : Addr, x = .ref a ∧ OexC K C ∧ PySem.W.findIn K (.ref C) f = some none ∧
      ((H2 a = some (exo a C none) ∧ ∀ dx, H2 dx = none → dx ≠ a → D.nx σ (upd (upd H2 dx (exd dx [(f, y)])) a (exo a C (some dx)))) ∨
        ∃ (dx : Addr) (fs : List (Str × V)), H2 a = some (exo a C (some dx)) ∧ H2 dx = some (exd dx fs) ∧ fs.length ≤ 900 ∧ D.nx σ (upd H2 dx (exd dx ((f, y) :: fs))))) ∧
    (∀ a cls d C f te σ H Q, tXf a cls d C f te σ H Q = te σ H fun x H1 => x = .ref a ∧ cls = .ref C ∧ ∃ (dd : Addr) (fs : List (Str × V)) (v : V), d = some dd ∧ H1 dd = some (.xd fs) ∧ fs.lookup f = some v ∧ Q v H1) := by
  refine ⟨?_, ?_⟩ <;> intros <;> rfl
/-! ### the __init__ of such a class with one field -/
def ini1 (m f : Str) (p1 p2 p3 p4 p5 p6 p7 p8 p9 p10 : Pos) (j : Nat) : List Stmt :=
  [.Expr (.Call (.Attribute (.Name "SeedError" p1) "__init__" p2) [.Name "self" p3, .Constant (.str m) j p4] [] p5) p6, .Assign [.Attribute (.Name "self" p7) f p8] (.Name f p9) p10]
def spIni1 (C : Addr) (f : Str) : Sp := fun vs H Q _ => ∃ (a : Addr) (v : V), vs = [.ref a, v] ∧ H a = some (exo a C none) ∧ ∀ d, H d = none → d ≠ a → Q .non (upd (upd H d (exd d [(f, v)])) a (exo a C (some d)))
theorem ok_ini1 {P : Program} {w : World} {K : Fg} {mg : Str → Option Value} {base : Heap} {C Cs fI : Addr} {f m qual : Str} {params : Arguments} {body : List Stmt} {scope : Scope} {fd : FuncData}
    {p1 p2 p3 p4 p5 p6 p7 p8 p9 p10 : Pos} {j : Nat} (F : FunD K "__init__" qual params body scope [] [] fI fd) (S : FnScope ["self", f] ["self", f] scope) (hb : body = ini1 m f p1 p2 p3 p4 p5 p6 p7 p8 p9 p10 j)
    (l1 : scope.names.lookup ("self" : Str) = some .local) (l2 : scope.names.lookup f = some .local) (l3 : scope.names.lookup ("SeedError" : Str) = some .globalImplicit) (hdb : (f == ("__debug__" : Str)) = false) (hcd : (f == ("__classdict__" : Str)) = false)
    (hl : (p2.endLine == p5.line) = true)
    (T : ExC K C) (I0 : IniC K Cs) (gS : mg "SeedError" = some (.ref Cs)) (hno : PySem.W.findIn K (.ref C) f = some none) : FnOk P w K mg base (L2.CX P w) 2 fI fd ["self", f] (spIni1 C f) := by
  subst hb
  refine F.ok S (fun vs H Q E h => ?_) (fun cdv A outer s H vs Q E hr h => ?_)
  · obtain ⟨a, v, rfl, _⟩ := h
    rfl
  · obtain ⟨a, v, rfl, ha, k⟩ := h
    refine ⟨_, pss_cons (ps_expr (pe_sinit I0 l3 gS (pa_cons (pv 0 (hv := .inl l1)) (pa_cons pe_str pa_nil)) (hl := hl))) (pss_one (ps_ost (pv 0 (hv := .inl l1)) (pv 1 (hv := .inl l2) (hd := hdb) (hcd := hcd)))), ?_⟩
    simp only [rst, rs, re, ra, ro, List.getElem?_cons_zero, List.getElem?_cons_succ, Option.some.injEq, exists_eq_left', exists_eq_left, exists_and_left, exists_eq, exists_eq', List.cons.injEq, V.ref.injEq]
    exact ⟨a, C, [.str m], ⟨rfl, rfl⟩, (by show 1 ≤ 1000; decide), T.ox, ha, C, T.ox, hno, .inl ⟨ha, k⟩⟩
/-- C(e): such an error is made; it is kept away but for its own dict -/
def tMk1 (C : Addr) (f : Str) (ta : TA) : L2.St → Hp → XK → Prop := fun σ H Q => ta σ H fun vs H1 => ∃ v, vs = [v] ∧ ∀ d, H1 d = none → Q (.ref C) (some d) (upd H1 d (.xd [(f, v)]))
/-- raise C(e) -/
def tRs1 (C : Addr) (f : Str) (W : WX) (ta : TA) : TS := fun _ σ H => tMk1 C f ta σ H fun cls d H' => W cls d σ H'
/-- the class x: where it stands, its __init__ -/
structure Exn (P : Program) (w : World) (K : Fg) (mg : Str → Option Value) (base : Heap) (x f : Str) : Prop where
  at_ : mg x = some (.ref (He.ga K x))
  c : ExC K (He.ga K x)
  no : PySem.W.findIn K (.ref (He.ga K x)) f = some none
  ini : ∃ (fI : Addr) (fd : FuncData), PySem.W.findIn K (.ref (He.ga K x)) "__init__" = some (some (.ref fI)) ∧ PySem.W.typeIn K (.ref fI) = some (.type "function") ∧ FnOk P w K mg base (L2.CX P w) 2 fI fd ["self", f] (spIni1 (He.ga K x) f) ∧ Binds K fd ["self", f] []
section
variable {X : Cx} {k : Nat} {x f : Str} {e : Expr} {es : List Expr} {ta : TA} {p pos : Pos} {W : WX}
theorem pa_mono {t : TA} {es : List Expr} (h : PA X es t) : PA X es (fun σ H Q => ∃ R : List V → Hp → Prop, t σ H R ∧ ∀ vs H1, R vs H1 → Q vs H1) := ⟨fun pos pins s σ H Q I ⟨R, h1, h2⟩ =>
  thn (h.run pos pins s σ H R I h1) fun us s1 ⟨vs, H1, I1, r, q⟩ => ⟨vs, H1, I1, r, h2 _ _ q⟩⟩
theorem pmk_1 (T : Exn X.prog X.w X.K X.mg X.base x f) (hr : Room k X.A) (hk : 3 ≤ k) (hg : Gl X x) (ha : PA X (e :: es) ta)
    (hdb : (x == ("__debug__" : Str)) = false := by decide) (he : starEach (e :: es) X.env = (false, eval e X.env) :: starEach es X.env := by rfl) (hpl : (backTo pos (starEach es X.env)).any (·.1) = false := by rfl) :
    PMk X (.Call (.Name x p) (e :: es) [] pos) (tMk1 (He.ga X.K x) f ta) := by
  obtain ⟨fI, fd, iC, tI, F, b⟩ := T.ini
  intro pins s σ H Q I h
  refine pmk_oex (CX := L2.CX X.prog X.w) (k := 2) (ds := []) (dvs := []) T.c.ox iC tI F (hr.mono hk) b .nil passL hg T.at_ (pa_mono ha) hdb he hpl pins s σ H Q I ⟨_, h, fun vs H1 q => ?_⟩
  obtain ⟨v, rfl, q⟩ := q
  refine ⟨by show 1 ≤ 1000; decide, fun a na => ⟨a, v, rfl, upd_same, fun d nd ne => ?_⟩⟩
  rw [upd_ne ne] at nd
  refine ⟨rfl, d, [(f, v)], upd_same, by rw [upd_ne ne, upd_same], nd, ?_⟩
  have e : upd (del (upd (upd (upd H1 a (exo a (He.ga X.K x) none)) d (exd d [(f, v)])) a (exo a (He.ga X.K x) (some d))) a) d (.xd [(f, v)]) = upd H1 d (.xd [(f, v)]) := by
    funext b
    by_cases hd : b = d
    · rw [hd, upd_same, upd_same]
    · rw [upd_ne hd, upd_ne hd]
      by_cases hb : b = a
      · rw [hb, del_same, na]
      · rw [del_ne hb, upd_ne hb, upd_ne hd, upd_ne hb]
  rw [e]
  exact q d nd
/-- raise x(e) -/
theorem ps_rs1 {pos' : Pos} (T : Exn X.prog X.w X.K X.mg X.base x f) (hc : X.calm = true) (tk : Takes X W) (hr : Room k X.A) (hk : 3 ≤ k) (hg : Gl X x) (ha : PA X (e :: es) ta)
    (hdb : (x == ("__debug__" : Str)) = false := by decide) (he : starEach (e :: es) X.env = (false, eval e X.env) :: starEach es X.env := by rfl) (hpl : (backTo pos (starEach es X.env)).any (·.1) = false := by rfl) :
    PS X (.Raise (some (.Call (.Name x p) (e :: es) [] pos)) none pos') (tRs1 (He.ga X.K x) f W ta) := ps_raise hc tk (pmk_1 T hr hk hg ha hdb he hpl)
/-! ### in an except suite -/
/-- e.f -/
theorem pe_exf {a : Addr} {oe : Obj} {cls : Value} {d : Option Addr} {pn : List (Addr × Obj)} {e : Expr} {te : TE} {C : Addr} (T : ExC X.K C) (hno : PySem.W.findIn X.K (.ref C) f = some none) (hz : Zc cls d oe) (hf : ∃ vs, oe.data = .fields vs) (he : PE (X.suite a ((a, oe) :: pn)) e te)
    (hb : attributeBase e f X.env (eval e X.env) = eval e X.env := by rfl) : PE (X.suite a ((a, oe) :: pn)) (.Attribute e f pos) (tXf a cls d C f te) := pe_xf T.xf hno hz hf he hb
/-- isinstance(e, c), e the error in the suite, with a dict of its own -/
def rIsD (K : Fg) (D a : Addr) (cls : Value) (d : Option Addr) : List V → Hp → VK → Prop := fun xs H Q => ∃ (c : V) (cv : Value) (dd : Addr) (fs : List (Str × V)) (b : Bool), xs = [.ref a, c] ∧ ClsV c cv ∧ cls = .ref D ∧ d = some dd ∧ H dd = some (.xd fs) ∧ PySem.W.kitOne K (.ref D) cv = some b ∧ Q (.bl b) H
theorem call_isD {a D : Addr} {cls : Value} {d : Option Addr} {oe : Obj} {pn : List (Addr × Obj)} (C : ExC X.K D) (hz : Zc cls d oe) (hf : ∃ vs, oe.data = .fields vs) : CallR (X.suite a ((a, oe) :: pn)) (.builtin "isinstance") (rIsD X.K D a cls d) := by
  intro pins s σ H xs us Q I r h
  obtain ⟨c, cv, dd, fs, b, rfl, hcv, rfl, rfl, hd, e, q⟩ := h
  cases r with
  | cons r1 r2 =>
    cases r2 with
    | cons r3 r4 =>
      cases r4
      cases r1
      have ec := hcv.eq r3
      subst ec
      obtain ⟨hget, _⟩ := I.pin (a, oe) (List.mem_append.mpr (.inl List.mem_cons_self))
      obtain ⟨vs, hv⟩ := hf
      obtain ⟨mA, hns, _⟩ := (show ObjOk X.prog X.w H s.heap dd (.xd fs) from I.hok dd _ hd)
      obtain ⟨od, ho, _⟩ := lookIn_ns hns
      have J : PySem.W.InstAt s.heap a oe D (some od) := ⟨hget, hz.1, by unfold PySem.W.notCls; rw [hv] <;> rfl, by rw [hz.2]; exact ho⟩
      exact PySem.W.kia_one (PySem.W.sw_kitE C.xf.ga C.xf.gg C.xf.exC C.xf.hdC C.cc C.gs C.tk C.mo) I.kIn J e (fun z => nomatch z) fun tk => ⟨.bl b, H, I.kept (t' := tk) fun _ _ z => z, rfl, q⟩
end
end Sw

/-! Loops and comprehensions, over a list or a tuple alike; unpacking; isinstance by kinds. -/
namespace Sw
open PySem PySem.Spec PyProof.Rows L2
/-- what a for still asks behind its iterator -/
def FI (J : It) (g : TG) (tb : TS) (D : Ends) (σ : L2.St) (H1 : Hp) : Prop := ∃ W : Nat → Nat → L2.St → Hp → Prop, (∃ m, W 0 m σ H1) ∧ ∀ i m σ H, W i m σ H →
  (J.stop i H ∧ D.nx σ H) ∨ (J.go i H ∧ ∃ N : L2.St → Hp → Prop, (∀ σ' H', N σ' H' → ∃ m', m' < m ∧ W (i + 1) m' σ' H') ∧ ∀ x H', J.yld i H x H' → g x σ H' fun σ2 H2 => tb { D with nx := N, ct := N, bk := D.nx } σ2 H2)
/-- .. a comprehension -/
def LC (J : It) (g : TG) (tt : TT) (te : TE) (vs : List Nat) (σ : L2.St) (Q : VK) (H1 : Hp) : Prop := ∀ D, H1 D = none → ∃ W : Nat → Nat → Hp → Prop, (∃ m, W 0 m (upd H1 D (.lst []))) ∧ ∀ i m H, W i m H →
  (J.stop i H ∧ Q (.ref D) H) ∨ (J.go i H ∧ ∃ Nx : Hp → Prop, (∀ H', Nx H' → ∃ m', m' < m ∧ W (i + 1) m' H') ∧ ∀ x H', J.yld i H x H' → g x (wipe σ vs) H' fun σ2 H2 => wipe σ2 vs = wipe σ vs ∧ tt σ2 H2 fun b H3 =>
    if b = true then te σ2 H3 fun y H4 => ∃ acc, H4 D = some (.lst acc) ∧ acc.length < sizeLine ∧ Nx (upd H4 D (.lst (acc ++ [y]))) else Nx H3)
def isT : HO → Bool
  | .tup _ => true
  | .frz _ (.tup _) => true
  | _ => false
theorem seqO_L {K : Fg} {H : Hp} {p : Addr} {o : HO} {xs : List V} (h : H p = some o) (e : seqO o = some xs) (t : isT o = false) : SqL K H p xs := by
  unfold seqO at e
  split at e <;> first
    | exact Bool.noConfusion (show _ = _ from t)
    | (cases e; exact .inl (.inl h))
    | (cases e; exact .inl (.inr ⟨_, h⟩))
    | cases e
theorem seqO_T {K : Fg} {H : Hp} {p : Addr} {o : HO} {xs : List V} (h : H p = some o) (e : seqO o = some xs) (t : isT o = true) : SqT K H p xs := by
  unfold seqO at e
  split at e <;> first
    | exact Bool.noConfusion (show _ = _ from t)
    | (cases e; exact .inl (.inl h))
    | (cases e; exact .inl (.inr ⟨_, h⟩))
    | cases e
/-! ### for x in s -/
def ItQ (K : Fg) (a : Addr) (o : HO) : It := if isT o = true then Itt K a else Itl K a
def iSeq (K : Fg) (tl : TE) : TI := fun σ H R => tl σ H fun x H1 => ∃ a o xs, x = .ref a ∧ H1 a = some o ∧ seqO o = some xs ∧ R (ItQ K a o) H1
theorem pi_q {X : Cx} {tg e : Expr} {tl : TE} (he : PE X e tl) : PI X tg e (iSeq X.K tl) := by
  refine ⟨fun pins s σ H R I h => ?_⟩
  refine thn (he.run pins s σ H _ I h) fun u s1 ⟨v, H1, I1, r1, a, o, xs, ev, ho, hs, q⟩ => ?_
  subst ev
  cases r1
  unfold ItQ at q
  have new : ∀ b ∈ [s1.heap.objs.size], FpOk X pins H1 b := fun b hb => by
    rw [List.mem_singleton.mp hb]
    exact I1.fpOk (Nat.le_refl _) (I1.hok.fresh (Nat.le_refl _))
  cases t : isT o with
  | true =>
    rw [t, if_pos rfl] at q
    obtain ⟨its, rv, p, hz⟩ := I1.tuple (seqO_T (K := X.K) ho hs t)
    exact wpAny_pyIter_tuple (show s1.heap.IsTuple a its.toArray from p) ⟨_, [s1.heap.objs.size], _, _, H1, rfl, I1.kept (t' := s1.toks) fun b o e => Heap.get?_push_of_some _ e, turn_tuple a _, ⟨_, Heap.get?_push_size _ rfl, rfl, rfl⟩, new, q⟩
  | false =>
    rw [t, if_neg (by decide)] at q
    obtain ⟨its, rv, p, hz⟩ := I1.list (seqO_L (K := X.K) ho hs t)
    exact wpAny_pyIter_list p.isList ⟨_, [s1.heap.objs.size], _, _, H1, rfl, I1.kept (t' := s1.toks) fun b o e => Heap.get?_push_of_some _ e, turn_list a _, ⟨_, Heap.get?_push_size _ rfl, rfl, rfl⟩, new, q⟩
theorem FI.seq {K : Fg} {a : Addr} {o : HO} {xs : List V} {g : TG} {tb : TS} {D : Ends} {σ : L2.St} {H : Hp} (hs : seqO o = some xs) (Pv : Nat → L2.St → Hp → Prop) (h0 : Pv 0 σ H) (hl : ∀ i σ H, i ≤ xs.length → Pv i σ H → H a = some o)
    (ht : ∀ i x σ H, xs[i]? = some x → Pv i σ H → g x σ H fun σ2 H2 => tb ⟨Pv (i + 1), D.rt, D.nx, Pv (i + 1)⟩ σ2 H2) (hd : ∀ σ H, Pv xs.length σ H → D.nx σ H) : FI (ItQ K a o) g tb D σ H := by
  unfold ItQ
  cases t : isT o with
  | true =>
    rw [if_pos rfl]
    exact for_tup (K := K) Pv h0 (fun i σ H hi p => seqO_T (hl i σ H hi p) hs t) ht hd
  | false =>
    rw [if_neg (by decide)]
    exact for_list (K := K) Pv h0 (fun i σ H hi p => seqO_L (hl i σ H hi p) hs t) ht hd
/-- the script's own list: it may stand in the written part -/
theorem FI.lst {K : Fg} {a : Addr} {xs : List V} {g : TG} {tb : TS} {D : Ends} {σ : L2.St} {H : Hp} (Pv : Nat → L2.St → Hp → Prop) (h0 : Pv 0 σ H) (hl : ∀ i σ H, i ≤ xs.length → Pv i σ H → SqL K H a xs)
    (ht : ∀ i x σ H, xs[i]? = some x → Pv i σ H → g x σ H fun σ2 H2 => tb ⟨Pv (i + 1), D.rt, D.nx, Pv (i + 1)⟩ σ2 H2) (hd : ∀ σ H, Pv xs.length σ H → D.nx σ H) : FI (Itl K a) g tb D σ H := for_list (K := K) Pv h0 hl ht hd
theorem FI.rng {lo : Int} {n : Nat} {g : TG} {tb : TS} {D : Ends} {σ : L2.St} {H : Hp} (Pv : Nat → L2.St → Hp → Prop) (h0 : Pv 0 σ H)
    (ht : ∀ i σ H, i < n → Pv i σ H → g (.int (lo + (i : Nat))) σ H fun σ2 H2 => tb ⟨Pv (i + 1), D.rt, D.nx, Pv (i + 1)⟩ σ2 H2) (hd : ∀ σ H, Pv n σ H → D.nx σ H) : FI (Itr lo n) g tb D σ H := for_range Pv h0 ht hd
theorem FI.rngC {lo c : Int} {n : Nat} {g : TG} {tb : TS} {D : Ends} {σ : L2.St} {H : Hp} (Pv : Nat → L2.St → Hp → Prop) (h0 : Pv 0 σ H)
    (ht : ∀ i σ H, i < n → Pv i σ H → g (.int (lo + (i : Nat) * c)) σ H fun σ2 H2 => tb ⟨Pv (i + 1), D.rt, D.nx, Pv (i + 1)⟩ σ2 H2) (hd : ∀ σ H, Pv n σ H → D.nx σ H) : FI (Itc lo c n) g tb D σ H := for_rangeC Pv h0 ht hd
/-! ### zip of two of one kind -/
def ItZ (K : Fg) (a b : Addr) (o : HO) : It := if isT o = true then RZ.ItzT K a b else Itz K a b
def iZipQ (K : Fg) (ta : TA) : TI := fun σ H R => ta σ H fun vs H1 => ∃ a b oa ob xs ys, vs = [.ref a, .ref b] ∧ H1 a = some oa ∧ seqO oa = some xs ∧ H1 b = some ob ∧ seqO ob = some ys ∧ isT ob = isT oa ∧ R (ItZ K a b oa) H1
theorem pi_zipQ {X : Cx} {e e2 : Expr} {ta : TA} {p pos tpos : Pos} {elts : List Expr} {kk : Nat} (hg : Gl X "zip") (hm : X.mg "zip" = none) (ha : PA X [e, e2] ta)
    (hs : starEach [e, e2] X.env = (false, eval e X.env) :: starEach [e2] X.env := by rfl) (hpl : (backTo pos (starEach [e2] X.env)).any (·.1) = false := by rfl) :
    PI X (.Tuple elts kk tpos) (.Call (.Name "zip" p) [e, e2] [] pos) (iZipQ X.K ta) := by
  refine ⟨fun pins s σ H R I h => (RZ.pi_zipA hg hm (pa_mono ha) hs hpl).run pins s σ H R I ⟨_, h, fun vs H1 q => ?_⟩⟩
  obtain ⟨a, b, oa, ob, xs, ys, ev, h1, h2, h3, h4, h5, q⟩ := q
  refine ⟨a, b, xs, ys, ev, ?_⟩
  unfold ItZ at q
  cases t : isT oa with
  | true =>
    rw [t, if_pos rfl] at q
    exact .inr ⟨seqO_T h1 h2 t, seqO_T h3 h4 (h5.trans t), q⟩
  | false =>
    rw [t, if_neg (by decide)] at q
    exact .inl ⟨seqO_L h1 h2 t, seqO_L h3 h4 (h5.trans t), q⟩
/-- for x, y in zip(..), x in slot i, y in slot j -/
theorem FI.zip {K : Fg} {a b : Addr} {oa ob : HO} {xs ys : List V} {i j : Nat} {tb : TS} {D : Ends} {σ : L2.St} {H : Hp} (hx : seqO oa = some xs) (hy : seqO ob = some ys) (ht : isT ob = isT oa) (hl : xs.length = ys.length) (Pv : Nat → L2.St → Hp → Prop) (h0 : Pv 0 σ H)
    (hq : ∀ i σ H, Pv i σ H → H a = some oa ∧ H b = some ob)
    (hs : ∀ (n : Nat) (x y : V) (T : Addr) (σ : L2.St) (H : Hp), xs[n]? = some x → ys[n]? = some y → Pv n σ H → H T = none → tb ⟨Pv (n + 1), D.rt, D.nx, Pv (n + 1)⟩ ((σ.set i (some x)).set j (some y)) (upd H T (.tup [x, y]))) (hd : ∀ σ H, Pv xs.length σ H → D.nx σ H) :
    FI (ItZ K a b oa) (gTup K 2 (gCons (gName i) (gCons (gName j) gNil))) tb D σ H := by
  have turn : ∀ (n : Nat) (x y : V) (T : Addr) (σ : L2.St) (H : Hp), xs[n]? = some x → ys[n]? = some y → Pv n σ H → H T = none →
      gTup K 2 (gCons (gName i) (gCons (gName j) gNil)) (.ref T) σ (upd H T (.tup [x, y])) fun σ2 H2 => tb ⟨Pv (n + 1), D.rt, D.nx, Pv (n + 1)⟩ σ2 H2 := fun n x y T σ H h1 h2 p hT =>
    ⟨T, [x, y], rfl, SqT.of upd_same, rfl, x, [y], rfl, y, [], rfl, rfl, hs n x y T σ H h1 h2 p hT⟩
  unfold ItZ
  cases t : isT oa with
  | true =>
    rw [if_pos rfl]
    exact RZ.for_zipT (K := K) hl Pv h0 (fun i σ H p => ⟨seqO_T (hq i σ H p).1 hx t, seqO_T (hq i σ H p).2 hy (ht.trans t)⟩) turn hd
  | false =>
    rw [if_neg (by decide)]
    exact RZ.for_zipL (K := K) hl Pv h0 (fun i σ H p => ⟨seqO_L (hq i σ H p).1 hx t, seqO_L (hq i σ H p).2 hy (ht.trans t)⟩) turn hd
/-! ### reversed of a list or a tuple -/
def ItR (K : Fg) (a : Addr) (o : HO) (n : Nat) : It := if isT o = true then RT.ItvT K a n else Itv K a n
def iRevQ (K : Fg) (te : TE) : TI := fun σ H R => te σ H fun v H1 => ∃ a o xs, v = .ref a ∧ H1 a = some o ∧ seqO o = some xs ∧ R (ItR K a o xs.length) H1
theorem pe_mono {X : Cx} {e : Expr} {te : TE} (h : PE X e te) : PE X e (fun σ H Q => ∃ R : VK, te σ H R ∧ ∀ v H1, R v H1 → Q v H1) := ⟨fun pins s σ H Q I ⟨R, h1, h2⟩ => thn (h.run pins s σ H R I h1) fun u s1 ⟨v, H1, I1, r, q⟩ => ⟨v, H1, I1, r, h2 _ _ q⟩⟩
theorem pi_revQ {X : Cx} {tg e : Expr} {te : TE} {p pos : Pos} (hg : Gl X "reversed") (hm : X.mg "reversed" = none) (he : PE X e te) (hs : starEach [e] X.env = (false, eval e X.env) :: starEach [] X.env := by rfl) :
    PI X tg (.Call (.Name "reversed" p) [e] [] pos) (iRevQ X.K te) := by
  refine ⟨fun pins s σ H R I h => (RT.pi_revA hg hm (pe_mono he) hs).run pins s σ H R I ⟨_, h, fun v H1 q => ?_⟩⟩
  obtain ⟨a, o, xs, ev, h1, h2, q⟩ := q
  refine ⟨a, xs, ev, ?_⟩
  unfold ItR at q
  cases t : isT o with
  | true =>
    rw [t, if_pos rfl] at q
    exact .inr ⟨seqO_T h1 h2 t, q⟩
  | false =>
    rw [t, if_neg (by decide)] at q
    exact .inl ⟨seqO_L h1 h2 t, q⟩
theorem FI.rev {K : Fg} {a : Addr} {o : HO} {xs : List V} {g : TG} {tb : TS} {D : Ends} {σ : L2.St} {H : Hp} (hs : seqO o = some xs) (Pv : Nat → L2.St → Hp → Prop) (h0 : Pv 0 σ H) (hl : ∀ i σ H, Pv i σ H → H a = some o)
    (ht : ∀ (i : Nat) (x : V) (σ : L2.St) (H : Hp), i < xs.length → xs[xs.length - 1 - i]? = some x → Pv i σ H → g x σ H fun σ2 H2 => tb ⟨Pv (i + 1), D.rt, D.nx, Pv (i + 1)⟩ σ2 H2) (hd : ∀ σ H, Pv xs.length σ H → D.nx σ H) : FI (ItR K a o xs.length) g tb D σ H := by
  unfold ItR
  cases t : isT o with
  | true =>
    rw [if_pos rfl]
    exact RT.for_ItvT (K := K) Pv h0 (fun i σ H p => seqO_T (hl i σ H p) hs t) ht hd
  | false =>
    rw [if_neg (by decide)]
    exact RT.for_Itv (K := K) Pv h0 (fun i σ H p => seqO_L (hl i σ H p) hs t) ht hd
/-! ### comprehensions -/
theorem LC.rng {lo : Int} {n : Nat} {g : TG} {tt : TT} {te : TE} {vs : List Nat} {σ : L2.St} {H1 : Hp} {Q : VK} (Pv : Addr → Nat → Hp → Prop) (h0 : ∀ D, H1 D = none → Pv D 0 (upd H1 D (.lst [])))
    (hs : ∀ D i H, H1 D = none → i < n → Pv D i H → g (.int (lo + (i : Nat))) (wipe σ vs) H fun σ2 H2 => wipe σ2 vs = wipe σ vs ∧ tt σ2 H2 fun b H3 => Be b (fun H3 => te σ2 H3 fun y H4 => ∃ acc, H4 D = some (.lst acc) ∧ acc.length < sizeLine ∧ Pv D (i + 1) (upd H4 D (.lst (acc ++ [y])))) (Pv D (i + 1)) H3)
    (hd : ∀ D H, H1 D = none → Pv D n H → Q (.ref D) H) : LC (Itr lo n) g tt te vs σ Q H1 := fun D nD => lc_range (Pv D) (h0 D nD) (fun i H hi p => hs D i H nD hi p) fun H p => hd D H nD p
theorem LC.seq {K : Fg} {a : Addr} {o : HO} {xs : List V} {g : TG} {tt : TT} {te : TE} {vs : List Nat} {σ : L2.St} {H1 : Hp} {Q : VK} (hx : seqO o = some xs) (Pv : Addr → Nat → Hp → Prop) (h0 : ∀ D, H1 D = none → Pv D 0 (upd H1 D (.lst [])))
    (hl : ∀ D i H, H1 D = none → i ≤ xs.length → Pv D i H → H a = some o)
    (hs : ∀ D i x H, H1 D = none → xs[i]? = some x → Pv D i H → g x (wipe σ vs) H fun σ2 H2 => wipe σ2 vs = wipe σ vs ∧ tt σ2 H2 fun b H3 => Be b (fun H3 => te σ2 H3 fun y H4 => ∃ acc, H4 D = some (.lst acc) ∧ acc.length < sizeLine ∧ Pv D (i + 1) (upd H4 D (.lst (acc ++ [y])))) (Pv D (i + 1)) H3)
    (hd : ∀ D H, H1 D = none → Pv D xs.length H → Q (.ref D) H) : LC (ItQ K a o) g tt te vs σ Q H1 := fun D nD => by
  unfold ItQ
  cases t : isT o with
  | true =>
    rw [if_pos rfl]
    exact lc_tup (K := K) (Pv D) (h0 D nD) (fun i H hi p => seqO_T (hl D i H nD hi p) hx t) (fun i x H hi p => hs D i x H nD hi p) fun H p => hd D H nD p
  | false =>
    rw [if_neg (by decide)]
    exact lc_list (K := K) (Pv D) (h0 D nD) (fun i H hi p => seqO_L (hl D i H nD hi p) hx t) (fun i x H hi p => hs D i x H nD hi p) fun H p => hd D H nD p
theorem rl : (∀ wi g tb D σ H, tFor wi g tb D σ H = wi σ H fun J H1 => FI J g tb D σ H1) ∧ (∀ wi g tt te vs σ H Q, tLc wi g tt te vs σ H Q = wi σ H fun J H1 => LC J g tt te vs σ Q H1) ∧
    (∀ K tl σ H R, iSeq K tl σ H R = tl σ H fun x H1 => ∃ a o xs, x = .ref a ∧ H1 a = some o ∧ seqO o = some xs ∧ R (ItQ K a o) H1) ∧
    (∀ K ta σ H R, iZipQ K ta σ H R = ta σ H fun vs H1 => ∃ a b oa ob xs ys, vs = [.ref a, .ref b] ∧ H1 a = some oa ∧ seqO oa = some xs ∧ H1 b = some ob ∧ seqO ob = some ys ∧ isT ob = isT oa ∧ R (ItZ K a b oa) H1) ∧
    (∀ K te σ H R, iRevQ K te σ H R = te σ H fun v H1 => ∃ a o xs, v = .ref a ∧ H1 a = some o ∧ seqO o = some xs ∧ R (ItR K a o xs.length) H1) ∧
    (∀ ta σ H R, iRng1 ta σ H R = ta σ H fun vs H1 => ∃ j : Int, vs = [.int j] ∧ -(2 ^ 62) ≤ j ∧ j < 2 ^ 62 ∧ R (Itr 0 j.toNat) H1) ∧
    (∀ ta σ H R, iRng2 ta σ H R = ta σ H fun vs H1 => ∃ i j : Int, vs = [.int i, .int j] ∧ (-(2 ^ 62) ≤ i ∧ i < 2 ^ 62 ∧ -(2 ^ 62) ≤ j ∧ j < 2 ^ 62) ∧ R (Itr i (j - i).toNat) H1) ∧
    (∀ tr σ H R, iRevR tr σ H R = tr σ H fun a b H1 => -(2 ^ 62) ≤ a ∧ a < 2 ^ 62 ∧ -(2 ^ 62) ≤ b ∧ b < 2 ^ 62 ∧ R (Itc (a + (((b - a).toNat : Nat) : Int) - 1) (-1) (b - a).toNat) H1) ∧
    (∀ ta σ H Q, tRg1 ta σ H Q = ta σ H fun x H1 => ∃ n, x = .int n ∧ Q 0 n H1) ∧ (∀ σ H Q, tYes σ H Q = Q true H) ∧ (∀ xs, isT (.lst xs) = false) ∧ (∀ xs, isT (.tup xs) = true) := by
  refine ⟨?_, ?_, ?_, ?_, ?_, ?_, ?_, ?_, ?_, ?_, ?_, ?_⟩ <;> intros <;> rfl
/-! ### unpacking -/
def gTupQ (t : TGs) : TG := fun v σ H Q => ∃ a o xs, v = .ref a ∧ H a = some o ∧ isT o = true ∧ seqO o = some xs ∧ t xs σ H Q
theorem pg_tupQ {X : Cx} {es : List Expr} {k : Nat} {t : TGs} {n : Nat} {pos : Pos} (hc : X.calm = true) (h : PGs X es t) (hlen : ∀ xs σ H Q, t xs σ H Q → xs.length = n)
    (hn : (assignEach es X.env).length = n := by rfl) (hst : (assignEach es X.env).findIdx? (·.1) = none := by rfl) : PG X (.Tuple es k pos) (gTupQ t) :=
  ⟨fun pins s σ H v u Q I r ⟨a, o, xs, ev, ho, ht, hs, q⟩ => (pg_tup hc h hn hst).run pins s σ H v u Q I r ⟨a, xs, ev, seqO_T ho hs ht, hlen _ _ _ _ q, q⟩⟩
theorem gnil_len {xs : List V} {σ : L2.St} {H : Hp} {Q : L2.St → Hp → Prop} (h : gNil xs σ H Q) : xs.length = 0 := by rw [h.1] <;> rfl
theorem gname_len {n i : Nat} {t : TGs} (ht : ∀ xs σ H Q, t xs σ H Q → xs.length = n) (xs : List V) (σ : L2.St) (H : Hp) (Q : L2.St → Hp → Prop) (h : gCons (gName i) t xs σ H Q) : xs.length = n + 1 := by
  obtain ⟨v, r, rfl, h⟩ := h
  rw [List.length_cons, ht r _ _ _ h]
theorem rl2 : (∀ t v σ H Q, gTupQ t v σ H Q = ∃ a o xs, v = .ref a ∧ H a = some o ∧ isT o = true ∧ seqO o = some xs ∧ t xs σ H Q) ∧ (∀ K te σ H Q, tRevL K te σ H Q = te σ H fun x H1 => ∃ a xs, x = .ref a ∧ SqL K H1 a xs ∧ ∀ p, H1 p = none → Q (.ref p) (upd H1 p (.lst xs.reverse))) ∧
    (∀ C f ta D W σ H, tRs1 C f W ta D σ H = ta σ H fun vs H1 => ∃ v, vs = [v] ∧ ∀ d, H1 d = none → W (.ref C) (some d) σ (upd H1 d (.xd [(f, v)]))) := by
  refine ⟨?_, ?_, ?_⟩ <;> intros <;> rfl
end Sw

/-! Promises by arity, facts by Bools, kinds of things, things that equal themselves, methods of lists. -/
namespace Sw
open PySem PySem.Spec PyProof.Rows L2
/-! ### promises -/
def sp1 (f : V → Hp → VK → XK → Prop) : Sp := fun vs H Q E => ∃ a, vs = [a] ∧ f a H Q E
def sp2 (f : V → V → Hp → VK → XK → Prop) : Sp := fun vs H Q E => ∃ a b, vs = [a, b] ∧ f a b H Q E
def sp3 (f : V → V → V → Hp → VK → XK → Prop) : Sp := fun vs H Q E => ∃ a b c, vs = [a, b, c] ∧ f a b c H Q E
def sp4 (f : V → V → V → V → Hp → VK → XK → Prop) : Sp := fun vs H Q E => ∃ a b c d, vs = [a, b, c, d] ∧ f a b c d H Q E
theorem len1 (f : V → Hp → VK → XK → Prop) {x : Str} (vs : List V) (H : Hp) (Q : VK) (E : XK) (h : sp1 f vs H Q E) : vs.length = [x].length := by obtain ⟨a, rfl, _⟩ := h; rfl
theorem len2 (f : V → V → Hp → VK → XK → Prop) {x y : Str} (vs : List V) (H : Hp) (Q : VK) (E : XK) (h : sp2 f vs H Q E) : vs.length = [x, y].length := by obtain ⟨a, b, rfl, _⟩ := h; rfl
theorem len3 (f : V → V → V → Hp → VK → XK → Prop) {x y z : Str} (vs : List V) (H : Hp) (Q : VK) (E : XK) (h : sp3 f vs H Q E) : vs.length = [x, y, z].length := by obtain ⟨a, b, c, rfl, _⟩ := h; rfl
theorem len4 (f : V → V → V → V → Hp → VK → XK → Prop) {x y z u : Str} (vs : List V) (H : Hp) (Q : VK) (E : XK) (h : sp4 f vs H Q E) : vs.length = [x, y, z, u].length := by obtain ⟨a, b, c, d, rfl, _⟩ := h; rfl
theorem rsp : (∀ f a H Q E, sp1 f [a] H Q E = f a H Q E) ∧ (∀ f a b H Q E, sp2 f [a, b] H Q E = f a b H Q E) ∧ (∀ f a b c H Q E, sp3 f [a, b, c] H Q E = f a b c H Q E) ∧ (∀ f a b c d H Q E, sp4 f [a, b, c, d] H Q E = f a b c d H Q E) := by
  refine ⟨fun f a H Q E => propext ⟨fun ⟨_, e, h⟩ => ?_, fun h => ⟨_, rfl, h⟩⟩, fun f a b H Q E => propext ⟨fun ⟨_, _, e, h⟩ => ?_, fun h => ⟨_, _, rfl, h⟩⟩, fun f a b c H Q E => propext ⟨fun ⟨_, _, _, e, h⟩ => ?_, fun h => ⟨_, _, _, rfl, h⟩⟩,
    fun f a b c d H Q E => propext ⟨fun ⟨_, _, _, _, e, h⟩ => ?_, fun h => ⟨_, _, _, _, rfl, h⟩⟩⟩ <;> (cases e; exact h)
/-! ### facts by Bools -/
def allB : List Bool → Bool
  | [] => true
  | b :: r => b && allB r
theorem allB_ok : ∀ {l : List Bool}, allB l = true → ∀ (i : Nat) {b : Bool}, l[i]? = some b → b = true
  | [], _, i, b, h => by simp at h
  | c :: r, e, 0, b, h => by
    have h2 : c = b := by simpa using h
    rw [← h2]
    exact (Bool.and_eq_true_iff.mp e).1
  | c :: r, e, i + 1, b, h => allB_ok (Bool.and_eq_true_iff.mp e).2 i (by simpa using h)
/-- an error class by what the head says of it -/
theorem exn_mk {P : Program} {w : World} {K : Fg} {mg : Str → Option Value} {base : Heap} {x f m qual : Str} {params : Arguments} {body : List Stmt} {scope : Scope} {fd : FuncData} {Cs : Addr}
    {p1 p2 p3 p4 p5 p6 p7 p8 p9 p10 : Pos} {j : Nat} (at_ : mg x = some (.ref (He.ga K x))) (c : ExC K (He.ga K x)) (no : PySem.W.findIn K (.ref (He.ga K x)) f = some none) (M : Meth K (He.ga K x) "__init__" (He.ma K (He.ga K x) "__init__"))
    (F : FunD K "__init__" qual params body scope [] [] (He.ma K (He.ga K x) "__init__") fd) (S : FnScope ["self", f] ["self", f] scope) (hb : body = ini1 m f p1 p2 p3 p4 p5 p6 p7 p8 p9 p10 j)
    (l1 : scope.names.lookup ("self" : Str) = some .local) (l2 : scope.names.lookup f = some .local) (l3 : scope.names.lookup ("SeedError" : Str) = some .globalImplicit) (hdb : (f == ("__debug__" : Str)) = false) (hcd : (f == ("__classdict__" : Str)) = false)
    (hl : (p2.endLine == p5.line) = true) (I0 : IniC K Cs) (gS : mg "SeedError" = some (.ref Cs))
    (hbd : ∀ (kV doc pm : Value) (an : Option Addr) (cdv ct : Value) (us : List Value), us.length = (["self", f] : List Str).length → bindArgs (PySem.W.fnOf "__init__" qual params body scope .none kV doc pm an cdv ct) ⟨us, []⟩ = pure ((["self", f] : List Str).zip us)) :
    Exn P w K mg base x f := ⟨at_, c, no, _, fd, M.at_, beq_iff_eq.mp M.fn, ok_ini1 F S hb l1 l2 l3 hdb hcd hl c I0 gS no, F.bindsN hbd⟩
/-! ### kinds -/
def tyO : HO → Option String
  | .lst _ => some "list"
  | .frz _ (.lst _) => some "list"
  | .tup _ => some "tuple"
  | .frz _ (.tup _) => some "tuple"
  | .dK _ => some "dict"
  | .dT _ => some "dict"
  | _ => none
def tyN (H : Hp) : V → Option String
  | .non => some "NoneType"
  | .bl _ => some "bool"
  | .int _ => some "int"
  | .str _ => some "str"
  | .ref p => (H p).bind tyO
  | _ => none
theorem tyN_ok {K : Fg} {H : Hp} {x : V} {n : String} (h : tyN H x = some n) : TyX K H x (.type n) := by
  cases x with
  | non => cases h; exact .base .non
  | bl b => cases h; exact .base (.bl b)
  | int i => cases h; exact .base (.int i)
  | str z => cases h; exact .base (.str z)
  | ref p =>
    obtain ⟨o, e, h⟩ := Option.bind_eq_some_iff.mp h
    unfold tyO at h
    split at h <;> first
      | (cases h; exact .base (.lst e))
      | (cases h; exact .base (.frz e))
      | (cases h; exact .base (.tup e))
      | (cases h; exact .fTuple e)
      | (cases h; exact .base (.dK e))
      | (cases h; exact .base (.dT e))
      | cases h
  | byt b => cases h
  | flt b => cases h
  | ty n => cases h
theorem tyN_cases {H : Hp} {x : V} {n : String} (h : tyN H x = some n) : n = "NoneType" ∨ n = "bool" ∨ n = "int" ∨ n = "str" ∨ n = "list" ∨ n = "tuple" ∨ n = "dict" := by
  cases x with
  | ref p =>
    obtain ⟨o, e, h⟩ := Option.bind_eq_some_iff.mp h
    unfold tyO at h
    split at h <;> cases h <;> simp
  | _ => cases h <;> simp
theorem tyN_same {H H' : Hp} (s : Same H H') {x : V} {n : String} (h : tyN H x = some n) : tyN H' x = some n := by
  cases x with
  | ref p =>
    obtain ⟨o, e, h⟩ := Option.bind_eq_some_iff.mp h
    exact Option.bind_eq_some_iff.mpr ⟨o, s p o e, h⟩
  | _ => exact h
def isB (H : Hp) (x : V) (T : String) : Option Bool := (tyN H x).bind fun n => kitB n T
/-- isinstance(x, T), T built in -/
def rIsQ : List V → Hp → VK → Prop := fun vs H Q => ∃ x T b, vs = [x, .ty T] ∧ isB H x T = some b ∧ Q (.bl b) H
theorem is_q {X : Cx} : CallR X (.builtin "isinstance") rIsQ := fun pins s σ H xs us Q I r h => by
  obtain ⟨x, T, b, rfl, e, q⟩ := h
  obtain ⟨n, e1, e2⟩ := Option.bind_eq_some_iff.mp e
  exact call_isi pins s σ H _ us Q I r ⟨x, .ty T, .type n, .type T, b, rfl, .ty T, tyN_ok e1, kit_ty e2, q⟩
theorem kitB_all : kitB "NoneType" "int" = some false ∧ kitB "bool" "int" = some true ∧ kitB "int" "int" = some true ∧ kitB "str" "int" = some false ∧ kitB "list" "int" = some false ∧ kitB "tuple" "int" = some false ∧ kitB "dict" "int" = some false ∧
    kitB "NoneType" "bool" = some false ∧ kitB "bool" "bool" = some true ∧ kitB "int" "bool" = some false ∧ kitB "str" "bool" = some false ∧ kitB "list" "bool" = some false ∧ kitB "tuple" "bool" = some false ∧ kitB "dict" "bool" = some false ∧
    kitB "NoneType" "list" = some false ∧ kitB "bool" "list" = some false ∧ kitB "int" "list" = some false ∧ kitB "str" "list" = some false ∧ kitB "list" "list" = some true ∧ kitB "tuple" "list" = some false ∧ kitB "dict" "list" = some false ∧
    kitB "NoneType" "tuple" = some false ∧ kitB "bool" "tuple" = some false ∧ kitB "int" "tuple" = some false ∧ kitB "str" "tuple" = some false ∧ kitB "list" "tuple" = some false ∧ kitB "tuple" "tuple" = some true ∧ kitB "dict" "tuple" = some false ∧
    kitB "NoneType" "str" = some false ∧ kitB "bool" "str" = some false ∧ kitB "int" "str" = some false ∧ kitB "str" "str" = some true ∧ kitB "list" "str" = some false ∧ kitB "tuple" "str" = some false ∧ kitB "dict" "str" = some false ∧
    kitB "NoneType" "dict" = some false ∧ kitB "bool" "dict" = some false ∧ kitB "int" "dict" = some false ∧ kitB "str" "dict" = some false ∧ kitB "list" "dict" = some false ∧ kitB "tuple" "dict" = some false ∧ kitB "dict" "dict" = some true := by
  decide +kernel
def whole : V → Bool
  | .int _ => true
  | _ => false
def within (x : V) (lo hi : Int) : Bool := match x with
  | .int i => decide (lo ≤ i ∧ i ≤ hi)
  | _ => false
def bool? : V → Bool
  | .bl _ => true
  | _ => false
theorem isB_bool {H : Hp} {x : V} {n : String} (h : tyN H x = some n) : isB H x "bool" = some (bool? x) := by
  have e : isB H x "bool" = kitB n "bool" := by rw [isB, h, Option.bind_some]
  rw [e]
  cases x with
  | ref p =>
    obtain ⟨o, eo, h⟩ := Option.bind_eq_some_iff.mp h
    unfold tyO at h
    split at h <;> cases h <;> simp only [kitB_all, bool?]
  | _ => cases h <;> simp only [kitB_all, bool?]
theorem isB_int {H : Hp} {x : V} {n : String} (h : tyN H x = some n) : isB H x "int" = some (whole x || bool? x) := by
  have e : isB H x "int" = kitB n "int" := by rw [isB, h, Option.bind_some]
  rw [e]
  cases x with
  | ref p =>
    obtain ⟨o, eo, h⟩ := Option.bind_eq_some_iff.mp h
    unfold tyO at h
    split at h <;> cases h <;> simp only [kitB_all, bool?, whole, Bool.or_self, Bool.or_true, Bool.true_or, Bool.or_false]
  | _ => cases h <;> simp only [kitB_all, bool?, whole, Bool.or_self, Bool.or_true, Bool.true_or, Bool.or_false]
theorem isB_list {H : Hp} {p : Addr} {xs : List V} (h : H p = some (.lst xs)) : isB H (.ref p) "list" = some true := by
  have e : tyN H (.ref p) = some "list" := by rw [tyN, h] <;> rfl
  rw [isB, e, Option.bind_some]
  decide +kernel
theorem isB_tup {H : Hp} {p : Addr} {xs : List V} (h : H p = some (.tup xs)) : isB H (.ref p) "tuple" = some true := by
  have e : tyN H (.ref p) = some "tuple" := by rw [tyN, h] <;> rfl
  rw [isB, e, Option.bind_some]
  decide +kernel
theorem whole_is (x : V) : ((whole x || bool? x) && !bool? x) = whole x := by cases x <;> rfl
/-! ### methods of lists -/
def tML (r : V → List V → Hp → VK → Prop) (to : TE) (t : TA) : TE := fun σ H Q => to σ H fun x H1 => ∃ p xs, x = .ref p ∧ H1 p = some (.lst xs) ∧ t σ H1 fun vs H2 => r x vs H2 Q
section
variable {X : Cx} {name : Str} {id : String} {r : V → List V → Hp → VK → Prop} {o e : Expr} {es : List Expr} {to : TE} {t : TA} {apos cpos : Pos}
theorem pe_ml (slot : Slot "list" name id) (hty : typeOf (.builtin id) = pure (.type "method_descriptor")) (hm : MtR X id r) (ho : PE X o to) (ha : PA X (e :: es) t)
    (hb : attributeBase o name X.env (eval o X.env) = eval o X.env := by rfl)
    (hw : ((backTo cpos (starEach (e :: es) X.env)).all (fun x => !x.1) && (backToKw cpos (keywordEach [] X.env)).all (fun x => x.1.isSome) && decide ((e :: es).length + ([] : List Keyword).length + (if ([] : List Keyword).isEmpty then 0 else 1) < 30)) = true := by rfl)
    (hl : (apos.endLine == cpos.line) = true := by rfl) (he : starEach (e :: es) X.env = (false, eval e X.env) :: starEach es X.env := by rfl) (hpl : (backTo cpos (starEach es X.env)).any (·.1) = false := by rfl) :
    PE X (.Call (.Attribute o name apos) (e :: es) [] cpos) (tML r to t) := ⟨fun pins s σ H Q I h =>
  (pe_bm PySem.F.plainAttrs_list slot hty hm (pe_mono ho) ha hb hw hl he hpl).run pins s σ H Q I ⟨_, h, fun x H1 ⟨p, xs, e, hp, q⟩ => ⟨by rw [e]; exact .inl ⟨rfl, xs, SqL.of hp⟩, q⟩⟩⟩
theorem pe_ml0 (slot : Slot "list" name id) (hty : typeOf (.builtin id) = pure (.type "method_descriptor")) (hm : MtR X id r) (ho : PE X o to)
    (hb : attributeBase o name X.env (eval o X.env) = eval o X.env := by rfl) (hl : (apos.endLine == cpos.line) = true := by rfl) :
    PE X (.Call (.Attribute o name apos) [] [] cpos) (tML r to tNil) := ⟨fun pins s σ H Q I h =>
  (pe_bm0 PySem.F.plainAttrs_list slot hty hm (pe_mono ho) hb hl).run pins s σ H Q I ⟨_, h, fun x H1 ⟨p, xs, e, hp, q⟩ => ⟨by rw [e]; exact .inl ⟨rfl, xs, SqL.of hp⟩, q⟩⟩⟩
end
theorem rz : (∀ vs H Q, rIsQ vs H Q = ∃ x T b, vs = [x, .ty T] ∧ isB H x T = some b ∧ Q (.bl b) H) ∧ (∀ r to t σ H Q, tML r to t σ H Q = to σ H fun x H1 => ∃ p xs, x = .ref p ∧ H1 p = some (.lst xs) ∧ t σ H1 fun vs H2 => r x vs H2 Q) ∧
    (∀ a b : String, V.ty a = V.ty b ↔ a = b) := by
  refine ⟨?_, ?_, ?_⟩ <;> intros <;> first | rfl | simp
theorem rix : (∀ (a : V) l, ixN (a :: l).length 0 = some 0) ∧ (∀ (a b : V) l, ixN (a :: b :: l).length 1 = some 1) ∧ (∀ (a b c : V) l, ixN (a :: b :: c :: l).length 2 = some 2) ∧ (∀ (a b c d : V) l, ixN (a :: b :: c :: d :: l).length 3 = some 3) := by
  refine ⟨?_, ?_, ?_, ?_⟩ <;> intros <;> simp only [ixN, List.length_cons] <;> rw [if_pos (by decide), if_pos (by omega)] <;> rfl
theorem rln : (([] : List V).length ≤ sizeLine ↔ True) ∧ (∀ a : V, [a].length ≤ sizeLine ↔ True) ∧ (∀ a b : V, [a, b].length ≤ sizeLine ↔ True) ∧ (∀ a b c : V, [a, b, c].length ≤ sizeLine ↔ True) ∧ (∀ a b c d : V, [a, b, c, d].length ≤ sizeLine ↔ True) ∧
    (∀ a b c d e : V, [a, b, c, d, e].length ≤ sizeLine ↔ True) ∧ (∀ a b c d e f : V, [a, b, c, d, e, f].length ≤ sizeLine ↔ True) ∧ (∀ a b c d e f g : V, [a, b, c, d, e, f, g].length ≤ sizeLine ↔ True) := by
  refine ⟨?_, ?_, ?_, ?_, ?_, ?_, ?_, ?_⟩ <;> intros <;> simp only [List.length_cons, List.length_nil, sizeLine_eq] <;> decide
theorem Same.new {H : Hp} {p : Addr} {o : HO} (h : H p = none) : Same H (upd H p o) := fun a u e => by
  rw [upd_ne (ne_of_none e h)]
  exact e
/-- an object that H does not know may change -/
theorem Same.mut {H H' : Hp} {p : Addr} {o : HO} (s : Same H H') (h : H p = none) : Same H (upd H' p o) := fun a u e => by
  rw [upd_ne (ne_of_none e h)]
  exact s a u e
/-! ### equal to themselves -/
/-- scalars; lists, tuples of ints; the empty dict -/
def Plain (H : Hp) : V → Prop
  | .non => True
  | .bl _ => True
  | .int _ => True
  | .str _ => True
  | .ref p => (∃ ns : List Int, H p = some (.lst (ns.map V.int)) ∧ ns.length ≤ 1000) ∨ (∃ ns : List Int, H p = some (.tup (ns.map V.int)) ∧ ns.length ≤ 1000) ∨ H p = some (.dK [])
  | _ => False
theorem Plain.same {H H' : Hp} (s : Same H H') {x : V} (h : Plain H x) : Plain H' x := by
  cases x with
  | ref p =>
    rcases h with ⟨ns, h, l⟩ | ⟨ns, h, l⟩ | h
    · exact .inl ⟨ns, s _ _ h, l⟩
    · exact .inr (.inl ⟨ns, s _ _ h, l⟩)
    · exact .inr (.inr (s _ _ h))
  | _ => exact h
theorem Plain.ty {H : Hp} {x : V} (h : Plain H x) : ∃ n, tyN H x = some n := by
  cases x with
  | ref p =>
    rcases h with ⟨ns, h, _⟩ | ⟨ns, h, _⟩ | h
    · exact ⟨"list", by rw [tyN, h] <;> rfl⟩
    · exact ⟨"tuple", by rw [tyN, h] <;> rfl⟩
    · exact ⟨"dict", by rw [tyN, h] <;> rfl⟩
  | byt _ => exact h.elim
  | flt _ => exact h.elim
  | ty _ => exact h.elim
  | _ => exact ⟨_, rfl⟩
theorem dpI {K : Fg} {H : Hp} : ∀ ns : List Int, DpAll K H (ns.map V.int) (ns.map PyData.int)
  | [] => .nil
  | n :: r => .cons (.int n) (dpI r)
theorem layI : ∀ ns : List Int, PyData.canLayAll0 (ns.map PyData.int) = true
  | [] => rfl
  | n :: r => by
    show (PyData.canLay0 (.int n) && PyData.canLayAll0 (r.map PyData.int)) = true
    rw [layI r, Bool.and_true]
    rfl
theorem depI : ∀ ns : List Int, PyData.depthAll (ns.map PyData.int) ≤ 1
  | [] => by show 0 ≤ 1; decide
  | n :: r => by
    have h := depI r
    simp only [List.map_cons, PyData.depthAll, PyData.depth]
    omega
theorem shapeL {ns : List Int} : SeqAt.shaped (.list (ns.map PyData.int)) = true := by
  have h := depI ns
  have h2 := layI ns
  simp only [SeqAt.shaped, PyData.canLay0, PyData.depth, Bool.and_eq_true, decide_eq_true_eq]
  exact ⟨h2, decide_eq_true (by omega)⟩
theorem shapeT {ns : List Int} : SeqAt.shaped (.tuple (ns.map PyData.int)) = true := by
  have h := depI ns
  have h2 := layI ns
  simp only [SeqAt.shaped, PyData.canLay0, PyData.depth, Bool.and_eq_true, decide_eq_true_eq]
  exact ⟨h2, decide_eq_true (by omega)⟩
theorem eqvI (ns ms : List Int) : PyData.eqv (.list (ns.map PyData.int)) (.list (ms.map PyData.int)) = decide (ns = ms) := by
  show PyData.eqvAll _ _ = _
  induction ns generalizing ms with
  | nil => cases ms with
    | nil => rfl
    | cons m r => rfl
  | cons n r ih => cases ms with
    | nil => rfl
    | cons m s =>
      show ((n == m) && PyData.eqvAll (r.map PyData.int) (s.map PyData.int)) = _
      rw [ih s, Bool.eq_iff_iff]
      simp
def rEqU (K : Fg) : R2 := fun x y H Q => L2.rEqD K x y H Q ∨ L2.rEqV K x y H Q ∨ L2.rEq x y H Q
theorem op_eqU {X : Cx} (hu : X.A.units + 64 < cLine) : OpR X (compareOp .Eq) (rEqU X.K) := OpR.or (op_eqD hu) (OpR.or (op_eqV hu) op_eq)
theorem Plain.eq {K : Fg} {H : Hp} {x : V} (h : Plain H x) {Q : VK} (q : Q (.bl true) H) : rEqU K x x H Q := by
  cases x with
  | ref p =>
    rcases h with ⟨ns, h, l⟩ | ⟨ns, h, l⟩ | h
    · refine .inr (.inl ⟨1, by decide, .inl ⟨p, p, _, _, rfl, rfl, SqL.of h, SqL.of h, ?_⟩, q⟩)
      clear h l
      induction ns with
      | nil => exact .nil
      | cons n r ih => exact .cons (.inl ⟨rfl, rfl⟩) ih
    · refine .inl ⟨_, _, .tup (SqT.of h) (dpI ns), .tup (SqT.of h) (dpI ns), shapeT, shapeT, ?_⟩
      rw [SeqAt.eqv_refl _ (SeqAt.canLay_of_shaped shapeT)]
      exact q
    · exact .inr (.inl ⟨1, by decide, .inr ⟨p, p, [], [], rfl, rfl, h, h, rfl, fun p hp => by cases hp⟩, q⟩)
  | non => exact .inl ⟨_, _, .non, .non, by decide, by decide, q⟩
  | bl b => exact .inl ⟨_, _, .bl b, .bl b, by cases b <;> decide, by cases b <;> decide, by rw [SeqAt.eqv_refl _ (by cases b <;> decide)]; exact q⟩
  | int i => exact .inl ⟨_, _, .int i, .int i, rfl, rfl, by rw [SeqAt.eqv_refl _ rfl]; exact q⟩
  | str s => exact .inr (.inr ⟨rfl, by rw [decide_eq_true rfl]; exact q⟩)
  | byt _ => exact h.elim
  | flt _ => exact h.elim
  | ty _ => exact h.elim
end Sw

/-! A call of a local name that holds one of several defs; small facts. -/
namespace Sw
open PySem PySem.Spec PyProof.Rows L2
structure HeldE (P : Program) (w : World) (K : Fg) (mg : Str → Option Value) (base : Heap) (k : Nat) (f : Addr) (sp : Sp) : Prop where
  ex : ∃ (fd : FuncData) (ps : List Str), FnG P w K mg base k f fd ps sp ∧ PySem.W.keepIn K (.ref f) = true ∧ Binds K fd ps []
theorem Cal.held {P : Program} {w : World} {K : Fg} {mg : Str → Option Value} {base : Heap} {k : Nat} {x : Str} {ps : List Str} {sp : Sp} (c : Cal P w K mg base k x ps sp) : HeldE P w K mg base k (He.ga K x) sp := by
  obtain ⟨fd, F, b⟩ := c.ex
  exact ⟨fd, ps, F, c.kp, b⟩
inductive Deeds (P : Program) (w : World) (K : Fg) (mg : Str → Option Value) (base : Heap) (j : Nat) : List (Addr × Sp) → Prop
  | nil : Deeds P w K mg base j []
  | cons {k : Nat} {x : Str} {ps : List Str} {sp : Sp} {l : List (Addr × Sp)} : Cal P w K mg base k x ps sp → k ≤ j → Deeds P w K mg base j l → Deeds P w K mg base j ((He.ga K x, sp) :: l)
theorem Deeds.get {P : Program} {w : World} {K : Fg} {mg : Str → Option Value} {base : Heap} {j : Nat} {l : List (Addr × Sp)} {f : Addr} {sp : Sp} (D : Deeds P w K mg base j l) (h : (f, sp) ∈ l) : ∃ k, k ≤ j ∧ HeldE P w K mg base k f sp := by
  induction D with
  | nil => cases h
  | cons c hk _ ih =>
    cases h with
    | head => exact ⟨_, hk, c.held⟩
    | tail _ h => exact ih h
def tDeedS (i : Nat) (l : List (Addr × Sp)) (E : L2.St → XK) (t : TA) : TE := fun σ H Q => ∃ f sp, σ[i]? = some (some (.ref f)) ∧ (f, sp) ∈ l ∧ t σ H fun vs H1 => sp vs H1 Q (E σ)
section
variable {X : Cx} {k i j : Nat} {x : Str} {p pos : Pos} {e : Expr} {es : List Expr} {t : TA} {l : List (Addr × Sp)}
theorem pe_deedS {W : WX} (D : Deeds X.prog X.w X.K X.mg X.base j l) (hr : Rm j X.A) (tk : Takes X W) (hN : X.N[i]? = some x) (hv : Vis X.env.scope x) (ha : PA X (e :: es) t)
    (hdb : (x == ("__debug__" : Str)) = false := by decide) (hcd : (x == ("__classdict__" : Str)) = false := by decide)
    (he : starEach (e :: es) X.env = (false, eval e X.env) :: starEach es X.env := by rfl) (hpl : (backTo pos (starEach es X.env)).any (·.1) = false := by rfl) : PE X (.Call (.Name x p) (e :: es) [] pos) (tDeedS i l (WE W) t) := by
  refine ⟨fun pins s σ H Q I h => ?_⟩
  obtain ⟨f, sp, hs, hS, ht⟩ := h
  obtain ⟨k, hk, ⟨fd, ps, F, kp, hb⟩⟩ := D.get hS
  refine wpAny_Call_Name_kw (thn ((pe_var (pos := p) hN hv hdb hcd).run pins s σ H (fun v H1 => v = .ref f ∧ H1 = H) I ⟨.ref f, hs, rfl, rfl⟩) fun u s1 ⟨v, H1, I1, r1, q1⟩ => ?_)
  obtain ⟨rfl, rfl⟩ := q1
  cases r1
  refine PySem.W.callWith_K (h₀ := X.base) I.ok.mod.kin kp (thn (ha.run pos pins s1 σ _ _ I1 ht) fun us s2 ⟨vs, H2, I2, r, q⟩ => ⟨I2.kIn, ?_⟩) he hpl
  exact run_fnG F (hr.mono hk) hb (passAt tk σ) I2 r q
end
theorem rd : (∀ i l E t σ H Q, tDeedS i l E t σ H Q = ∃ f sp, σ[i]? = some (some (.ref f)) ∧ (f, sp) ∈ l ∧ t σ H fun vs H1 => sp vs H1 Q (E σ)) ∧ (∀ σ H Q, tDNewK σ H Q = ∀ p, H p = none → Q (.ref p) (upd H p (.dK []))) := ⟨fun _ _ _ _ _ _ _ => rfl, fun _ _ _ => rfl⟩
theorem rwi : (∀ σ : L2.St, wipe σ [] = σ) ∧ (∀ (σ : L2.St) (i : Nat) (vs : List Nat), wipe σ (i :: vs) = (wipe σ vs).set i none) ∧ (List.map (fun x : Str × Nat => x.snd) [] = []) ∧ (∀ (a : Str × Nat) (l : List (Str × Nat)), List.map (fun x : Str × Nat => x.snd) (a :: l) = a.snd :: List.map (fun x : Str × Nat => x.snd) l) := ⟨fun _ => rfl, fun _ _ _ => rfl, rfl, fun _ _ => rfl⟩
/-! ### a list and its copy -/
theorem Plain.eqV {K : Fg} {H : Hp} {x : V} (h : Plain H x) : EqV K H 1 x x := by
  cases x with
  | ref p => exact .inr (.inl ⟨p, rfl, rfl⟩)
  | non => exact .inl ⟨rfl, rfl⟩
  | bl b => exact .inl ⟨rfl, rfl⟩
  | int i => exact .inl ⟨rfl, rfl⟩
  | str s => exact .inl ⟨rfl, rfl⟩
  | byt _ => exact h.elim
  | flt _ => exact h.elim
  | ty _ => exact h.elim
theorem paired_self {E : V → V → Prop} : ∀ {xs : List V}, (∀ x ∈ xs, E x x) → Paired E xs xs
  | [], _ => .nil
  | x :: r, h => .cons (h x (by simp)) (paired_self fun y hy => h y (List.mem_cons_of_mem _ hy))
theorem copy_eq {K : Fg} {H : Hp} {p q : Addr} {xs : List V} (hp : H p = some (.lst xs)) (hq : H q = some (.lst xs)) (h : ∀ x ∈ xs, Plain H x) {Q : VK} (k : Q (.bl true) H) : rEqU K (.ref p) (.ref q) H Q :=
  .inr (.inl ⟨1, by decide, .inl ⟨p, q, xs, xs, rfl, rfl, SqL.of hp, SqL.of hq, paired_self fun x hx => (h x hx).eqV⟩, k⟩)
theorem isD_ref {K : Fg} {D a C d : Addr} {H : Hp} {fs : List (Str × V)} {b : Bool} {Q : VK} (hd : H d = some (.xd fs)) (e : PySem.W.kitOne K (.ref D) (.ref C) = some b) (q : Q (.bl b) H) : rIsD K D a (.ref D) (some d) [.ref a, .ref C] H Q := ⟨_, _, _, _, _, rfl, .own C, rfl, rfl, hd, e, q⟩
theorem isD_ty {K : Fg} {D a d : Addr} {T : String} {H : Hp} {fs : List (Str × V)} {b : Bool} {Q : VK} (hd : H d = some (.xd fs)) (e : PySem.W.kitOne K (.ref D) (.type T) = some b) (q : Q (.bl b) H) : rIsD K D a (.ref D) (some d) [.ref a, .ty T] H Q := ⟨_, _, _, _, _, rfl, .ty T, rfl, rfl, hd, e, q⟩
theorem eq_ints {K : Fg} {H : Hp} {p q : Addr} {ns ms : List Int} (hp : SqL K H p (ns.map V.int)) (hq : SqL K H q (ms.map V.int)) {Q : VK} (k : Q (.bl (decide (ns = ms))) H) : rEqD K (.ref p) (.ref q) H Q := by
  refine ⟨_, _, .lst hp (dpI ns), .lst hq (dpI ms), shapeL, shapeL, ?_⟩
  rw [eqvI]
  exact k
theorem ne_ints {K : Fg} {H : Hp} {p q : Addr} {ns ms : List Int} (hp : SqL K H p (ns.map V.int)) (hq : SqL K H q (ms.map V.int)) {Q : VK} (k : Q (.bl (!decide (ns = ms))) H) : rNeD K (.ref p) (.ref q) H Q := by
  refine ⟨_, _, .lst hp (dpI ns), .lst hq (dpI ms), shapeL, shapeL, ?_⟩
  rw [eqvI]
  exact k
theorem ite_none {α : Type} {c : Prop} [Decidable c] {o : α} {x : Option α} (h : (if c then some o else x) = none) : ¬ c ∧ x = none := by
  by_cases k : c
  · rw [if_pos k] at h
    cases h
  · rw [if_neg k] at h
    exact ⟨k, h⟩
theorem Plain.move {H H' : Hp} {x : V} (h : Plain H x) (k : ∀ q o, x = .ref q → H q = some o → H' q = some o) : Plain H' x := by
  cases x with
  | ref p =>
    rcases h with ⟨ns, h, l⟩ | ⟨ns, h, l⟩ | h
    · exact .inl ⟨ns, k _ _ rfl h, l⟩
    · exact .inr (.inl ⟨ns, k _ _ rfl h, l⟩)
    · exact .inr (.inr (k _ _ rfl h))
  | _ => exact h
/-- two ways to one place: the place is shown once -/
theorem Be.join {b : Bool} {f g : Hp → Prop} {H : Hp} (S : Hp → Prop) (h0 : S H) (n : ∀ H', S H' → g H') (hf : (∀ H', S H' → g H') → b = true → f H) : Be b f g H := Be.of (hf n) fun _ => n _ h0
theorem Be.joinL {b : Bool} {f g : Hp → Prop} {H : Hp} (S : Hp → Prop) (h0 : S H) (n : ∀ H', S H' → f H') (hg : (∀ H', S H' → f H') → b = false → g H) : Be b f g H := Be.of (fun _ => n _ h0) (hg n)
/-! ### the law's own def, and the end -/
theorem fn_mk {P : Program} {w : World} {K : Fg} {mg : Str → Option Value} {base : Heap} {k : Nat} {x : Str} {N ps : List Str} {sp : Sp} {st : Stmt} {fd : FuncData}
    (F : FunD K x x (defArgs st) (defBody st) (defScope st) [] [] (He.ga K x) fd) (S : FnScope N ps (defScope st)) (len : ∀ vs H Q E, sp vs H Q E → vs.length = ps.length)
    (hbody : ∀ (cdv : Value) (A : Around) (outer : List Env) (s : Shared) (H : Hp) (vs : List V) (Q : VK) (E : XK), Rm k (A.deeper (envOfC x (defScope st) s.heap.objs.size (He.ga K x) cdv)) → sp vs H Q E →
      ∃ t, PSs (cxOf (L2.CX P w) P w K mg base N x (defScope st) (He.ga K x) cdv A outer s H E) (defBody st) t ∧ t { nx := fun _ H' => Q .non H', rt := Q } (start N vs) H) : FnG P w K mg base (k + 1) (He.ga K x) fd ps sp := fnG_of F S len hbody
theorem fin_mk {P : Program} {w : World} {K : Fg} {mg : Str → Option Value} {h : Heap} {n k : Nat} {fa : Addr} {st : Stmt} {sp : Sp} (KX : K.In h) (hf : fa = He.ga K "law")
    (F : ∃ fd, FunD K "law" "law" (defArgs st) (defBody st) (defScope st) [] [] (He.ga K "law") fd)
    (hb : ∀ (kV doc pm : Value) (an : Option Addr) (cdv ct : Value) (us : List Value), us.length = (["script"] : List Str).length → bindArgs (PySem.W.fnOf "law" "law" (defArgs st) (defBody st) (defScope st) .none kV doc pm an cdv ct) ⟨us, []⟩ = pure ((["script"] : List Str).zip us))
    (hsp : ∀ (H : Hp) (a : Addr) (ns : List Int), ns.length ≤ n → SqL K H a (ns.map V.int) → sp [.ref a] H (fun v _ => v = .bl true) fun _ _ _ => False)
    (hF : ∀ (fd : FuncData) (base : Heap), FunD K "law" "law" (defArgs st) (defBody st) (defScope st) [] [] (He.ga K "law") fd → FnG P w K mg base k (He.ga K "law") fd ["script"] sp) :
    ∃ (K : PySem.W.Frag) (fd : FuncData) (sp : Sp), K.In h ∧ (∀ (s : Shared) (u : Value), BindsTo s fd ⟨[u], []⟩ [("script", u)]) ∧
        (∀ (H : Hp) (a : Addr) (ns : List Int), ns.length ≤ n → Only H → SqL K H a (ns.map V.int) → sp [.ref a] H (fun v _ => v = .bl true) fun _ _ _ => False) ∧
        ∀ base : Heap, FnG P w K mg base k fa fd ["script"] sp := by
  obtain ⟨fd, F⟩ := F
  refine ⟨K, fd, sp, KX, fun s u => F.bindsA (ps := ["script"]) hb s [u] rfl, fun H a ns h1 _ h2 => hsp H a ns h1 h2, fun base => ?_⟩
  rw [hf]
  exact hF fd base F
theorem eqv_int (i j : Int) : PyData.eqv (.int i) (.int j) = decide (i = j) := by
  show (i == j) = _
  rw [Bool.eq_iff_iff]
  simp
end Sw

/-! Objects of the program's own classes: methods, making, fields; constants of a module. -/
namespace Sw
open PySem PySem.Spec PyProof.Rows L2
structure CalM (P : Program) (w : World) (K : Fg) (mg : Str → Option Value) (base : Heap) (k : Nat) (C m : Str) (ps : List Str) (sp : Sp) : Prop where
  ex : ∃ fd : FuncData, FnG P w K mg base k (He.ma K (He.ga K C) m) fd ps sp ∧ Binds K fd ps []
  cls : Cls K (He.ga K C)
  meth : Meth K (He.ga K C) m (He.ma K (He.ga K C) m)
theorem calM_mk {P : Program} {w : World} {K : Fg} {mg : Str → Option Value} {base : Heap} {k : Nat} {C m q : Str} {N ps : List Str} {sp : Sp} {st : Stmt}
    (F : ∃ fd, FunD K m q (defArgs st) (defBody st) (defScope st) [] [] (He.ma K (He.ga K C) m) fd) (cls : Cls K (He.ga K C)) (meth : Meth K (He.ga K C) m (He.ma K (He.ga K C) m)) (S : FnScope N ps (defScope st)) (len : ∀ vs H Q E, sp vs H Q E → vs.length = ps.length)
    (hb : ∀ (kV doc pm : Value) (an : Option Addr) (cdv ct : Value) (us : List Value), us.length = ps.length → bindArgs (PySem.W.fnOf m q (defArgs st) (defBody st) (defScope st) .none kV doc pm an cdv ct) ⟨us, []⟩ = pure (ps.zip us))
    (hbody : ∀ (cdv : Value) (A : Around) (outer : List Env) (s : Shared) (H : Hp) (vs : List V) (Q : VK) (E : XK), Rm k (A.deeper (envOfC q (defScope st) s.heap.objs.size (He.ma K (He.ga K C) m) cdv)) → sp vs H Q E →
      ∃ t, PSs (cxOf (L2.CX P w) P w K mg base N q (defScope st) (He.ma K (He.ga K C) m) cdv A outer s H E) (defBody st) t ∧ t { nx := fun _ H' => Q .non H', rt := Q } (start N vs) H) : CalM P w K mg base (k + 1) C m ps sp := by
  obtain ⟨fd, F⟩ := F
  exact ⟨⟨fd, fnG_of F S len hbody, F.bindsN hb⟩, cls, meth⟩
def tMth (C : Addr) (m : Str) (sp : Sp) (E : XK) (ta : TE) (t : TA) : TE := fun σ H Q => ta σ H fun x H1 => ∃ a dx fs, x = .ref a ∧ H1 a = some (.ins C dx fs) ∧ fs.lookup m = none ∧ t σ H1 fun vs H2 => sp (x :: vs) H2 Q E
def tMthS (C : Addr) (m : Str) (sp : Sp) (E : L2.St → XK) (ta : TE) (t : TA) : TE := fun σ H Q => ta σ H fun x H1 => ∃ a dx fs, x = .ref a ∧ H1 a = some (.ins C dx fs) ∧ fs.lookup m = none ∧ t σ H1 fun vs H2 => sp (x :: vs) H2 Q (E σ)
def tMak (C : Addr) (sp : Sp) (E : XK) (t : TA) : TE := fun σ H Q => t σ H fun vs H1 => ∀ x dx, H1 x = none → H1 dx = none → dx ≠ x → sp (.ref x :: vs) (upd (upd H1 dx (.own x)) x (.ins C dx [])) (fun v H2 => v = .non ∧ Q (.ref x) H2) E
def tMakS (C : Addr) (sp : Sp) (E : L2.St → XK) (t : TA) : TE := fun σ H Q => t σ H fun vs H1 => ∀ x dx, H1 x = none → H1 dx = none → dx ≠ x → sp (.ref x :: vs) (upd (upd H1 dx (.own x)) x (.ins C dx [])) (fun v H2 => v = .non ∧ Q (.ref x) H2) (E σ)
section
variable {X : Cx} {k j : Nat} {C m x : Str} {ps : List Str} {sp : Sp} {E : XK} {o e : Expr} {es : List Expr} {ta : TE} {t : TA} {p apos pos : Pos} {pl : Sem Bool} {W : WX}
theorem pe_mth (c : CalM X.prog X.w X.K X.mg X.base k C m ps sp) (hr : Rm j X.A) (hk : k ≤ j) (hx : Passes (L2.CX X.prog X.w) X E) (he : PE X o ta) (ha : PA X (e :: es) t)
    (hst : starEach (e :: es) X.env = (false, eval e X.env) :: starEach es X.env := by rfl) (hpl : (backTo pos (starEach es X.env)).any (·.1) = false := by rfl)
    (ht : eval (.Call (.Attribute o m apos) (e :: es) [] pos) X.env = (do
      let ov ← eval o X.env
      standAt apos.atName
      let (f, first) ← holding [ov] (getMethod ov m pl)
      callWith pos f first (backTo pos (starEach (e :: es) X.env)) (backToKw pos (keywordEach [] X.env))) := by rfl) :
    PE X (.Call (.Attribute o m apos) (e :: es) [] pos) (tMthS (He.ga X.K C) m sp (fun _ => E) ta t) := by
  obtain ⟨fd, F, b⟩ := c.ex
  refine ⟨fun pins s σ H Q I h => PySem.W.methodCall_KW (pl := pl) (thn (he.run pins s σ H _ I h) fun u s1 ⟨x, H1, I1, rx, a, dx, fs, ex, ea, l, q⟩ => ?_) ht⟩
  subst ex
  obtain rfl : u = Value.ref a := rx
  refine getmeth_ok I1 ea c.cls c.meth l (PySem.W.callWith_K (first := [.ref a]) (h₀ := X.base) I.ok.mod.kin c.meth.kp (thn (ha.run pos pins s1 σ H1 _ I1 q) fun us s2 ⟨vs, H2, I2, r, q2⟩ => ⟨I2.kIn, ?_⟩) hst hpl)
  exact run_fnG (E := fun _ => E) (us := .ref a :: us) (vs := .ref a :: vs) F (hr.mono hk) b (fun pins H s e s' I c => hx pins σ H s e s' I c) I2 (.cons rfl r) q2
theorem pe_mth0 (c : CalM X.prog X.w X.K X.mg X.base k C m ps sp) (hr : Rm j X.A) (hk : k ≤ j) (hx : Passes (L2.CX X.prog X.w) X E) (he : PE X o ta)
    (ht : eval (.Call (.Attribute o m apos) [] [] pos) X.env = (do
      let ov ← eval o X.env
      standAt apos.atName
      let (f, first) ← holding [ov] (getMethod ov m pl)
      callWith pos f first (backTo pos (starEach [] X.env)) (backToKw pos (keywordEach [] X.env))) := by rfl) :
    PE X (.Call (.Attribute o m apos) [] [] pos) (tMthS (He.ga X.K C) m sp (fun _ => E) ta tNil) := by
  obtain ⟨fd, F, b⟩ := c.ex
  refine ⟨fun pins s σ H Q I h => PySem.W.methodCall_KW (pl := pl) (thn (he.run pins s σ H _ I h) fun u s1 ⟨x, H1, I1, rx, a, dx, fs, ex, ea, l, q⟩ => ?_) ht⟩
  subst ex
  obtain rfl : u = Value.ref a := rx
  refine getmeth_ok I1 ea c.cls c.meth l (PySem.W.callWith_K0 (first := [.ref a]) I1.kIn c.meth.kp ?_)
  exact run_fnG (E := fun _ => E) (us := [.ref a]) (vs := [.ref a]) F (hr.mono hk) b (fun pins H s e s' I c => hx pins σ H s e s' I c) I1 (.cons rfl .nil) q
theorem pe_mthS (c : CalM X.prog X.w X.K X.mg X.base k C m ps sp) (hr : Rm j X.A) (hk : k ≤ j) (tk : Takes X W) (he : PE X o ta) (ha : PA X (e :: es) t)
    (hst : starEach (e :: es) X.env = (false, eval e X.env) :: starEach es X.env := by rfl) (hpl : (backTo pos (starEach es X.env)).any (·.1) = false := by rfl)
    (ht : eval (.Call (.Attribute o m apos) (e :: es) [] pos) X.env = (do
      let ov ← eval o X.env
      standAt apos.atName
      let (f, first) ← holding [ov] (getMethod ov m pl)
      callWith pos f first (backTo pos (starEach (e :: es) X.env)) (backToKw pos (keywordEach [] X.env))) := by rfl) :
    PE X (.Call (.Attribute o m apos) (e :: es) [] pos) (tMthS (He.ga X.K C) m sp (WE W) ta t) := by
  obtain ⟨fd, F, b⟩ := c.ex
  refine ⟨fun pins s σ H Q I h => ?_⟩
  refine PySem.W.methodCall_KW (pl := pl) (thn (he.run pins s σ H _ I h) fun u s1 ⟨x, H1, I1, rx, a, dx, fs, ex, ea, l, q⟩ => ?_) ht
  subst ex
  obtain rfl : u = Value.ref a := rx
  refine getmeth_ok I1 ea c.cls c.meth l ?_
  refine PySem.W.callWith_K (first := [.ref a]) (h₀ := X.base) I.ok.mod.kin c.meth.kp (thn (ha.run pos pins s1 σ H1 _ I1 q) fun us s2 ⟨vs, H2, I2, r, q2⟩ => ⟨I2.kIn, ?_⟩) hst hpl
  exact run_fnG (us := .ref a :: us) (vs := .ref a :: vs) F (hr.mono hk) b (passAt tk σ) I2 (.cons rfl r) q2
theorem pe_mth0S (c : CalM X.prog X.w X.K X.mg X.base k C m ps sp) (hr : Rm j X.A) (hk : k ≤ j) (tk : Takes X W) (he : PE X o ta)
    (ht : eval (.Call (.Attribute o m apos) [] [] pos) X.env = (do
      let ov ← eval o X.env
      standAt apos.atName
      let (f, first) ← holding [ov] (getMethod ov m pl)
      callWith pos f first (backTo pos (starEach [] X.env)) (backToKw pos (keywordEach [] X.env))) := by rfl) :
    PE X (.Call (.Attribute o m apos) [] [] pos) (tMthS (He.ga X.K C) m sp (WE W) ta tNil) := by
  obtain ⟨fd, F, b⟩ := c.ex
  refine ⟨fun pins s σ H Q I h => ?_⟩
  refine PySem.W.methodCall_KW (pl := pl) (thn (he.run pins s σ H _ I h) fun u s1 ⟨x, H1, I1, rx, a, dx, fs, ex, ea, l, q⟩ => ?_) ht
  subst ex
  obtain rfl : u = Value.ref a := rx
  refine getmeth_ok I1 ea c.cls c.meth l ?_
  exact PySem.W.callWith_K0 (first := [.ref a]) I1.kIn c.meth.kp (run_fnG (us := [.ref a]) (vs := [.ref a]) F (hr.mono hk) b (passAt tk σ) I1 (.cons rfl .nil) q)
theorem pe_mk (c : CalM X.prog X.w X.K X.mg X.base k C "__init__" ps sp) (M : Mk X.K (He.ga X.K C) (He.ma X.K (He.ga X.K C) "__init__")) (hm : X.mg C = some (.ref (He.ga X.K C))) (hr : Rm j X.A) (hk : k + 1 ≤ j) (hx : Passes (L2.CX X.prog X.w) X E) (hg : Gl X C) (ha : PA X (e :: es) t)
    (hdb : (C == ("__debug__" : Str)) = false := by decide) (he : starEach (e :: es) X.env = (false, eval e X.env) :: starEach es X.env := by rfl) (hpl : (backTo pos (starEach es X.env)).any (·.1) = false := by rfl) :
    PE X (.Call (.Name C p) (e :: es) [] pos) (tMakS (He.ga X.K C) sp (fun _ => E) t) := by
  obtain ⟨fd, F, b⟩ := c.ex
  refine ⟨fun pins s σ H Q I h => wpAny_Call_Name_kw (ld_glob I hg hm ?_ hdb)⟩
  refine PySem.W.callWith_K (h₀ := X.base) I.ok.mod.kin M.kp (thn (ha.run pos pins s σ H _ I h) fun us s1 ⟨vs, H1, I1, r, q⟩ => ⟨I1.kIn, ?_⟩) he hpl
  exact run_makG (E := fun _ => E) M F (hr.mono hk) b (fun pins H s e s' I c => hx pins σ H s e s' I c) I1 r q
theorem pe_mkS (c : CalM X.prog X.w X.K X.mg X.base k C "__init__" ps sp) (M : Mk X.K (He.ga X.K C) (He.ma X.K (He.ga X.K C) "__init__")) (hm : X.mg C = some (.ref (He.ga X.K C))) (hr : Rm j X.A) (hk : k + 1 ≤ j) (tk : Takes X W) (hg : Gl X C) (ha : PA X (e :: es) t)
    (hdb : (C == ("__debug__" : Str)) = false := by decide) (he : starEach (e :: es) X.env = (false, eval e X.env) :: starEach es X.env := by rfl) (hpl : (backTo pos (starEach es X.env)).any (·.1) = false := by rfl) :
    PE X (.Call (.Name C p) (e :: es) [] pos) (tMakS (He.ga X.K C) sp (WE W) t) := by
  obtain ⟨fd, F, b⟩ := c.ex
  refine ⟨fun pins s σ H Q I h => ?_⟩
  refine wpAny_Call_Name_kw (ld_glob I hg hm ?_ hdb)
  refine PySem.W.callWith_K (h₀ := X.base) I.ok.mod.kin M.kp (thn (ha.run pos pins s σ H _ I h) fun us s1 ⟨vs, H1, I1, r, q⟩ => ⟨I1.kIn, ?_⟩) he hpl
  exact run_makG M F (hr.mono hk) b (passAt tk σ) I1 r q
/-! ### fields -/
def tFldC (C : Addr) (ta : TE) (f : Str) : TE := fun σ H Q => ta σ H fun x H1 => ∃ a dx fs v, x = .ref a ∧ H1 a = some (.ins C dx fs) ∧ fs.lookup f = some v ∧ Q v H1
def sFldC (C : Addr) (ta tv : TE) (f : Str) : TS := fun D σ H => tv σ H fun y H1 => ta σ H1 fun x H2 => ∃ a dx fs, x = .ref a ∧ H2 a = some (.ins C dx fs) ∧ fs.length < 1000 ∧ D.nx σ (upd H2 a (.ins C dx (putF f y fs)))
theorem pe_fldC {f : Str} {D : Addr} (c : Cls X.K D) (n : NoAttr X.K D f) (he : PE X e ta) (hb : attributeBase e f X.env (eval e X.env) = eval e X.env := by rfl) : PE X (.Attribute e f pos) (tFldC D ta f) :=
  ⟨fun pins s σ H Q I h => (pe_fld (pe_mono he) hb).run pins s σ H Q I ⟨_, h, fun x H1 ⟨a, dx, fs, v, e1, e2, e3, q⟩ => ⟨a, D, dx, fs, v, e1, e2, c, n, e3, q⟩⟩⟩
theorem ps_fldC {f : Str} {tv : TE} {D : Addr} {value : Expr} {pos' : Pos} (c : Cls X.K D) (n : NoAttr X.K D f) (ha : PE X o ta) (hv : PE X value tv) (hs : swapsWith value (some (.Attribute o f pos')) pos.line X.env = pure false := by rfl) :
    PS X (.Assign [.Attribute o f pos'] value pos) (sFldC D ta tv f) :=
  ⟨fun pins s σ H D' I h => (ps_fld (pe_mono ha) (pe_mono hv) hs).run pins s σ H D' I ⟨_, h, fun y H1 q => ⟨_, q, fun x H2 ⟨a, dx, fs, e1, e2, e3, q⟩ => ⟨a, D, dx, fs, e1, e2, c, n, e3, q⟩⟩⟩⟩
/-! ### the head with tables -/
abbrev AlX : Type := He.AlD × List (Option (List (Option (Str × Int))))
def obT (p : Fg → Bool) (fn : List He.DefD) (ts : List He.Tab) (K : Fg) : AlX := (obX p fn K, ts.map fun t => He.dicW K (t.1 K))
def vaT (fn : List He.DefD) (ts : List He.Tab) (w : World) : AlX := (He.valD fn, ts.map fun t => some (He.keysIn w.params t.2))
def sayT (p : Fg → Bool) (fn : List He.DefD) (ts : List He.Tab) (w : World) (K : Fg) : Prop := obT p fn ts K = vaT fn ts w
def hkT (n : Nat) (p : Fg → Bool) (fn : List He.DefD) (ts : List He.Tab) : PySem.W.Hook where
  α := AlX
  obs := fun s => obT p fn ts (He.frG s.heap.get? (asZ s.heap.get? n))
  val := fun w => vaT fn ts w
  says := fun w h => ∃ K : Fg, K.In h ∧ sayT p fn ts w K
  of := fun _ _ e => ⟨_, He.frG_in, e⟩
  keeps := fun _ _ _ ⟨K, hK, c⟩ k => ⟨K, PySem.W.Frag.In.keeps hK k, c⟩
theorem obT_eq {n : Nat} {p : Fg → Bool} {fn : List He.DefD} {ts : List He.Tab} {g : Addr → Option Obj} {s : Shared} (h : ∀ a, g a = s.heap.get? a) : obT p fn ts (He.frG g (asZ g n)) = (hkT n p fn ts).obs s := by
  rw [show g = s.heap.get? from funext h] <;> rfl
theorem sayT.bas {p : Fg → Bool} {fn : List He.DefD} {ts : List He.Tab} {w : World} {K : Fg} (c : sayT p fn ts w K) : sayX p fn K := congrArg (fun z : AlX => z.1) c
theorem sayT.tab {p : Fg → Bool} {fn : List He.DefD} {ts : List He.Tab} {w : World} {K : Fg} (c : sayT p fn ts w K) (i : Nat) {t : He.Tab} (h : ts[i]? = some t := by rfl) : ∃ es n, KDict K w (t.1 K) es n := by
  have e : ts.map (fun t => He.dicW K (t.1 K)) = ts.map fun t => some (He.keysIn w.params t.2) := congrArg (fun z : AlX => z.2) c
  have e2 : (ts.map fun t => He.dicW K (t.1 K))[i]? = (ts.map fun t => some (He.keysIn w.params t.2))[i]? := by rw [e]
  rw [List.getElem?_map, List.getElem?_map, h] at e2
  exact He.dicW_ok (Option.some.inj e2)
/-- a value of such a table -/
theorem kdct_of {K : Fg} {w : World} {a : Addr} {kvs : List (Str × He.Dv)} (h : ∃ es n, KDict K w a es n) (v : He.valsB K a kvs = true) : ∀ q ∈ kvs, KDct K w a q.1 (q.2.v K) := fun q hq => by
  obtain ⟨es, n, D⟩ := h
  obtain ⟨u, e, r⟩ := He.valsB_ok v hq
  exact ⟨es, n, u, D.at_, D.lit, e, r⟩
/-! ### constants of a module -/
theorem pe_gint {i : Int} (hg : Gl X x) (hm : ∃ t, X.mg x = some (.int i t)) (hd : (x == ("__debug__" : Str)) = false := by decide) : PE X (.Name x pos) (tC (.int i)) := by
  obtain ⟨t, hm⟩ := hm
  exact pe_glob hg hm ⟨t, rfl⟩ hd
theorem pe_gstr {z : Str} (hg : Gl X x) (hm : ∃ t, X.mg x = some (.str z t)) (hd : (x == ("__debug__" : Str)) = false := by decide) : PE X (.Name x pos) (tC (.str z)) := by
  obtain ⟨t, hm⟩ := hm
  exact pe_glob hg hm ⟨t, rfl⟩ hd
end
/-! ### xs[i] op= e, the read by value -/
def rGetL : V → V → Hp → VK → Prop := fun o i H Q => ∃ p xs k v, o = .ref p ∧ i = .int k ∧ H p = some (.lst xs) ∧ (0 ≤ k ∧ k < 2 ^ 62) ∧ xs[k.toNat]? = some v ∧ Q v H
theorem get_list {X : Cx} : PGet X rGetL := by
  intro pins s σ H o i ov iv Q I r1 r2 ⟨p, xs, k, v, e1, e2, e3, ⟨k0, k1⟩, e4, q⟩
  subst e1 e2
  cases r1
  obtain ⟨t, rfl⟩ := r2
  obtain ⟨its, r, pl, hz⟩ := I.list (SqL.of e3)
  obtain ⟨u, ew, rw'⟩ := r.get e4
  exact wpAny_getItem_list pl.isList k0 (by omega) (by simpa using ew) ⟨v, H, I, rw', q⟩
theorem ri : (∀ C m sp E ta t σ H Q, tMth C m sp E ta t σ H Q = ta σ H fun x H1 => ∃ a dx fs, x = .ref a ∧ H1 a = some (.ins C dx fs) ∧ fs.lookup m = none ∧ t σ H1 fun vs H2 => sp (x :: vs) H2 Q E) ∧
    (∀ C m sp E ta t σ H Q, tMthS C m sp E ta t σ H Q = ta σ H fun x H1 => ∃ a dx fs, x = .ref a ∧ H1 a = some (.ins C dx fs) ∧ fs.lookup m = none ∧ t σ H1 fun vs H2 => sp (x :: vs) H2 Q (E σ)) ∧
    (∀ C sp E t σ H Q, tMak C sp E t σ H Q = t σ H fun vs H1 => ∀ x dx, H1 x = none → H1 dx = none → dx ≠ x → sp (.ref x :: vs) (upd (upd H1 dx (.own x)) x (.ins C dx [])) (fun v H2 => v = .non ∧ Q (.ref x) H2) E) ∧
    (∀ C sp E t σ H Q, tMakS C sp E t σ H Q = t σ H fun vs H1 => ∀ x dx, H1 x = none → H1 dx = none → dx ≠ x → sp (.ref x :: vs) (upd (upd H1 dx (.own x)) x (.ins C dx [])) (fun v H2 => v = .non ∧ Q (.ref x) H2) (E σ)) ∧
    (∀ C ta f σ H Q, tFldC C ta f σ H Q = ta σ H fun x H1 => ∃ a dx fs v, x = .ref a ∧ H1 a = some (.ins C dx fs) ∧ fs.lookup f = some v ∧ Q v H1) ∧
    (∀ C ta tv f D σ H, sFldC C ta tv f D σ H = tv σ H fun y H1 => ta σ H1 fun x H2 => ∃ a dx fs, x = .ref a ∧ H2 a = some (.ins C dx fs) ∧ fs.length < 1000 ∧ D.nx σ (upd H2 a (.ins C dx (putF f y fs)))) ∧
    (∀ to ti te tg tp ts D σ H, tAugS to ti te tg tp ts D σ H = to σ H fun o H1 => ti σ H1 fun i H2 => tg o i H2 fun x H3 => te σ H3 fun y H4 => tp x y H4 fun z H5 => ts o i z H5 fun H6 => D.nx σ H6) ∧
    (∀ f i y H Q, ipI f (.int i) y H Q = ∃ j, y = .int j ∧ Q (.int (f i j)) H) ∧
    (∀ p i H Q, rGetL (.ref p) (.int i) H Q = ∃ xs v, H p = some (.lst xs) ∧ (0 ≤ i ∧ i < 2 ^ 62) ∧ xs[i.toNat]? = some v ∧ Q v H) := by
  refine ⟨?_, ?_, ?_, ?_, ?_, ?_, ?_, ?_, ?_⟩
  iterate 7 (intros; rfl)
  · intro f i y H Q
    exact propext ⟨fun ⟨_, j, e1, e2, q⟩ => ⟨j, e2, by cases e1; exact q⟩, fun ⟨j, e, q⟩ => ⟨i, j, rfl, e, q⟩⟩
  · intro p i H Q
    exact propext ⟨fun ⟨_, xs, _, v, e1, e2, e3, e4, e5, q⟩ => (by cases e1; cases e2; exact ⟨xs, v, e3, e4, e5, q⟩), fun ⟨xs, v, e3, e4, e5, q⟩ => ⟨p, xs, i, v, rfl, rfl, e3, e4, e5, q⟩⟩
end Sw

/-! Errors of the program's own as values: made, asked for their class, for a field. -/
namespace Sw
open PySem PySem.Spec PyProof.Rows L2
/-- C(e, ..): the error stays a value -/
def tMkV (C : Addr) (sp : Sp) (ta : TA) : TE := fun σ H Q => ta σ H fun vs H1 => vs.length ≤ 1000 ∧ ∀ a, H1 a = none → sp (.ref a :: vs) (upd H1 a (exo a C none)) (fun v H2 => v = .non ∧ Q (.ref a) H2) (fun _ _ _ => False)
section
variable {X : Cx} {k : Nat} {x f : Str} {e : Expr} {es : List Expr} {ta : TA} {te : TE} {p pos : Pos}
theorem run_mkV {C fI : Addr} {fd : FuncData} {ps : List Str} {sp : Sp} {pins : List (Addr × Obj)} {σ : L2.St} {H1 : Hp} {s1 : Shared} {Q : VK} {us : List Value} {vs : List V} (T : OexC X.K C) (iC : PySem.W.findIn X.K (.ref C) "__init__" = some (some (.ref fI))) (tI : PySem.W.typeIn X.K (.ref fI) = some (.type "function"))
    (F1 : FnOk X.prog X.w X.K X.mg X.base (L2.CX X.prog X.w) k fI fd ps sp) (hr : Room (k + 1) X.A) (hb : Binds X.K fd ps []) (I1 : Inv X pins σ H1 s1) (r1 : Vals vs us) (hz : vs.length ≤ 1000)
    (q1 : ∀ a, H1 a = none → sp (.ref a :: vs) (upd H1 a (exo a C none)) (fun v H2 => v = .non ∧ Q (.ref a) H2) (fun _ _ _ => False)) :
    wpAny (model X.prog X.w) X.A (call (.ref C) us) (EP X pins σ Q) X.xe s1 := by
  obtain ⟨nm, q, N, bs, bm, sn, sub, ab, col, dd, k0, k1, k2, k3, k5, hC, hbm⟩ := T.cls
  obtain ⟨hp, g, dr, tk, os⟩ := s1
  have hsz : hp.objs.size ≤ hp.objs.size + 1 := Nat.le_succ _
  have hn : H1 (hp.objs.size + 1) = none := I1.hok.fresh hsz
  have hq := q1 (hp.objs.size + 1) hn
  have kk : ∀ b o, hp.get? b = some o → ((hp.push (PySem.W.kdv_tup us)).push (PySem.HandSPX.excO C hp.objs.size)).get? b = some o := fun b o e => Heap.get?_push_of_some _ (Heap.get?_push_of_some _ e)
  have hget : ((hp.push (PySem.W.kdv_tup us)).push (PySem.HandSPX.excO C hp.objs.size)).get? (hp.objs.size + 1) = some (PySem.HandSPX.excO C hp.objs.size) := by heap_get
  have I2 : Inv X pins σ (upd H1 (hp.objs.size + 1) (exo (hp.objs.size + 1) C none)) ⟨(hp.push (PySem.W.kdv_tup us)).push (PySem.HandSPX.excO C hp.objs.size), g, dr, tk, os⟩ :=
    I1.laid (t' := tk) (a := hp.objs.size + 1) (o := exo (hp.objs.size + 1) C none) (h' := (hp.push (PySem.W.kdv_tup us)).push (PySem.HandSPX.excO C hp.objs.size)) kk hsz (exo_ok hget)
  have r2 : Vals (V.ref (hp.objs.size + 1) :: vs) (Value.ref (hp.objs.size + 1) :: us) := .cons rfl r1
  have hl : (Value.ref (hp.objs.size + 1) :: us).length = ps.length := by
    have e := r2.length
    rw [F1.len _ _ _ _ hq] at e
    exact e.symm
  have hus : us.length ≤ sizeLine := by
    rw [← Paired.length r1, sizeLine_eq]
    omega
  refine wpAny_call (PySem.HandSPX.call_own F.excBase_ValueError (fun Y => PySem.HandSPX.refsVE_contains Y bm hbm) (I1.kIn _ _ hC) (PySem.W.looks_findIn I1.kIn iC) (fun self => PySem.W.bind_fn I1.kIn self tI) hus
    (codeAny_mono (F1.run _ X.stack _ _ ⟨Value.ref (hp.objs.size + 1) :: us, []⟩ (Value.ref (hp.objs.size + 1) :: us) _ _ (fun _ _ _ => False) (hr.make C us []) (I2.env0.make C us [])
      (by have := hb _ (Value.ref (hp.objs.size + 1) :: us) I2.kIn (by rw [List.append_nil]; exact hl); rw [List.append_nil] at this; exact this) r2 hq) fun r s' hq' => ?_))
  cases r with
  | error er => exact passL pins σ _ _ er s' I2 hq'
  | ok fl =>
    cases fl with
    | ret u =>
      obtain ⟨v, H', I3, rv, ev, q3⟩ := I2.after hq'
      subst ev
      exact ⟨rv, ⟨V.ref (hp.objs.size + 1), H', I3, rfl, q3⟩⟩
    | next => exact False.elim hq'
    | brk => exact False.elim hq'
    | cont => exact False.elim hq'
/-- C(e), one field -/
def tMk1V (C : Addr) (f : Str) (ta : TA) : TE := fun σ H Q => ta σ H fun vs H1 => ∃ v, vs = [v] ∧ ∀ a d, H1 a = none → H1 d = none → d ≠ a → Q (.ref a) (upd (upd H1 d (exd d [(f, v)])) a (exo a C (some d)))
theorem pe_mk1V (T : Exn X.prog X.w X.K X.mg X.base x f) (hr : Room k X.A) (hk : 3 ≤ k) (hg : Gl X x) (ha : PA X (e :: es) ta)
    (hdb : (x == ("__debug__" : Str)) = false := by decide) (he : starEach (e :: es) X.env = (false, eval e X.env) :: starEach es X.env := by rfl) (hpl : (backTo pos (starEach es X.env)).any (·.1) = false := by rfl) :
    PE X (.Call (.Name x p) (e :: es) [] pos) (tMk1V (He.ga X.K x) f ta) := by
  obtain ⟨fI, fd, iC, tI, F, b⟩ := T.ini
  refine ⟨fun pins s σ H Q I h => ?_⟩
  refine wpAny_Call_Name_kw (ld_glob I hg T.at_ ?_ hdb)
  refine PySem.W.callWith_K (h₀ := X.base) I.ok.mod.kin T.c.ox.kC (thn (ha.run pos pins s σ H _ I h) fun us s1 ⟨vs, H1, I1, r1, v, ev, q⟩ => ⟨I1.kIn, ?_⟩) he hpl
  subst ev
  refine run_mkV T.c.ox iC tI F (hr.mono hk) b I1 r1 (by show 1 ≤ 1000; decide) fun a na => ⟨a, v, rfl, upd_same, fun d nd ne => ⟨rfl, ?_⟩⟩
  rw [upd_ne ne] at nd
  have e2 : upd (upd (upd H1 a (exo a (He.ga X.K x) none)) d (exd d [(f, v)])) a (exo a (He.ga X.K x) (some d)) = upd (upd H1 d (exd d [(f, v)])) a (exo a (He.ga X.K x) (some d)) := by
    funext c
    by_cases h1 : c = a
    · rw [h1, upd_same, upd_same]
    · rw [upd_ne h1, upd_ne h1]
      by_cases h2 : c = d
      · rw [h2, upd_same, upd_same]
      · rw [upd_ne h2, upd_ne h2, upd_ne h1]
  rw [e2]
  exact q a d na nd ne
/-! ### isinstance, of such a value -/
def Xo (H : Hp) (a C : Addr) : Prop := H a = some (exo a C none) ∨ H a = some (ExO (.ref C) a) ∨ ∃ dx fs, H a = some (exo a C (some dx)) ∧ H dx = some (exd dx fs)
def rIsV (K : Fg) : List V → Hp → VK → Prop := fun xs H Q => ∃ (a D : Addr) (c : V) (cv : Value) (b : Bool), xs = [.ref a, c] ∧ ClsV c cv ∧ ExC K D ∧ Xo H a D ∧ PySem.W.kitOne K (.ref D) cv = some b ∧ Q (.bl b) H
theorem call_isV : CallR X (.builtin "isinstance") (rIsV X.K) := by
  intro pins s σ H xs us Q I r h
  obtain ⟨a, D, c, cv, b, rfl, hcv, C, hx, e, q⟩ := h
  cases r with
  | cons r1 r2 =>
    cases r2 with
    | cons r3 r4 =>
      cases r4
      cases r1
      have ec := hcv.eq r3
      subst ec
      rcases hx with ha | ha | ⟨dx, fs, ha, hd⟩
      · obtain ⟨t1, hget⟩ := exo_at I.hok ha
        have J : PySem.W.InstAt s.heap a _ D none := ⟨hget, rfl, rfl, trivial⟩
        exact PySem.W.kia_one (PySem.W.sw_kitE C.xf.ga C.xf.gg C.xf.exC C.xf.hdC C.cc C.gs C.tk C.mo) I.kIn J e (fun z => nomatch z) fun tk => ⟨.bl b, H, I.kept (t' := tk) fun _ _ z => z, rfl, q⟩
      · obtain ⟨⟨oe, vs, hget, hz, hv, _⟩, _, _⟩ := I.hok a _ ha
        have J : PySem.W.InstAt s.heap a oe D none := by
          obtain ⟨oc, od, oda, osl⟩ := oe
          obtain ⟨h1, h2⟩ := hz
          dsimp only at h1 h2 hv
          subst h1 h2 hv
          exact ⟨hget, rfl, rfl, trivial⟩
        exact PySem.W.kia_one (PySem.W.sw_kitE C.xf.ga C.xf.gg C.xf.exC C.xf.hdC C.cc C.gs C.tk C.mo) I.kIn J e (fun z => nomatch z) fun tk => ⟨.bl b, H, I.kept (t' := tk) fun _ _ z => z, rfl, q⟩
      · obtain ⟨t1, hget⟩ := exo_at I.hok ha
        obtain ⟨mA, hns, _⟩ := exd_at I.hok hd
        obtain ⟨od, ho, _⟩ := lookIn_ns hns
        have J : PySem.W.InstAt s.heap a _ D (some od) := ⟨hget, rfl, rfl, ho⟩
        exact PySem.W.kia_one (PySem.W.sw_kitE C.xf.ga C.xf.gg C.xf.exC C.xf.hdC C.cc C.gs C.tk C.mo) I.kIn J e (fun z => nomatch z) fun tk => ⟨.bl b, H, I.kept (t' := tk) fun _ _ z => z, rfl, q⟩
/-- isinstance of such a value, or of any other kind -/
theorem is_qv : CallR X (.builtin "isinstance") (fun xs H Q => rIsQ xs H Q ∨ rIsV X.K xs H Q) := fun pins s σ H xs us Q I r h => h.elim (is_q pins s σ H xs us Q I r) (call_isV pins s σ H xs us Q I r)
/-! ### its fields -/
def tXfV (K : Fg) (te : TE) (f : Str) : TE := fun σ H Q => te σ H fun x H1 => ∃ (a D dx : Addr) (fs : List (Str × V)) (v : V), x = .ref a ∧ ExC K D ∧ PySem.W.findIn K (.ref D) f = some none ∧ H1 a = some (exo a D (some dx)) ∧ H1 dx = some (exd dx fs) ∧ fs.lookup f = some v ∧ Q v H1
theorem pe_xfV (he : PE X e te) (hb : attributeBase e f X.env (eval e X.env) = eval e X.env := by rfl) : PE X (.Attribute e f pos) (tXfV X.K te f) := by
  refine ⟨fun pins s σ H Q I h => ?_⟩
  refine attr_of hb (thn (he.run pins s σ H _ I h) fun u s1 ⟨x, H1, I1, rx, a, D, dx, fs, v, ex, T, hno, ha, hd, l, q⟩ => ?_)
  subst ex
  obtain rfl : u = Value.ref a := rx
  obtain ⟨t1, hget⟩ := exo_at I1.hok ha
  obtain ⟨mA, hns, hr⟩ := exd_at I1.hok hd
  obtain ⟨od, ho, hl⟩ := lookIn_ns hns
  obtain ⟨u, hu, ru⟩ := RelO.some_of (v := v) (o := mA f) (by rw [← l]; exact hr f)
  have J : PySem.W.InstAt s1.heap a _ D (some od) := ⟨hget, rfl, rfl, ho⟩
  exact HandSPX.exc_get I1.kIn J T.xf.ga T.xf.gg T.xf.exC (PySem.W.findObj_own T.xf.hdC hno rfl (by rw [hl, hu])) (handed_of ru) ⟨v, H1, I1.tok _, ru, q⟩
/-! ### classes with two fields, with none -/
structure ExnG (P : Program) (w : World) (K : Fg) (mg : Str → Option Value) (base : Heap) (j : Nat) (x : Str) (ps : List Str) (sp : Sp) : Prop where
  at_ : mg x = some (.ref (He.ga K x))
  c : ExC K (He.ga K x)
  ini : ∃ (fI : Addr) (fd : FuncData), PySem.W.findIn K (.ref (He.ga K x)) "__init__" = some (some (.ref fI)) ∧ PySem.W.typeIn K (.ref fI) = some (.type "function") ∧ FnOk P w K mg base (L2.CX P w) j fI fd ps sp ∧ Binds K fd ps []
theorem pe_mkG {j : Nat} {ps : List Str} {sp : Sp} (T : ExnG X.prog X.w X.K X.mg X.base j x ps sp) (hr : Room k X.A) (hk : j + 1 ≤ k) (hg : Gl X x) (ha : PA X (e :: es) ta)
    (hdb : (x == ("__debug__" : Str)) = false := by decide) (he : starEach (e :: es) X.env = (false, eval e X.env) :: starEach es X.env := by rfl) (hpl : (backTo pos (starEach es X.env)).any (·.1) = false := by rfl) :
    PE X (.Call (.Name x p) (e :: es) [] pos) (tMkV (He.ga X.K x) sp ta) := by
  obtain ⟨fI, fd, iC, tI, F, b⟩ := T.ini
  refine ⟨fun pins s σ H Q I h => ?_⟩
  refine wpAny_Call_Name_kw (ld_glob I hg T.at_ ?_ hdb)
  exact PySem.W.callWith_K (h₀ := X.base) I.ok.mod.kin T.c.ox.kC (thn (ha.run pos pins s σ H _ I h) fun us s1 ⟨vs, H1, I1, r1, hz, q⟩ => ⟨I1.kIn, run_mkV T.c.ox iC tI F (hr.mono hk) b I1 r1 hz q⟩) he hpl
theorem pe_mkG0 {j : Nat} {ps : List Str} {sp : Sp} (T : ExnG X.prog X.w X.K X.mg X.base j x ps sp) (hr : Room k X.A) (hk : j + 1 ≤ k) (hg : Gl X x)
    (hdb : (x == ("__debug__" : Str)) = false := by decide) : PE X (.Call (.Name x p) [] [] pos) (tMkV (He.ga X.K x) sp tNil) := by
  obtain ⟨fI, fd, iC, tI, F, b⟩ := T.ini
  refine ⟨fun pins s σ H Q I h => ?_⟩
  refine wpAny_Call_Name_kw (ld_glob I hg T.at_ ?_ hdb)
  exact PySem.W.callWith_K0 I.kIn T.c.ox.kC (run_mkV (us := []) T.c.ox iC tI F (hr.mono hk) b I .nil h.1 h.2)
end
def ini0 (m : Str) (p1 p2 p3 p4 p5 p6 : Pos) (j : Nat) : List Stmt := [.Expr (.Call (.Attribute (.Name "SeedError" p1) "__init__" p2) [.Name "self" p3, .Constant (.str m) j p4] [] p5) p6]
def spIni0 (C : Addr) : Sp := fun vs H Q _ => ∃ a : Addr, vs = [.ref a] ∧ H a = some (exo a C none) ∧ Q .non H
def ini2 (m f g : Str) (p1 p2 p3 p4 p5 p6 p7 p8 p9 p10 q7 q8 q9 q10 : Pos) (j : Nat) : List Stmt :=
  [.Expr (.Call (.Attribute (.Name "SeedError" p1) "__init__" p2) [.Name "self" p3, .Constant (.str m) j p4] [] p5) p6, .Assign [.Attribute (.Name "self" p7) f p8] (.Name f p9) p10, .Assign [.Attribute (.Name "self" q7) g q8] (.Name g q9) q10]
def spIni2 (C : Addr) (f g : Str) : Sp := fun vs H Q _ => ∃ (a : Addr) (v u : V), vs = [.ref a, v, u] ∧ H a = some (exo a C none) ∧ ∀ d, H d = none → d ≠ a → Q .non (upd (upd H d (exd d [(g, u), (f, v)])) a (exo a C (some d)))
section
variable {P : Program} {w : World} {K : Fg} {mg : Str → Option Value} {base : Heap} {C Cs fI : Addr} {f g m qual : Str} {params : Arguments} {body : List Stmt} {scope : Scope} {fd : FuncData} {p1 p2 p3 p4 p5 p6 p7 p8 p9 p10 q7 q8 q9 q10 : Pos} {j : Nat}
theorem ok_ini0 (F : FunD K "__init__" qual params body scope [] [] fI fd) (S : FnScope ["self"] ["self"] scope) (hb : body = ini0 m p1 p2 p3 p4 p5 p6 j)
    (l1 : scope.names.lookup ("self" : Str) = some .local) (l3 : scope.names.lookup ("SeedError" : Str) = some .globalImplicit) (hl : (p2.endLine == p5.line) = true)
    (T : ExC K C) (I0 : IniC K Cs) (gS : mg "SeedError" = some (.ref Cs)) : FnOk P w K mg base (L2.CX P w) 2 fI fd ["self"] (spIni0 C) := by
  subst hb
  refine F.ok S (fun vs H Q E h => ?_) (fun cdv A outer s H vs Q E hr h => ?_)
  · obtain ⟨a, rfl, _⟩ := h
    rfl
  · obtain ⟨a, rfl, ha, k⟩ := h
    refine ⟨_, pss_one (ps_expr (pe_sinit I0 l3 gS (pa_cons (pv 0 (hv := .inl l1)) (pa_cons pe_str pa_nil)) (hl := hl))), ?_⟩
    simp only [rst, rs, re, ra, ro, List.getElem?_cons_zero, List.getElem?_cons_succ, Option.some.injEq, exists_eq_left', exists_eq_left, exists_and_left, exists_eq, exists_eq', List.cons.injEq, V.ref.injEq]
    exact ⟨a, C, [.str m], ⟨rfl, rfl⟩, (by show 1 ≤ 1000; decide), T.ox, ha, k⟩
theorem ok_ini2 (F : FunD K "__init__" qual params body scope [] [] fI fd) (S : FnScope ["self", f, g] ["self", f, g] scope) (hb : body = ini2 m f g p1 p2 p3 p4 p5 p6 p7 p8 p9 p10 q7 q8 q9 q10 j)
    (l1 : scope.names.lookup ("self" : Str) = some .local) (l2 : scope.names.lookup f = some .local) (l4 : scope.names.lookup g = some .local) (l3 : scope.names.lookup ("SeedError" : Str) = some .globalImplicit) (hdb : (f == ("__debug__" : Str)) = false) (hcd : (f == ("__classdict__" : Str)) = false)
    (hdb2 : (g == ("__debug__" : Str)) = false) (hcd2 : (g == ("__classdict__" : Str)) = false) (hl : (p2.endLine == p5.line) = true)
    (T : ExC K C) (I0 : IniC K Cs) (gS : mg "SeedError" = some (.ref Cs)) (hno : PySem.W.findIn K (.ref C) f = some none) (hno2 : PySem.W.findIn K (.ref C) g = some none) : FnOk P w K mg base (L2.CX P w) 2 fI fd ["self", f, g] (spIni2 C f g) := by
  subst hb
  refine F.ok S (fun vs H Q E h => ?_) (fun cdv A outer s H vs Q E hr h => ?_)
  · obtain ⟨a, v, u, rfl, _⟩ := h
    rfl
  · obtain ⟨a, v, u, rfl, ha, k⟩ := h
    refine ⟨_, pss_cons (ps_expr (pe_sinit I0 l3 gS (pa_cons (pv 0 (hv := .inl l1)) (pa_cons pe_str pa_nil)) (hl := hl))) (pss_cons (ps_ost (pv 0 (hv := .inl l1)) (pv 1 (hv := .inl l2) (hd := hdb) (hcd := hcd))) (pss_one (ps_ost (pv 0 (hv := .inl l1)) (pv 2 (hv := .inl l4) (hd := hdb2) (hcd := hcd2))))), ?_⟩
    simp only [rst, rs, re, ra, ro, List.getElem?_cons_zero, List.getElem?_cons_succ, Option.some.injEq, exists_eq_left', exists_eq_left, exists_and_left, exists_eq, exists_eq', List.cons.injEq, V.ref.injEq]
    refine ⟨a, C, [.str m], ⟨rfl, rfl⟩, (by show 1 ≤ 1000; decide), T.ox, ha, C, T.ox, hno, .inl ⟨ha, fun d hd hn => ⟨C, T.ox, hno2, .inr ⟨d, upd_same, [(f, v)], by rw [upd_ne hn, upd_same], (by show 1 ≤ 900; decide), ?_⟩⟩⟩⟩
    have e2 : upd (upd (upd H d (exd d [(f, v)])) a (exo a C (some d))) d (exd d [(g, u), (f, v)]) = upd (upd H d (exd d [(g, u), (f, v)])) a (exo a C (some d)) := by
      funext c
      by_cases h1 : c = d
      · rw [h1, upd_same, upd_ne hn, upd_same]
      · rw [upd_ne h1]
        by_cases h2 : c = a
        · rw [h2, upd_same, upd_same]
        · rw [upd_ne h2, upd_ne h2, upd_ne h1, upd_ne h1]
    rw [e2]
    exact k d hd hn
end
theorem rv : (∀ C f ta σ H Q, tMk1V C f ta σ H Q = ta σ H fun vs H1 => ∃ v, vs = [v] ∧ ∀ a d, H1 a = none → H1 d = none → d ≠ a → Q (.ref a) (upd (upd H1 d (exd d [(f, v)])) a (exo a C (some d)))) ∧
    (∀ C sp ta σ H Q, tMkV C sp ta σ H Q = ta σ H fun vs H1 => vs.length ≤ 1000 ∧ ∀ a, H1 a = none → sp (.ref a :: vs) (upd H1 a (exo a C none)) (fun v H2 => v = .non ∧ Q (.ref a) H2) (fun _ _ _ => False)) ∧
    (∀ K te f σ H Q, tXfV K te f σ H Q = te σ H fun x H1 => ∃ (a D dx : Addr) (fs : List (Str × V)) (v : V), x = .ref a ∧ ExC K D ∧ PySem.W.findIn K (.ref D) f = some none ∧ H1 a = some (exo a D (some dx)) ∧ H1 dx = some (exd dx fs) ∧ fs.lookup f = some v ∧ Q v H1) := ⟨fun _ _ _ _ _ _ => rfl, fun _ _ _ _ _ _ => rfl, fun _ _ _ _ _ _ => rfl⟩
/-! ### kinds of plain values, in every heap -/
theorem kb (b : Bool) (H : Hp) : isB H (.bl b) "bool" = some true ∧ isB H (.bl b) "int" = some true ∧ isB H (.bl b) "str" = some false ∧ isB H (.bl b) "list" = some false ∧ isB H (.bl b) "tuple" = some false ∧ isB H (.bl b) "dict" = some false := by
  have e : tyN H (.bl b) = some "bool" := rfl
  simp only [isB, e, Option.bind_some, kitB_all, and_self]
theorem ki (i : Int) (H : Hp) : isB H (.int i) "bool" = some false ∧ isB H (.int i) "int" = some true ∧ isB H (.int i) "str" = some false ∧ isB H (.int i) "list" = some false ∧ isB H (.int i) "tuple" = some false ∧ isB H (.int i) "dict" = some false := by
  have e : tyN H (.int i) = some "int" := rfl
  simp only [isB, e, Option.bind_some, kitB_all, and_self]
theorem ks (z : Str) (H : Hp) : isB H (.str z) "bool" = some false ∧ isB H (.str z) "int" = some false ∧ isB H (.str z) "str" = some true ∧ isB H (.str z) "list" = some false ∧ isB H (.str z) "tuple" = some false ∧ isB H (.str z) "dict" = some false := by
  have e : tyN H (.str z) = some "str" := rfl
  simp only [isB, e, Option.bind_some, kitB_all, and_self]
theorem kn (H : Hp) : isB H .non "bool" = some false ∧ isB H .non "int" = some false ∧ isB H .non "str" = some false ∧ isB H .non "list" = some false ∧ isB H .non "tuple" = some false ∧ isB H .non "dict" = some false := by
  have e : tyN H .non = some "NoneType" := rfl
  simp only [isB, e, Option.bind_some, kitB_all, and_self]
theorem kindB {H : Hp} {p : Addr} {o : HO} {xs : List V} (h : H p = some o) (e : seqO o = some xs) : isB H (.ref p) "bool" = some false ∧ isB H (.ref p) "int" = some false ∧ isB H (.ref p) "str" = some false ∧ isB H (.ref p) "dict" = some false ∧
    isB H (.ref p) "list" = some (!isT o) ∧ isB H (.ref p) "tuple" = some (isT o) := by
  have t : tyN H (.ref p) = some (if isT o = true then "tuple" else "list") := by
    rw [tyN, h, Option.bind_some]
    unfold seqO at e
    split at e <;> first | rfl | cases e
  cases z : isT o with
  | true =>
    rw [z, if_pos rfl] at t
    simp only [isB, t, Option.bind_some, kitB_all, and_self, Bool.not_true]
  | false =>
    rw [z, if_neg (by decide)] at t
    simp only [isB, t, Option.bind_some, kitB_all, and_self, Bool.not_false]
theorem kindD {H : Hp} {p : Addr} {ks : List (Key × V)} (h : H p = some (.dK ks)) : isB H (.ref p) "bool" = some false ∧ isB H (.ref p) "int" = some false ∧ isB H (.ref p) "str" = some false ∧ isB H (.ref p) "dict" = some true ∧
    isB H (.ref p) "list" = some false ∧ isB H (.ref p) "tuple" = some false := by
  have t : tyN H (.ref p) = some "dict" := by rw [tyN, h] <;> rfl
  simp only [isB, t, Option.bind_some, kitB_all, and_self]
/-- one sign of a text -/
theorem cutS_one {z : Str} {i : Nat} {c : Nat} (h : z.cps.toList[i]? = some c) : cutS z (some (i : Int)) (some ((i : Int) + 1)) = ⟨#[c]⟩ := by
  obtain ⟨h1, h2⟩ := List.getElem?_eq_some_iff.mp h
  have hl : z.length = z.cps.toList.length := by rw [Array.length_toList] <;> rfl
  have e1 : ((i : Int) + 1) = ((i + 1 : Nat) : Int) := by omega
  unfold cutS
  rw [e1, HT.sIx_nat, HT.sIx_nat, hl, Nat.min_eq_left (by omega), Nat.min_eq_left (by omega), List.drop_eq_getElem_cons h1, h2, show i + 1 - i = 1 by omega]
  rfl
/-! ### for k in a dict, locked -/
theorem LC.keys {d : Addr} {o : Obj} {kvs : List (Key × V)} {g : TG} {tt : TT} {te : TE} {vs : List Nat} {σ : L2.St} {H1 : Hp} {Q : VK} (Pv : Addr → Nat → Hp → Prop) (h0 : ∀ D, H1 D = none → Pv D 0 (upd H1 D (.lst [])))
    (hl : ∀ D i H, H1 D = none → Pv D i H → H d = some (.frz o (.dK kvs)))
    (hs : ∀ D i k v H, H1 D = none → kvs[i]? = some (k, v) → Pv D i H → g (kV k) (wipe σ vs) H fun σ2 H2 => wipe σ2 vs = wipe σ vs ∧ tt σ2 H2 fun b H3 => Be b (fun H3 => te σ2 H3 fun y H4 => ∃ acc, H4 D = some (.lst acc) ∧ acc.length < sizeLine ∧ Pv D (i + 1) (upd H4 D (.lst (acc ++ [y])))) (Pv D (i + 1)) H3)
    (hd : ∀ D H, H1 D = none → Pv D kvs.length H → Q (.ref D) H) : LC (Itk d o kvs) g tt te vs σ Q H1 := fun D nD => by
  refine ⟨fun i m H => m + i = kvs.length ∧ Pv D i H, ⟨kvs.length, rfl, h0 D nD⟩, fun i m H ⟨e, p⟩ => ?_⟩
  by_cases c : i < kvs.length
  · refine .inr ⟨⟨hl D i H nD p, c⟩, Pv D (i + 1), fun H' p' => ⟨m - 1, by omega, by omega, p'⟩, fun x H' ⟨e1, k, v, e2, e3⟩ => ?_⟩
    subst e1 e3
    exact hs D i k v H' nD e2 p
  · have e2 : i = kvs.length := by omega
    exact .inl ⟨⟨hl D i H nD p, by omega⟩, hd D H nD (e2 ▸ p)⟩
theorem rk : (∀ td σ H R, iKeys td σ H R = td σ H fun x H1 => ∃ d o, x = .ref d ∧ ((∃ kvs, H1 d = some (.frz o (.dK kvs)) ∧ R (Itk d o kvs) H1) ∨ ∃ kvs, H1 d = some (.frz o (.dT kvs)) ∧ R (Itkt d o kvs) H1)) ∧
    (∀ t σ H Q, tLockE t σ H Q = ∃ d u, H d = some u ∧ L2.Mut (some u) ∧ ∀ od, t σ (upd H d (.frz od u)) fun v H' => H' d = some (.frz od u) ∧ Q v (upd H' d u)) ∧
    (∀ td ty σ H Q, tDGet td ty σ H Q = td σ H fun x H1 => ty σ H1 fun y H2 => ∃ a v, x = .ref a ∧ DGet H2 a y (some v) ∧ Q v H2) ∧
    (∀ ty td σ H Q, tDNotIn ty td σ H Q = ty σ H fun y H1 => td σ H1 fun x H2 => ∃ a o, x = .ref a ∧ DGet H2 a y o ∧ Q (.bl (!o.isSome)) H2) ∧
    (∀ ty td σ H Q, tDIn ty td σ H Q = ty σ H fun y H1 => td σ H1 fun x H2 => ∃ a o, x = .ref a ∧ DGet H2 a y o ∧ Q (.bl o.isSome) H2) := ⟨fun _ _ _ _ => rfl, fun _ _ _ _ => rfl, fun _ _ _ _ _ => rfl, fun _ _ _ _ _ => rfl, fun _ _ _ _ _ => rfl⟩
theorem rdd : (∀ trs σ H Q, tDisp trs σ H Q = ∀ p, H p = none → tPairs trs σ (upd H p (.dK [])) fun ps H2 => H2 p = some (.dK []) ∧ ∃ kvs : List (Key × V), ps = kvs.map (fun kv => (kV kv.1, kv.2)) ∧ kvs.length ≤ 15 ∧ Q (.ref p) (upd H2 p (.dK (mergeK [] kvs)))) ∧
    (∀ σ H Q, tPairs [] σ H Q = Q [] H) ∧ (∀ tk tv r σ H Q, tPairs ((tk, tv) :: r) σ H Q = tk σ H fun x H1 => tv σ H1 fun y H2 => tPairs r σ H2 fun ps H3 => Q ((x, y) :: ps) H3) := ⟨fun _ _ _ _ => rfl, fun _ _ _ => rfl, fun _ _ _ _ _ _ => rfl⟩
end Sw

/-! Several clauses 'except C as e', e the same slot in each. -/
namespace Sw
open PySem PySem.Spec PyProof.Rows L2
/-- what the named clauses wish, in their order -/
def wAses (K : Fg) (i : Nat) (Wz : WX) (D : Ends) : List (Value × Bool × (Addr → Value → Option Addr → TS)) → WX
  | [] => Wz
  | (cl, false, t) :: r => fun cls d σ H => ∃ yes, PySem.W.exmOne K cls cl = some yes ∧ (yes = true → ∀ z, H z = none → t z cls d D σ H) ∧ (yes = false → wAses K i Wz D r cls d σ H)
  | (cl, true, t) :: r => fun cls d σ H => ∃ yes, PySem.W.exmOne K cls cl = some yes ∧ (yes = true → ∀ z, H z = none → t z cls d { nx := fun τ G => D.nx (τ.set i none) G, rt := D.rt, bk := fun τ G => D.bk (τ.set i none) G, ct := fun τ G => D.ct (τ.set i none) G } (σ.set i (some (.ref z))) H) ∧ (yes = false → wAses K i Wz D r cls d σ H)
inductive Clauses (X : Cx) (n : Str) : List ExceptHandler → List (Value × Bool × (Addr → Value → Option Addr → TS)) → Prop
  | nil : Clauses X n [] []
  | cons {x : Str} {cl : Value} {t : Addr → Value → Option Addr → TS} {b : Stmt} {bs : List Stmt} {p1 p2 : Pos} {hs : List ExceptHandler} {l : List (Value × Bool × (Addr → Value → Option Addr → TS))} : Names X x cl →
      (∀ (z : Addr) (ob : Obj) (cls : Value) (d : Option Addr) (pn : List (Addr × Obj)), Zc cls d ob → (∃ vs, ob.data = .fields vs) → PSs (X.suite z ((z, ob) :: pn)) (b :: bs) (t z cls d)) → Clauses X n hs l →
      Clauses X n (.ExceptHandler (some (.Name x p1)) (some n) (b :: bs) p2 :: hs) ((cl, true, t) :: l)
  | bare {x : Str} {cl : Value} {t : Addr → Value → Option Addr → TS} {b : Stmt} {bs : List Stmt} {p1 p2 : Pos} {hs : List ExceptHandler} {l : List (Value × Bool × (Addr → Value → Option Addr → TS))} : Names X x cl →
      (∀ (z : Addr) (ob : Obj) (cls : Value) (d : Option Addr) (pn : List (Addr × Obj)), Zc cls d ob → (∃ vs, ob.data = .fields vs) → PSs (X.suite z ((z, ob) :: pn)) (b :: bs) (t z cls d)) → Clauses X n hs l →
      Clauses X n (.ExceptHandler (some (.Name x p1)) none (b :: bs) p2 :: hs) ((cl, false, t) :: l)
section
variable {X : Cx} {n : Str} {i : Nat} {bd : List Stmt} {h1 : ExceptHandler} {hs : List ExceptHandler} {l : List (Value × Bool × (Addr → Value → Option Addr → TS))} {pos : Pos} {tb : WX → TS} {Wz : WX}
theorem ps_try_ases (st : X.stack = X.env :: X.outer) (fr : X.env.frame = some X.env.locals) (nd : X.N.Nodup) (at_ : X.N[i]? = some n) (lo : X.env.kindOf n = some .local) (tk : Takes X Wz)
    (hbd : ∀ (W : WX) (pn : List (Addr × Obj)) (xe : Value → Shared → Prop), Takes (X.tr pn xe) W → PassesOwn (model X.prog X.w) X.A X.env xe → PSs (X.tr pn xe) bd (tb W)) (cs : Clauses X n (h1 :: hs) l) :
    PS X (.Try bd (h1 :: hs) [] [] pos) (fun D σ H => tb (wAses X.K i Wz D l) D σ H) := by
  refine ⟨fun pins s σ H D I0 hyp => ?_⟩
  have okk := I0.ok
  have ffr : X.A.frames = some (X.env :: X.outer) := by rw [okk.frames, st]
  refine wpAny_Try_except (wpAny_mono ((hbd (wAses X.K i Wz D l) (X.pn ++ pins) (fun ev s1 => wpAny (model X.prog X.w) X.A (noteFrame ev X.env) (fun _ s2 => wpAny (model X.prog X.w) X.A (setFlight ev none) (fun _ s3 =>
    wpAny (model X.prog X.w) X.A (handleBy ev X.env (h1 :: hs)) (SP X pins D) X.xe s3) X.xe s2) X.xe s1) (fun ev s1 cought => ?_) PassesOwn.looking).run [] s σ H D (I0.toTry _) hyp) (fun fl s1 endd => ?_) (fun _ _ out => out))
  · obtain ⟨z, B, sI, pins2, τ, G, cls, d, rfl, JJ, nb, up, sky, nz, hos, hag, wish⟩ := cought
    have J := JJ.ofTry (X := X) (pins := pins) okk
    have skyy : Sky B (X.env :: X.outer) z (Zc cls d) X.env.locals s1.heap := by rw [← st]; exact sky
    show wpAny (model X.prog X.w) X.A (noteFrame (.ref z) X.env) _ _ _
    refine Sky.land Zc.steady ffr fr skyy fun g3 fly3 up3 => ?_
    have K3 : Inv X pins τ G { s1 with heap := g3 } := J.landed nb fly3.1 (up.trans up3) hos hag
    obtain ⟨o3, f3, e3, z3, d3⟩ := fly3.there
    have apart : z ∉ frs (X.env :: X.outer) := fun hm => by
      obtain ⟨_, o', e', no⟩ := fly3.2.2.1.mem hm
      rw [e3] at e'
      cases e'
      exact no _ d3
    have zl : z ≠ X.env.locals := fun q => apart (List.mem_filterMap.mpr ⟨X.env, List.mem_cons_self, by rw [fr, q]⟩)
    have zf : z ∉ X.fs := fun hm => by
      obtain ⟨v, hv, q⟩ := List.mem_filterMap.mp hm
      exact apart (List.mem_filterMap.mpr ⟨v, List.mem_cons_of_mem _ hv, q⟩)
    have S3 := K3.suite e3 d3 nz zl zf
    have walk : ∀ {hs' : List ExceptHandler} {l' : List (Value × Bool × (Addr → Value → Option Addr → TS))}, Clauses X n hs' l' → wAses X.K i Wz D l' cls d τ G → wpAny (model X.prog X.w) X.A (handleBy (.ref z) X.env hs') (SP X pins D) X.xe { s1 with heap := g3 } := by
      intro hs' l' hc
      induction hc with
      | nil =>
        intro wish
        refine wpAny_handleBy_nil ?_
        obtain ⟨_, _, _, o, vs, T, oT, _, ho, _, hd, hv, _⟩ := id fly3
        unfold PySem.passOn
        refine wpAny_bind (wpAny_field ho hd hv ?_)
        rw [if_neg (show ¬ ((Value.ref T == Value.none) = true) from by simp)]
        have last : wpAny (model X.prog X.w) X.A (setFlight (.ref z) X.env.frame) (fun _ s4 => wpAny (model X.prog X.w) X.A (throw (.ref z) : Sem Flow) (SP X pins D) X.xe s4) X.xe { s1 with heap := g3 } := by
          rw [fr]
          exact HandSPX.setFlight_upZ fly3 fun g4 hh4 up4 => wpAny_throw (tk _ _ ⟨z, B, sI, pins, τ, G, cls, d, rfl, J, nb, (up.trans up3).trans up4, .inr (.inr (by rw [st]; exact hh4)), nz, hos, hag, wish⟩)
        first
          | exact wpAny_bind (wpAny_pure (wpAny_bind last))
          | exact wpAny_bind last
      | @cons x cl t b bs p1 p2 hs2 l2 nm suite rest ih =>
        intro wish
        obtain ⟨yes, ask, onYes, onNo⟩ := wish
        refine wpAny_handleBy_cons (codeAny_handlers_test ?_) (by intro q; cases q)
        have kind : PySem.W.Looks (model X.prog X.w) g3 (typeOf (.ref z)) cls := fun A Q E s5 k q => wpAny_typeOf_ref (k _ _ e3) (by rw [z3.1]; exact q)
        have met := PySem.W.exm_one (M := model X.prog X.w) K3.kIn kind ask
        have tst : ∀ {Q E : Value → Shared → Prop}, Q cl { s1 with heap := g3 } → wpAny (model X.prog X.w) (X.A.mark (some (.ref z))) (eval (.Name x p1) X.env) Q E { s1 with heap := g3 } := fun {Q E} q => by
          obtain ⟨hg, hdb, hm | ⟨hm, hv, hn⟩⟩ := nm
          · exact ld_glob (X := X.suite z ((z, o3) :: (X.pn ++ pins))) S3 hg hm q hdb
          · exact ld_blt (X := X.suite z ((z, o3) :: (X.pn ++ pins))) S3 hg hm hv q hn hdb
        refine tst (met.here ?_)
        cases yes with
        | false => exact ih (onNo rfl)
        | true =>
          refine codeAny_handlers_suite_as (HandSPX.lands_againZ fly3 fun g4 fly4 up4 => ?_)
          have K4 : Inv X pins τ G { s1 with heap := g4 } := J.landed nb fly4.1 ((up.trans up3).trans up4) hos hag
          obtain ⟨o4, f4, e4, z4, d4⟩ := fly4.there
          have S4 := K4.suite e4 d4 nz zl zf
          refine store_ok (X := X.suite z ((z, o4) :: (X.pn ++ pins))) (v := .ref z) S4 nd at_ (.inl lo) rfl (fun s5 S5 => ?_) (.inr lo)
          refine wpAny_mono ((suite z o4 cls d (X.pn ++ pins) z4 ⟨_, d4⟩).run [] s5 _ G _ S5 (onYes rfl z nz)) (fun fl s6 endd => ?_) (fun _ _ q => q.elim)
          have gone : ∀ {τ6 : L2.St} {G6 : Hp} {Q : Shared → Prop}, Inv (X.suite z ((z, o4) :: (X.pn ++ pins))) [] τ6 G6 s6 → (∀ s7, Inv X pins (τ6.set i none) G6 s7 → Q s7) →
              wpAny (model X.prog X.w) X.A (do bindName X.env n .none; unbindBehindTheSuite X.env n p2) (fun _ s7 => Q s7) X.xe s6 := fun {τ6 G6 Q} S6 hq => gone_ok (S6.unsuite okk) nd at_ lo hq
          cases fl with
          | ret u =>
            obtain ⟨v6, τ6, G6, S6, r6, q6⟩ := endd
            exact gone S6 fun s7 J7 => ⟨_, _, _, J7, r6, q6⟩
          | next =>
            obtain ⟨τ6, G6, S6, q6⟩ := endd
            exact gone S6 fun s7 J7 => ⟨_, _, J7, q6⟩
          | brk =>
            obtain ⟨τ6, G6, S6, q6⟩ := endd
            exact gone S6 fun s7 J7 => ⟨_, _, J7, q6⟩
          | cont =>
            obtain ⟨τ6, G6, S6, q6⟩ := endd
            exact gone S6 fun s7 J7 => ⟨_, _, J7, q6⟩
      | @bare x cl t b bs p1 p2 hs2 l2 nm suite rest ih =>
        intro wish
        obtain ⟨yes, ask, onYes, onNo⟩ := wish
        refine wpAny_handleBy_cons (codeAny_handlers_test ?_) (by intro q; cases q)
        have kind : PySem.W.Looks (model X.prog X.w) g3 (typeOf (.ref z)) cls := fun A Q E s5 k q => wpAny_typeOf_ref (k _ _ e3) (by rw [z3.1]; exact q)
        have met := PySem.W.exm_one (M := model X.prog X.w) K3.kIn kind ask
        have tst : ∀ {Q E : Value → Shared → Prop}, Q cl { s1 with heap := g3 } → wpAny (model X.prog X.w) (X.A.mark (some (.ref z))) (eval (.Name x p1) X.env) Q E { s1 with heap := g3 } := fun {Q E} q => by
          obtain ⟨hg, hdb, hm | ⟨hm, hv, hn⟩⟩ := nm
          · exact ld_glob (X := X.suite z ((z, o3) :: (X.pn ++ pins))) S3 hg hm q hdb
          · exact ld_blt (X := X.suite z ((z, o3) :: (X.pn ++ pins))) S3 hg hm hv q hn hdb
        refine tst (met.here ?_)
        cases yes with
        | false => exact ih (onNo rfl)
        | true =>
          refine codeAny_handlers_suite (HandSPX.lands_againZ fly3 fun g4 fly4 up4 => ?_)
          have K4 : Inv X pins τ G { s1 with heap := g4 } := J.landed nb fly4.1 ((up.trans up3).trans up4) hos hag
          obtain ⟨o4, f4, e4, z4, d4⟩ := fly4.there
          refine wpAny_mono ((suite z o4 cls d (X.pn ++ pins) z4 ⟨_, d4⟩).run [] _ _ G _ (K4.suite e4 d4 nz zl zf) (onYes rfl z nz)) (fun fl s6 endd => ?_) (fun _ _ q => q.elim)
          cases fl with
          | ret u =>
            obtain ⟨v6, τ6, G6, S6, r6, q6⟩ := endd
            exact ⟨_, _, _, S6.unsuite okk, r6, q6⟩
          | next =>
            obtain ⟨τ6, G6, S6, q6⟩ := endd
            exact ⟨_, _, S6.unsuite okk, q6⟩
          | brk =>
            obtain ⟨τ6, G6, S6, q6⟩ := endd
            exact ⟨_, _, S6.unsuite okk, q6⟩
          | cont =>
            obtain ⟨τ6, G6, S6, q6⟩ := endd
            exact ⟨_, _, S6.unsuite okk, q6⟩
    exact walk cs wish
  · cases fl with
    | ret u =>
      obtain ⟨v, τ, G, JJ, r, q⟩ := endd
      exact ⟨v, τ, G, JJ.ofTry okk, r, q⟩
    | next =>
      obtain ⟨τ, G, JJ, q⟩ := endd
      exact wpAny_execs_nil ⟨τ, G, JJ.ofTry okk, q⟩
    | brk =>
      obtain ⟨τ, G, JJ, q⟩ := endd
      exact ⟨τ, G, JJ.ofTry okk, q⟩
    | cont =>
      obtain ⟨τ, G, JJ, q⟩ := endd
      exact ⟨τ, G, JJ.ofTry okk, q⟩
end
/-! ### isinstance(x, (A, B)), two built-in classes -/
def rIs2 : List V → Hp → VK → Prop := fun vs H Q => ∃ (x : V) (t : Addr) (A B : String) (a b : Bool), vs = [x, .ref t] ∧ H t = some (.tup [.ty A, .ty B]) ∧ isB H x A = some a ∧ isB H x B = some b ∧ Q (.bl (a || b)) H
theorem is_2 {X : Cx} : CallR X (.builtin "isinstance") rIs2 := fun pins s σ H xs us Q I r h => by
  obtain ⟨x, t, A, B, a, b, rfl, ht, ea, eb, q⟩ := h
  obtain ⟨n, e1, e2⟩ := Option.bind_eq_some_iff.mp ea
  obtain ⟨n', e3, e4⟩ := Option.bind_eq_some_iff.mp eb
  rw [e1] at e3
  cases e3
  refine call_isiT pins s σ H _ us Q I r ⟨x, t, [.ty A, .ty B], .type n, [.type A, .type B], a || b, rfl, ht, .cons (.ty A) (.cons (.ty B) .nil), tyN_ok e1, ?_, q⟩
  have k1 : PySem.W.kitOne X.K (.type n) (.type A) = some a := kit_ty e2
  have k2 : PySem.W.kitOne X.K (.type n) (.type B) = some b := kit_ty e4
  show (match PySem.W.kitOne X.K (.type n) (.type A) with
    | some true => some true
    | some false => PySem.W.kitAny X.K (.type n) [.type B]
    | none => none) = _
  rw [k1]
  cases a with
  | true => rfl
  | false =>
    show (match PySem.W.kitOne X.K (.type n) (.type B) with
      | some true => some true
      | some false => PySem.W.kitAny X.K (.type n) []
      | none => none) = _
    rw [k2]
    cases b <;> rfl
/-- d[k] = v in a dict; pop of a key -/
theorem rpd : (∀ td ty tv D σ H, sDPut td ty tv D σ H = tv σ H fun v H1 => td σ H1 fun x H2 => ty σ H2 fun y H3 => ∃ a H4, x = .ref a ∧ DPut H3 a y v H4 ∧ D.nx σ H4) := fun _ _ _ _ _ _ => rfl
/-- x != x, the same reference -/
def rNeS : R2 := fun x y H Q => (∃ a, x = .ref a ∧ y = .ref a) ∧ Q (.bl false) H
/-! ### small facts -/
theorem isB_same {H H' : Hp} (s : Same H H') {x : V} {T : String} {b : Bool} (h : isB H x T = some b) : isB H' x T = some b := by
  obtain ⟨n, e1, e2⟩ := Option.bind_eq_some_iff.mp h
  exact Option.bind_eq_some_iff.mpr ⟨n, tyN_same s e1, e2⟩
/-- a rest by a number below 2 ^ 64, times anything -/
theorem mod_mul (i j : Int) {m : Int} (h0 : 0 < m) (h1 : m < 2 ^ 64) : Sw.MulOk i (j % m) :=
  .inl (.inr ⟨Int.lt_of_lt_of_le (by decide) (Int.emod_nonneg j (by omega)), Int.lt_trans (Int.emod_lt_of_pos j h0) h1⟩)
theorem ixN_nat {n j : Nat} (h : j < n) : ixN n (j : Int) = some j := by
  unfold ixN
  rw [if_pos (by omega), if_pos (by omega)]
  rfl
theorem take_snoc {α : Type} : ∀ {l : List α} {i : Nat} {x : α}, l[i]? = some x → l.take (i + 1) = l.take i ++ [x]
  | [], i, x, h => by simp at h
  | a :: l, 0, x, h => by
    have e : a = x := by simpa using h
    rw [e]
    rfl
  | a :: l, i + 1, x, h => by
    show a :: l.take (i + 1) = a :: l.take i ++ [x]
    rw [take_snoc (l := l) (i := i) (by simpa using h)]
    rfl
theorem drop_at {α : Type} {l : List α} {i : Nat} {x : α} (h : l[i]? = some x) : l.drop i = x :: l.drop (i + 1) := by
  obtain ⟨h1, h2⟩ := List.getElem?_eq_some_iff.mp h
  rw [← h2]
  exact List.drop_eq_getElem_cons h1
theorem map_at {ns : List Int} {i : Nat} {x : V} (h : (ns.map V.int)[i]? = some x) : ∃ n, ns[i]? = some n ∧ x = .int n := by
  rw [List.getElem?_map] at h
  obtain ⟨n, e, rfl⟩ := Option.map_eq_some_iff.mp h
  exact ⟨n, e, rfl⟩
theorem small_mul {i j : Int} (h1 : -(2 ^ 64) < j) (h2 : j < 2 ^ 64) : Sw.MulOk i j := .inl (.inr ⟨h1, h2⟩)
theorem small_mul' {i j : Int} (h1 : -(2 ^ 64) < i) (h2 : i < 2 ^ 64) : Sw.MulOk i j := .inl (.inl ⟨h1, h2⟩)
end Sw

/-! A thing beside itself, of any kind; isinstance of a caught error by several classes; dicts. -/
namespace Sw
open PySem PySem.Spec PyProof.Rows L2
def rEqA (K : Fg) : R2 := fun x y H Q => rEqD K x y H Q ∨ rEqDA x y H Q
def rNeA (K : Fg) : R2 := fun x y H Q => rNeD K x y H Q ∨ rNeDA x y H Q
theorem op_eqA {X : Cx} (hu : X.A.units + 64 < cLine) : OpR X (compareOp .Eq) (rEqA X.K) := OpR.or (op_eqD hu) (op_eq_dictA (by omega))
theorem op_neA {X : Cx} (hu : X.A.units + 64 < cLine) : OpR X (compareOp .NotEq) (rNeA X.K) := OpR.or (op_neD hu) (op_ne_dictA (by omega))
/-- isinstance(e, (C1, C2, ..)), e the caught one -/
def rIsDT (K : Fg) (D a : Addr) (cls : Value) (d : Option Addr) : List V → Hp → VK → Prop := fun xs H Q => ∃ (tp : Addr) (cs : List V) (us : List Value) (dd : Addr) (fs : List (Str × V)) (b : Bool), xs = [.ref a, .ref tp] ∧ H tp = some (.tup cs) ∧ Paired ClsV cs us ∧ cls = .ref D ∧ d = some dd ∧ H dd = some (.xd fs) ∧ PySem.W.kitAny K (.ref D) us = some b ∧ Q (.bl b) H
theorem call_isDT {X : Cx} {a D : Addr} {cls : Value} {d : Option Addr} {oe : Obj} {pn : List (Addr × Obj)} (C : ExC X.K D) (hz : Zc cls d oe) (hf : ∃ vs, oe.data = .fields vs) : CallR (X.suite a ((a, oe) :: pn)) (.builtin "isinstance") (rIsDT X.K D a cls d) := by
  intro pins s σ H xs us Q I r h
  obtain ⟨tp, cs, ws, dd, fs, b, rfl, hT, k, rfl, rfl, hd, e, q⟩ := h
  cases r with
  | cons r1 r2 =>
    cases r2 with
    | cons r3 r4 =>
      cases r4
      cases r1
      rename_i u2
      cases (show u2 = Value.ref tp from r3)
      obtain ⟨hget, _⟩ := I.pin (a, oe) (List.mem_append.mpr (.inl List.mem_cons_self))
      obtain ⟨vs, hv⟩ := hf
      obtain ⟨mA, hns, _⟩ := (show ObjOk X.prog X.w H s.heap dd (.xd fs) from I.hok dd _ hd)
      obtain ⟨od, ho, _⟩ := lookIn_ns hns
      have J : PySem.W.InstAt s.heap a oe D (some od) := ⟨hget, hz.1, by unfold PySem.W.notCls; rw [hv] <;> rfl, by rw [hz.2]; exact ho⟩
      obtain ⟨_, its, rv, o, h1, h2, n, h3⟩ := (show ObjOk X.prog X.w H s.heap tp (.tup cs) from I.hok tp _ hT)
      have e3 := ClsV.all k rv
      subst e3
      obtain ⟨oc, od2, dt, sl⟩ := o
      simp only at h2 h3
      subst h2 h3
      exact PySem.W.kia_tup (PySem.W.sw_kitE C.xf.ga C.xf.gg C.xf.exC C.xf.hdC C.cc C.gs C.tk C.mo) I.kIn J h1 e (fun z => nomatch z) fun tk => ⟨.bl b, H, I.kept (t' := tk) fun _ _ z => z, rfl, q⟩
theorem isDT_ref {K : Fg} {D a tp d : Addr} {H : Hp} {fs : List (Str × V)} {Cs : List Addr} {b : Bool} {Q : VK} (hd : H d = some (.xd fs)) (ht : H tp = some (.tup (Cs.map V.ref))) (e : PySem.W.kitAny K (.ref D) (Cs.map Value.ref) = some b) (q : Q (.bl b) H) :
    rIsDT K D a (.ref D) (some d) [.ref a, .ref tp] H Q := ⟨tp, _, _, d, fs, b, rfl, ht, (by clear ht e; induction Cs with | nil => exact .nil | cons c r ih => exact .cons (.own c) ih), rfl, rfl, hd, e, q⟩
theorem rdp : (∀ td ty σ H Q, tDPop1 td ty σ H Q = td σ H fun x H1 => ∃ a, x = .ref a ∧ IsD H1 a ∧ ty σ H1 fun y H2 => ∃ kvs k v, H2 a = some (.dK kvs) ∧ y = kV k ∧ valV kvs k = some v ∧ Q v (upd H2 a (.dK (dropK kvs k)))) := fun _ _ _ _ _ => rfl
theorem rlu : (∀ K ta σ H R, iEnum K ta σ H R = ta σ H fun vs H1 => ∃ a xs, vs = [.ref a] ∧ SqL K H1 a xs ∧ R (Ite K a) H1) ∧ (∀ te σ H Q, tLstRg te σ H Q = te σ H fun a b H1 => RgOk a b ∧ ∀ q, H1 q = none → Q (.ref q) (upd H1 q (.lst (rgV a b)))) ∧
    (∀ x vs H Q, rPopAt x vs H Q = ∃ l xs i k y, x = .ref l ∧ vs = [.int i] ∧ H l = some (.lst xs) ∧ -(2 ^ 63) ≤ i ∧ i < 2 ^ 63 ∧ seqIndex? i xs.length = some k ∧ xs[k]? = some y ∧ Q y (upd H l (.lst (xs.eraseIdx k)))) ∧
    (∀ x vs H Q, rPop x vs H Q = ∃ l xs y, x = .ref l ∧ vs = [] ∧ H l = some (.lst xs) ∧ xs[xs.length - 1]? = some y ∧ Q y (upd H l (.lst xs.dropLast))) ∧
    (∀ x y H Q, rCat x y H Q = ∃ l b xs zs, x = .ref l ∧ y = .ref b ∧ H l = some (.lst xs) ∧ H b = some (.lst zs) ∧ xs.length + zs.length ≤ sizeLine ∧ ∀ p, H p = none → Q (.ref p) (upd H p (.lst (xs ++ zs)))) ∧
    (∀ x y H Q, rRep x y H Q = ∃ l k xs, x = .ref l ∧ y = .int k ∧ H l = some (.lst xs) ∧ -(2 ^ 63) ≤ k ∧ k < 2 ^ 63 ∧ xs.length * k.toNat ≤ sizeLine ∧ ∀ p, H p = none → Q (.ref p) (upd H p (.lst (List.replicate k.toNat xs).flatten))) ∧
    (∀ K x lo hi H Q, rSlL K x lo hi H Q = ∃ a xs, x = .ref a ∧ SqL K H a xs ∧ ∀ p, H p = none → Q (.ref p) (upd H p (.lst (cutV xs lo hi)))) ∧
    (∀ K vs H Q, rSum K vs H Q = ∃ (a : Addr) (ns : List Int), vs = [V.ref a] ∧ SqL K H a (ns.map V.int) ∧ Q (.int ns.sum) H) ∧
    (∀ K vs H Q, rAll K vs H Q = ∃ (a : Addr) (bs : List Bool), vs = [V.ref a] ∧ SqL K H a (bs.map V.bl) ∧ Q (.bl (bs.all id)) H) ∧
    (∀ td ty tv D σ H, sDPut td ty tv D σ H = tv σ H fun v H1 => td σ H1 fun x H2 => ty σ H2 fun y H3 => ∃ a H4, x = .ref a ∧ DPut H3 a y v H4 ∧ D.nx σ H4) := by
  refine ⟨?_, ?_, ?_, ?_, ?_, ?_, ?_, ?_, ?_, ?_⟩ <;> intros <;> rfl
/-- sum of a list or a tuple of ints -/
def rSumQ : List V → Hp → VK → Prop := fun vs H Q => ∃ (p : Addr) (o : HO) (ns : List Int), vs = [.ref p] ∧ H p = some o ∧ seqO o = some (ns.map V.int) ∧ Q (.int ns.sum) H
theorem sum_q {X : Cx} (hc : X.calm = true) : CallR X (.builtin "sum") rSumQ := by
  intro pins s σ H vs us Q I r h
  obtain ⟨p, o, ns, rfl, ho, hs, q⟩ := h
  rcases seqO_sq (K := X.K) ho hs with l | l
  · exact cr_sum hc pins s σ H _ us Q I r ⟨p, ns, rfl, l, q⟩
  · obtain ⟨its, rv, ht, hz⟩ := I.tuple l
    rw [Vals.ref1 r]
    have hi := rv.ints
    obtain ⟨xs, e⟩ := hi.allInts.items
    have hn : numsOf (intItems xs).toList = ns := by rw [← e]; exact hi.numsOf
    rw [nums_intItems] at hn
    have ht2 : s.heap.IsTuple p its.toArray := ht
    rw [e] at ht2
    refine PySem.W.ktm_sumG (I.ok.hd hc) ht2 fun h' tk t' hk => ?_
    rw [preSum_eq, List.take_of_length_le (by simp), hn]
    exact ⟨.int _, H, I.kept hk, ⟨_, rfl⟩, q⟩
theorem rsq : (∀ vs H Q, rSumQ vs H Q = ∃ (p : Addr) (o : HO) (ns : List Int), vs = [.ref p] ∧ H p = some o ∧ seqO o = some (ns.map V.int) ∧ Q (.int ns.sum) H) := fun _ _ _ => rfl
theorem FI.enum {K : Fg} {a : Addr} {xs : List V} {i j : Nat} {tb : TS} {D : Ends} {σ : L2.St} {H : Hp} (Pv : Nat → L2.St → Hp → Prop) (h0 : Pv 0 σ H) (hq : ∀ i σ H, Pv i σ H → SqL K H a xs)
    (hs : ∀ (n : Nat) (x : V) (T : Addr) (σ : L2.St) (H : Hp), xs[n]? = some x → Pv n σ H → H T = none → tb ⟨Pv (n + 1), D.rt, D.nx, Pv (n + 1)⟩ ((σ.set i (some (.int (n : Nat)))).set j (some x)) (upd H T (.tup [.int (n : Nat), x]))) (hd : ∀ σ H, Pv xs.length σ H → D.nx σ H) :
    FI (Ite K a) (gTup K 2 (gCons (gName i) (gCons (gName j) gNil))) tb D σ H := by
  refine ⟨fun i m σ H => Pv i σ H ∧ i + m = xs.length, ⟨xs.length, h0, by omega⟩, ?_⟩
  rintro n m σ H ⟨p, hm⟩
  by_cases h : n < xs.length
  · refine .inr ⟨⟨xs, xs[n], hq _ _ _ p, by rw [List.getElem?_eq_getElem h]⟩, fun σ' H' => Pv (n + 1) σ' H', fun σ' H' p' => ⟨m - 1, by omega, p', by omega⟩, ?_⟩
    rintro v H' ⟨T, x, rfl, hT, rfl, hx⟩
    exact ⟨T, [.int (n : Nat), x], rfl, SqT.of upd_same, rfl, _, _, rfl, _, _, rfl, rfl, hs n x T σ H (hx xs (hq _ _ _ p)) p hT⟩
  · have e : n = xs.length := by omega
    subst e
    exact .inl ⟨⟨xs, hq _ _ _ p, Nat.le_refl _⟩, hd _ _ p⟩
/-- the turn of a while: what holds behind it has a smaller measure -/
def Nx (W : Nat → L2.St → Hp → Prop) (m : Nat) (tb : TS) (D : Ends) (σ : L2.St) (H : Hp) : Prop := ∃ N : L2.St → Hp → Prop, (∀ σ' H', N σ' H' → ∃ m', m' < m ∧ W m' σ' H') ∧ tb { D with nx := N, ct := N, bk := D.nx } σ H
theorem Nx.go {W : Nat → L2.St → Hp → Prop} {m : Nat} {tb : TS} {D : Ends} {σ : L2.St} {H : Hp} (h : tb { nx := fun σ' H' => ∃ m', m' < m ∧ W m' σ' H', rt := D.rt, bk := D.nx, ct := fun σ' H' => ∃ m', m' < m ∧ W m' σ' H' } σ H) : Nx W m tb D σ H := ⟨_, fun _ _ h => h, h⟩
theorem wh {c : TT} {tb : TS} {D : Ends} {σ : L2.St} {H : Hp} (W : Nat → L2.St → Hp → Prop) (m : Nat) (h0 : W m σ H) (ht : ∀ m σ H, W m σ H → c σ H fun b H1 => Br b (Nx W m tb D) D.nx σ H1) : tWhile c tb D σ H := ⟨W, ⟨m, h0⟩, ht⟩
/-! ### things that equal themselves -/
def flat : V → Bool
  | .non => true
  | .bl _ => true
  | .int _ => true
  | .str s => PyData.strOk s
  | _ => false
theorem flat_str (s : String) : flat (.str (s : Str)) = true := by
  show PyData.strOk (Str.ofString s) = true
  unfold PyData.strOk Str.ofString
  rw [cpsOfBytes_string, List.all_toArray, List.all_eq_true]
  intro n hn
  obtain ⟨c, _, rfl⟩ := List.mem_map.mp hn
  have h := c.valid
  have h2 : c.toNat = c.val.toNat := rfl
  simp only [UInt32.isValidChar, Nat.isValidChar] at h
  rw [h2]
  exact decide_eq_true (by omega)
def Nice1 (H : Hp) (v : V) : Prop := flat v = true ∨ ∃ p xs, v = .ref p ∧ (H p = some (.lst xs) ∨ H p = some (.tup xs)) ∧ (∀ x ∈ xs, flat x = true) ∧ xs.length ≤ 1000
def Nice (H : Hp) (v : V) : Prop := Nice1 H v ∨ (∃ p xs, v = .ref p ∧ H p = some (.lst xs) ∧ (∀ x ∈ xs, Nice1 H x) ∧ xs.length ≤ 1000) ∨ ∃ p, v = .ref p ∧ H p = some (.dK [])
theorem Nice1.same {H H' : Hp} (s : Same H H') {v : V} (h : Nice1 H v) : Nice1 H' v := by
  rcases h with h | ⟨p, xs, e, h, f⟩
  · exact .inl h
  · exact .inr ⟨p, xs, e, h.imp (s _ _) (s _ _), f⟩
theorem Nice.same {H H' : Hp} (s : Same H H') {v : V} (h : Nice H v) : Nice H' v := by
  rcases h with h | ⟨p, xs, e, h, f, l⟩ | ⟨p, e, h⟩
  · exact .inl (h.same s)
  · exact .inr (.inl ⟨p, xs, e, s _ _ h, fun x hx => (f x hx).same s, l⟩)
  · exact .inr (.inr ⟨p, e, s _ _ h⟩)
theorem Nice1.ty {H : Hp} {v : V} (h : Nice1 H v) : ∃ n, tyN H v = some n := by
  rcases h with h | ⟨p, xs, rfl, h | h, f⟩
  · cases v <;> first | exact ⟨_, rfl⟩ | exact Bool.noConfusion (show false = true from h)
  · exact ⟨"list", by rw [tyN, h] <;> rfl⟩
  · exact ⟨"tuple", by rw [tyN, h] <;> rfl⟩
theorem Nice.ty {H : Hp} {v : V} (h : Nice H v) : ∃ n, tyN H v = some n := by
  rcases h with h | ⟨p, xs, rfl, h, f, l⟩ | ⟨p, rfl, h⟩
  · exact h.ty
  · exact ⟨"list", by rw [tyN, h] <;> rfl⟩
  · exact ⟨"dict", by rw [tyN, h] <;> rfl⟩
theorem flat_d {K : Fg} {H : Hp} {v : V} (h : flat v = true) : ∃ d, Dp K H v d ∧ PyData.canLay0 d = true ∧ PyData.depth d ≤ 0 := by
  cases v with
  | non => exact ⟨_, .non, rfl, Nat.le_refl _⟩
  | bl b => exact ⟨_, .bl b, rfl, Nat.le_refl _⟩
  | int i => exact ⟨_, .int i, rfl, Nat.le_refl _⟩
  | str s => exact ⟨_, .str s, h, Nat.le_refl _⟩
  | _ => exact Bool.noConfusion (show false = true from h)
theorem all_d {K : Fg} {H : Hp} {n : Nat} : ∀ {xs : List V}, (∀ x ∈ xs, ∃ d, Dp K H x d ∧ PyData.canLay0 d = true ∧ PyData.depth d ≤ n) → ∃ ds, DpAll K H xs ds ∧ PyData.canLayAll0 ds = true ∧ PyData.depthAll ds ≤ n + 1
  | [], _ => ⟨[], .nil, rfl, by show 0 ≤ _; omega⟩
  | x :: r, h => by
    obtain ⟨d, h1, h2, h3⟩ := h x (by simp)
    obtain ⟨ds, k1, k2, k3⟩ := all_d (xs := r) fun y hy => h y (List.mem_cons_of_mem _ hy)
    refine ⟨d :: ds, .cons h1 k1, ?_, ?_⟩
    · show (PyData.canLay0 d && PyData.canLayAll0 ds) = true
      rw [h2, k2]
      rfl
    · simp only [PyData.depthAll]
      omega
theorem Nice1.d {K : Fg} {H : Hp} {v : V} (h : Nice1 H v) : ∃ d, Dp K H v d ∧ PyData.canLay0 d = true ∧ PyData.depth d ≤ 2 := by
  rcases h with h | ⟨p, xs, rfl, h, f, l⟩
  · obtain ⟨d, h1, h2, h3⟩ := flat_d (K := K) (H := H) h
    exact ⟨d, h1, h2, by omega⟩
  · obtain ⟨ds, k1, k2, k3⟩ := all_d (K := K) (H := H) (n := 0) fun x hx => flat_d (f x hx)
    rcases h with h | h
    · refine ⟨_, .lst (SqL.of h) k1, k2, ?_⟩
      simp only [PyData.depth]
      omega
    · refine ⟨_, .tup (SqT.of h) k1, k2, ?_⟩
      simp only [PyData.depth]
      omega
theorem Nice.d {K : Fg} {H : Hp} {v : V} (h : Nice H v) : (∃ d, Dp K H v d ∧ PyData.canLay0 d = true ∧ PyData.depth d ≤ 4) ∨ ∃ p, v = .ref p ∧ H p = some (.dK []) := by
  rcases h with h | ⟨p, xs, rfl, h, f, l⟩ | h
  · obtain ⟨d, h1, h2, h3⟩ := h.d (K := K)
    exact .inl ⟨d, h1, h2, by omega⟩
  · obtain ⟨ds, k1, k2, k3⟩ := all_d (K := K) (H := H) (n := 2) fun x hx => (f x hx).d
    refine .inl ⟨_, .lst (SqL.of h) k1, k2, ?_⟩
    simp only [PyData.depth]
    omega
  · exact .inr h
theorem shaped_of {d : PyData} (h1 : PyData.canLay0 d = true) (h2 : PyData.depth d ≤ 60) : SeqAt.shaped d = true := by
  unfold SeqAt.shaped
  rw [h1, Bool.true_and]
  exact decide_eq_true (by omega)
theorem eqA_self {K : Fg} {H : Hp} {v : V} {Q : VK} (h : (∃ d, Dp K H v d ∧ PyData.canLay0 d = true ∧ PyData.depth d ≤ 60) ∨ ∃ p ks, v = .ref p ∧ H p = some (.dK ks) ∧ ∀ x ∈ ks, valV ks x.1 = some x.2 ∧ flatB x.2 = true) (q : Q (.bl true) H) : rEqA K v v H Q := by
  rcases h with ⟨d, h1, h2, h3⟩ | ⟨p, ks, rfl, h, f⟩
  · refine .inl ⟨d, d, h1, h1, shaped_of h2 h3, shaped_of h2 h3, ?_⟩
    rw [SeqAt.eqv_refl _ h2]
    exact q
  · exact .inr ⟨p, p, ks, ks, rfl, rfl, h, h, rfl, f, q⟩
theorem neA_self {K : Fg} {H : Hp} {v : V} {Q : VK} (h : (∃ d, Dp K H v d ∧ PyData.canLay0 d = true ∧ PyData.depth d ≤ 60) ∨ ∃ p ks, v = .ref p ∧ H p = some (.dK ks) ∧ ∀ x ∈ ks, valV ks x.1 = some x.2 ∧ flatB x.2 = true) (q : Q (.bl false) H) : rNeA K v v H Q := by
  rcases h with ⟨d, h1, h2, h3⟩ | ⟨p, ks, rfl, h, f⟩
  · refine .inl ⟨d, d, h1, h1, shaped_of h2 h3, shaped_of h2 h3, ?_⟩
    rw [SeqAt.eqv_refl _ h2]
    exact q
  · exact .inr ⟨p, p, ks, ks, rfl, rfl, h, h, rfl, f, q⟩
end Sw

/-! New objects, told by what they keep: the heap behind stays a name. -/
namespace Sw
open PySem PySem.Spec PyProof.Rows L2
/-- behind the making of o at p -/
structure Al (H : Hp) (p : Addr) (o : HO) (H2 : Hp) : Prop where
  f : H p = none
  s : Same H H2
  e : H2 p = some o
theorem Al.mk' {H : Hp} {p : Addr} {o : HO} (h : H p = none) : Al H p o (upd H p o) := ⟨h, Same.new h, upd_same⟩
def tLstA (t : TA) : TE := fun σ H Q => t σ H fun xs H1 => xs.length ≤ sizeLine ∧ ∀ p H2, Al H1 p (.lst xs) H2 → Q (.ref p) H2
def tTupA (t : TA) : TE := fun σ H Q => t σ H fun xs H1 => xs.length ≤ sizeLine ∧ ∀ p H2, Al H1 p (.tup xs) H2 → Q (.ref p) H2
def tDNewA : TE := fun _ H Q => ∀ p H2, Al H p (.dK []) H2 → Q (.ref p) H2
def tLstRgA (te : L2.St → Hp → (Int → Int → Hp → Prop) → Prop) : TE := fun σ H Q => te σ H fun a b H1 => RgOk a b ∧ ∀ q H2, Al H1 q (.lst (rgV a b)) H2 → Q (.ref q) H2
def tTupRgA (te : L2.St → Hp → (Int → Int → Hp → Prop) → Prop) : TE := fun σ H Q => te σ H fun a b H1 => RgOk a b ∧ ∀ q H2, Al H1 q (.tup (rgV a b)) H2 → Q (.ref q) H2
section
variable {X : Cx} {es : List Expr} {t : TA} {pos p : Pos}
theorem pe_lstA (h : PA X es t) : PE X (.List es pos) (tLstA t) := ⟨fun pins s σ H Q I h1 => (pe_lst (pos := pos) (pa_mono h)).run pins s σ H Q I ⟨_, h1, fun xs H1 ⟨l, q⟩ => ⟨l, fun p hp => q p _ (Al.mk' hp)⟩⟩⟩
theorem pe_tupA {x1} (h : PA X es t) : PE X (.Tuple es x1 pos) (tTupA t) := ⟨fun pins s σ H Q I h1 => (pe_tup (pos := pos) (pa_mono h)).run pins s σ H Q I ⟨_, h1, fun xs H1 ⟨l, q⟩ => ⟨l, fun p hp => q p _ (Al.mk' hp)⟩⟩⟩
theorem pe_dnewA : PE X (.Dict [] [] pos) tDNewA := ⟨fun pins s σ H Q I q => (pe_dnewK (pos := pos)).run pins s σ H Q I fun p hp => q p _ (Al.mk' hp)⟩
theorem prg_mono {e : Expr} {te : L2.St → Hp → (Int → Int → Hp → Prop) → Prop} (h : PRg X e te) : PRg X e (fun σ H Q => ∃ R : Int → Int → Hp → Prop, te σ H R ∧ ∀ a b H1, R a b H1 → Q a b H1) := fun pins s σ H Q I ⟨R, h1, h2⟩ =>
  thn (h pins s σ H R I h1) fun x s' ⟨r, a, b, t, u, v, H', e1, e2, J, q⟩ => ⟨r, a, b, t, u, v, H', e1, e2, J, h2 _ _ _ q⟩
theorem pe_listRgA {e : Expr} {te : L2.St → Hp → (Int → Int → Hp → Prop) → Prop} (hc : X.calm = true) (hg : Gl X "list") (hm : X.mg "list" = none) (he : PRg X e te) (na : starEach [e] X.env = (false, eval e X.env) :: starEach [] X.env := by rfl) : PE X (.Call (.Name "list" p) [e] [] pos) (tLstRgA te) :=
  ⟨fun pins s σ H Q I h => (pe_listRg hc hg hm (prg_mono he) na).run pins s σ H Q I ⟨_, h, fun a b H1 ⟨l, q⟩ => ⟨l, fun p hp => q p _ (Al.mk' hp)⟩⟩⟩
theorem pe_tupRgA {e : Expr} {te : L2.St → Hp → (Int → Int → Hp → Prop) → Prop} (hc : X.calm = true) (hg : Gl X "tuple") (hm : X.mg "tuple" = none) (he : PRg X e te) (na : starEach [e] X.env = (false, eval e X.env) :: starEach [] X.env := by rfl) : PE X (.Call (.Name "tuple" p) [e] [] pos) (tTupRgA te) :=
  ⟨fun pins s σ H Q I h => (pe_tupRg hc hg hm (prg_mono he) na).run pins s σ H Q I ⟨_, h, fun a b H1 ⟨l, q⟩ => ⟨l, fun p hp => q p _ (Al.mk' hp)⟩⟩⟩
/-- l + m -/
def rCatAl : R2 := fun x y H Q => ∃ l b xs zs, x = .ref l ∧ y = .ref b ∧ H l = some (.lst xs) ∧ H b = some (.lst zs) ∧ xs.length + zs.length ≤ sizeLine ∧ ∀ p H2, Al H p (.lst (xs ++ zs)) H2 → Q (.ref p) H2
theorem op_catAl : OpR X (binaryOp .Add) rCatAl := fun pins s σ H x y v u Q I rx ry ⟨l, b, xs, zs, e1, e2, h1, h2, hl, q⟩ => op_cat pins s σ H x y v u Q I rx ry ⟨l, b, xs, zs, e1, e2, h1, h2, hl, fun p hp => q p _ (Al.mk' hp)⟩
/-- l * n -/
def rRepAl : R2 := fun x y H Q => ∃ l k xs, x = .ref l ∧ y = .int k ∧ H l = some (.lst xs) ∧ -(2 ^ 63) ≤ k ∧ k < 2 ^ 63 ∧ xs.length * k.toNat ≤ sizeLine ∧ ∀ p H2, Al H p (.lst (List.replicate k.toNat xs).flatten) H2 → Q (.ref p) H2
theorem op_repAl : OpR X (binaryOp .Mult) rRepAl := fun pins s σ H x y v u Q I rx ry ⟨l, k, xs, e1, e2, h1, h2, h3, hl, q⟩ => op_rep pins s σ H x y v u Q I rx ry ⟨l, k, xs, e1, e2, h1, h2, h3, hl, fun p hp => q p _ (Al.mk' hp)⟩
/-- t * n of a tuple -/
def rRepTAl (K : Fg) : R2 := fun x y H Q => ∃ l k xs, x = .ref l ∧ y = .int k ∧ SqT K H l xs ∧ xs ≠ [] ∧ 2 ≤ k ∧ k ≤ 1000 ∧ xs.length ≤ 1000 ∧ ∀ p H2, Al H p (.tup (List.replicate k.toNat xs).flatten) H2 → Q (.ref p) H2
theorem op_repTAl : OpR X (binaryOp .Mult) (rRepTAl X.K) := fun pins s σ H x y v u Q I rx ry ⟨l, k, xs, e1, e2, h1, h2, h3, h4, hl, q⟩ => op_repT pins s σ H x y v u Q I rx ry ⟨l, k, xs, e1, e2, h1, h2, h3, h4, hl, fun p hp => q p _ (Al.mk' hp)⟩
/-- xs[lo:hi] of a list -/
def rSlAl (K : Fg) : V → Option Int → Option Int → Hp → VK → Prop := fun x lo hi H Q => ∃ a xs, x = .ref a ∧ SqL K H a xs ∧ ∀ p H2, Al H p (.lst (cutV xs lo hi)) H2 → Q (.ref p) H2
theorem sl_listAl : SlR X (rSlAl X.K) := fun pins s σ H x v vl vu lo hi sl Q I rx hs pl pu ⟨a, xs, e, h, q⟩ => sl_list pins s σ H x v vl vu lo hi sl Q I rx hs pl pu ⟨a, xs, e, h, fun p hp => q p _ (Al.mk' hp)⟩
/-- list(t), tuple(l) -/
def rLstAl : List V → Hp → VK → Prop := fun vs H Q => ∃ p o xs, vs = [.ref p] ∧ H p = some o ∧ seqO o = some xs ∧ ∀ l H2, Al H l (.lst xs) H2 → Q (.ref l) H2
theorem lst_al : CallR X (.type "list") rLstAl := fun pins s σ H xs us Q I r ⟨p, o, ys, e, h1, h2, q⟩ => lst_q pins s σ H xs us Q I r ⟨p, o, ys, e, h1, h2, fun l hl => q l _ (Al.mk' hl)⟩
def rTupAl : List V → Hp → VK → Prop := fun vs H Q => ∃ p xs, vs = [.ref p] ∧ H p = some (.lst xs) ∧ ∀ l H2, Al H l (.tup xs) H2 → Q (.ref l) H2
theorem tup_al : CallR X (.type "tuple") rTupAl := fun pins s σ H xs us Q I r ⟨p, ys, e, h1, q⟩ => tup_q pins s σ H xs us Q I r ⟨p, ys, e, h1, fun l hl => q l _ (Al.mk' hl)⟩
end
theorem ral : (∀ t σ H Q, tLstA t σ H Q = t σ H fun xs H1 => xs.length ≤ sizeLine ∧ ∀ p H2, Al H1 p (.lst xs) H2 → Q (.ref p) H2) ∧ (∀ t σ H Q, tTupA t σ H Q = t σ H fun xs H1 => xs.length ≤ sizeLine ∧ ∀ p H2, Al H1 p (.tup xs) H2 → Q (.ref p) H2) ∧
    (∀ σ H Q, tDNewA σ H Q = ∀ p H2, Al H p (.dK []) H2 → Q (.ref p) H2) ∧ (∀ te σ H Q, tLstRgA te σ H Q = te σ H fun a b H1 => RgOk a b ∧ ∀ q H2, Al H1 q (.lst (rgV a b)) H2 → Q (.ref q) H2) ∧
    (∀ te σ H Q, tTupRgA te σ H Q = te σ H fun a b H1 => RgOk a b ∧ ∀ q H2, Al H1 q (.tup (rgV a b)) H2 → Q (.ref q) H2) ∧
    (∀ x y H Q, rCatAl x y H Q = ∃ l b xs zs, x = .ref l ∧ y = .ref b ∧ H l = some (.lst xs) ∧ H b = some (.lst zs) ∧ xs.length + zs.length ≤ sizeLine ∧ ∀ p H2, Al H p (.lst (xs ++ zs)) H2 → Q (.ref p) H2) ∧
    (∀ x y H Q, rRepAl x y H Q = ∃ l k xs, x = .ref l ∧ y = .int k ∧ H l = some (.lst xs) ∧ -(2 ^ 63) ≤ k ∧ k < 2 ^ 63 ∧ xs.length * k.toNat ≤ sizeLine ∧ ∀ p H2, Al H p (.lst (List.replicate k.toNat xs).flatten) H2 → Q (.ref p) H2) ∧
    (∀ K x y H Q, rRepTAl K x y H Q = ∃ l k xs, x = .ref l ∧ y = .int k ∧ SqT K H l xs ∧ xs ≠ [] ∧ 2 ≤ k ∧ k ≤ 1000 ∧ xs.length ≤ 1000 ∧ ∀ p H2, Al H p (.tup (List.replicate k.toNat xs).flatten) H2 → Q (.ref p) H2) ∧
    (∀ K x lo hi H Q, rSlAl K x lo hi H Q = ∃ a xs, x = .ref a ∧ SqL K H a xs ∧ ∀ p H2, Al H p (.lst (cutV xs lo hi)) H2 → Q (.ref p) H2) ∧
    (∀ vs H Q, rLstAl vs H Q = ∃ p o xs, vs = [.ref p] ∧ H p = some o ∧ seqO o = some xs ∧ ∀ l H2, Al H l (.lst xs) H2 → Q (.ref l) H2) ∧ (∀ vs H Q, rTupAl vs H Q = ∃ p xs, vs = [.ref p] ∧ H p = some (.lst xs) ∧ ∀ l H2, Al H l (.tup xs) H2 → Q (.ref l) H2) := by
  refine ⟨?_, ?_, ?_, ?_, ?_, ?_, ?_, ?_, ?_, ?_, ?_⟩ <;> intros <;> rfl
theorem Al.k {H H2 : Hp} {p a : Addr} {o u : HO} (x : Al H p o H2) (h : H a = some u) : H2 a = some u := x.s _ _ h
theorem Al.ne {H H2 : Hp} {p a : Addr} {o u : HO} (x : Al H p o H2) (h : H a = some u) : p ≠ a := fun e => by
  rw [← e, x.f] at h
  cases h
theorem at_mem {xs : List V} {r : Int} (h0 : 0 ≤ r) (h1 : r < (xs.length : Int)) : ∃ v, atI xs r = some v ∧ v ∈ xs := by
  obtain ⟨k, rfl⟩ : ∃ k : Nat, r = (k : Int) := ⟨r.toNat, by omega⟩
  have h2 : k < xs.length := by omega
  exact ⟨xs[k], atI_nat (List.getElem?_eq_getElem h2), List.getElem_mem h2⟩
/-- the rest of a suite kept shut -/
theorem seqI {t u : TS} {D : Ends} {σ : L2.St} {H : Hp} (h : ∀ r : TS, u = r → tSeq t r D σ H) : tSeq t u D σ H := h u rfl
theorem tst {H H1 H2 H3 H4 : Hp} {p q r t : Addr} {o1 o2 o3 o4 : HO} (a1 : Al H p o1 H1) (a2 : Al H1 q o2 H2) (a3 : Al H2 r o3 H3) (a4 : Al H3 t o4 H4) : ∃ x, H4 p = some x ∧ H4 q = some o2 := by
  exact ⟨_, (Al.k a4 (Al.k a3 (Al.k a2 (Al.e a1)))), (Al.k a4 (Al.k a3 (Al.e a2)))⟩
end Sw

/-! Classes with a base: o.m(..) where o is of one of several classes; B.m(self, ..); try .. except .. else. -/
namespace Sw
open PySem PySem.Spec PyProof.Rows L2
/-- o.m(..), o of one of the classes of a list, each with its promise -/
def Disp (P : Program) (w : World) (K : Fg) (mg : Str → Option Value) (base : Heap) (j : Nat) (m : Str) (L : List (Str × Sp)) : Prop := ∀ q ∈ L, ∃ (k : Nat) (ps : List Str), k ≤ j ∧ CalM P w K mg base k q.1 m ps q.2
theorem Disp.nil {P : Program} {w : World} {K : Fg} {mg : Str → Option Value} {base : Heap} {j : Nat} {m : Str} : Disp P w K mg base j m [] := fun _ h => by cases h
theorem Disp.cons {P : Program} {w : World} {K : Fg} {mg : Str → Option Value} {base : Heap} {j k : Nat} {C m : Str} {ps : List Str} {sp : Sp} {L : List (Str × Sp)} (c : CalM P w K mg base k C m ps sp) (hk : k ≤ j) (r : Disp P w K mg base j m L) : Disp P w K mg base j m ((C, sp) :: L) := fun q h => by
  rcases List.mem_cons.mp h with rfl | h
  · exact ⟨k, ps, hk, c⟩
  · exact r q h
def tMthD (K : Fg) (m : Str) (L : List (Str × Sp)) (E : L2.St → XK) (ta : TE) (t : TA) : TE := fun σ H Q => ta σ H fun x H1 => ∃ (a : Addr) (C : Str) (sp : Sp) (dx : Addr) (fs : List (Str × V)), x = .ref a ∧ (C, sp) ∈ L ∧ H1 a = some (.ins (He.ga K C) dx fs) ∧ fs.lookup m = none ∧ t σ H1 fun vs H2 => sp (x :: vs) H2 Q (E σ)
section
variable {X : Cx} {k j : Nat} {C m x : Str} {ps : List Str} {sp : Sp} {E : XK} {o e : Expr} {es : List Expr} {ta : TE} {t : TA} {p apos pos : Pos} {pl : Sem Bool} {W : WX} {L : List (Str × Sp)}
theorem pe_mthD {K : Fg} (hK : X.K = K) (c : Disp X.prog X.w X.K X.mg X.base j m L) (hr : Rm j X.A) (tk : Takes X W) (he : PE X o ta) (ha : PA X (e :: es) t)
    (hst : starEach (e :: es) X.env = (false, eval e X.env) :: starEach es X.env := by rfl) (hpl : (backTo pos (starEach es X.env)).any (·.1) = false := by rfl)
    (ht : eval (.Call (.Attribute o m apos) (e :: es) [] pos) X.env = (do
      let ov ← eval o X.env
      standAt apos.atName
      let (f, first) ← holding [ov] (getMethod ov m pl)
      callWith pos f first (backTo pos (starEach (e :: es) X.env)) (backToKw pos (keywordEach [] X.env))) := by rfl) :
    PE X (.Call (.Attribute o m apos) (e :: es) [] pos) (tMthD K m L (WE W) ta t) := by
  subst hK
  refine ⟨fun pins s σ H Q I h => ?_⟩
  refine PySem.W.methodCall_KW (pl := pl) (thn (he.run pins s σ H _ I h) fun u s1 ⟨x, H1, I1, rx, a, C, sp, dx, fs, ex, hL, ea, l, q⟩ => ?_) ht
  subst ex
  obtain rfl : u = Value.ref a := rx
  obtain ⟨k, ps, hk, c⟩ := c (C, sp) hL
  obtain ⟨fd, F, b⟩ := c.ex
  refine getmeth_ok I1 ea c.cls c.meth l ?_
  refine PySem.W.callWith_K (first := [.ref a]) (h₀ := X.base) I.ok.mod.kin c.meth.kp (thn (ha.run pos pins s1 σ H1 _ I1 q) fun us s2 ⟨vs, H2, I2, r, q2⟩ => ⟨I2.kIn, ?_⟩) hst hpl
  exact run_fnG (us := .ref a :: us) (vs := .ref a :: vs) F (hr.mono hk) b (passAt tk σ) I2 (.cons rfl r) q2
theorem pe_mthDP {K : Fg} (hK : X.K = K) (c : Disp X.prog X.w X.K X.mg X.base j m L) (hr : Rm j X.A) (hx : Passes (L2.CX X.prog X.w) X E) (he : PE X o ta) (ha : PA X (e :: es) t)
    (hst : starEach (e :: es) X.env = (false, eval e X.env) :: starEach es X.env := by rfl) (hpl : (backTo pos (starEach es X.env)).any (·.1) = false := by rfl)
    (ht : eval (.Call (.Attribute o m apos) (e :: es) [] pos) X.env = (do
      let ov ← eval o X.env
      standAt apos.atName
      let (f, first) ← holding [ov] (getMethod ov m pl)
      callWith pos f first (backTo pos (starEach (e :: es) X.env)) (backToKw pos (keywordEach [] X.env))) := by rfl) :
    PE X (.Call (.Attribute o m apos) (e :: es) [] pos) (tMthD K m L (fun _ => E) ta t) := by
  subst hK
  refine ⟨fun pins s σ H Q I h => ?_⟩
  refine PySem.W.methodCall_KW (pl := pl) (thn (he.run pins s σ H _ I h) fun u s1 ⟨x, H1, I1, rx, a, C, sp, dx, fs, ex, hL, ea, l, q⟩ => ?_) ht
  subst ex
  obtain rfl : u = Value.ref a := rx
  obtain ⟨k, ps, hk, c⟩ := c (C, sp) hL
  obtain ⟨fd, F, b⟩ := c.ex
  refine getmeth_ok I1 ea c.cls c.meth l ?_
  refine PySem.W.callWith_K (first := [.ref a]) (h₀ := X.base) I.ok.mod.kin c.meth.kp (thn (ha.run pos pins s1 σ H1 _ I1 q) fun us s2 ⟨vs, H2, I2, r, q2⟩ => ⟨I2.kIn, ?_⟩) hst hpl
  exact run_fnG (E := fun _ => E) (us := .ref a :: us) (vs := .ref a :: vs) F (hr.mono hk) b (fun pins H s e s' I c => hx pins σ H s e s' I c) I2 (.cons rfl r) q2
theorem pe_mthD0 {K : Fg} (hK : X.K = K) (c : Disp X.prog X.w X.K X.mg X.base j m L) (hr : Rm j X.A) (tk : Takes X W) (he : PE X o ta)
    (ht : eval (.Call (.Attribute o m apos) [] [] pos) X.env = (do
      let ov ← eval o X.env
      standAt apos.atName
      let (f, first) ← holding [ov] (getMethod ov m pl)
      callWith pos f first (backTo pos (starEach [] X.env)) (backToKw pos (keywordEach [] X.env))) := by rfl) :
    PE X (.Call (.Attribute o m apos) [] [] pos) (tMthD K m L (WE W) ta tNil) := by
  subst hK
  refine ⟨fun pins s σ H Q I h => ?_⟩
  refine PySem.W.methodCall_KW (pl := pl) (thn (he.run pins s σ H _ I h) fun u s1 ⟨x, H1, I1, rx, a, C, sp, dx, fs, ex, hL, ea, l, q⟩ => ?_) ht
  subst ex
  obtain rfl : u = Value.ref a := rx
  obtain ⟨k, ps, hk, c⟩ := c (C, sp) hL
  obtain ⟨fd, F, b⟩ := c.ex
  refine getmeth_ok I1 ea c.cls c.meth l ?_
  exact PySem.W.callWith_K0 (first := [.ref a]) I1.kIn c.meth.kp (run_fnG (us := [.ref a]) (vs := [.ref a]) F (hr.mono hk) b (passAt tk σ) I1 (.cons rfl .nil) q)
/-! ### B.m(self, ..), B a class of the program, m a def of it -/
def clfB (K : Fg) (C : Addr) (m : Str) : Bool := decide (PySem.W.specialIn K (.ref C) "__getattribute__" = some (some (.builtin "type.__getattribute__"))) && (PySem.W.readsIn K C (.type "type") && (match PySem.W.findCls K (.ref C) (.type "type") m with
  | some (.val (.ref a)) => decide (a = He.ma K C m)
  | _ => false))
structure ClF (K : Fg) (C : Addr) (m : Str) : Prop where
  sp : PySem.W.specialIn K (.ref C) "__getattribute__" = some (some (.builtin "type.__getattribute__"))
  rd : PySem.W.readsIn K C (.type "type") = true
  fc : PySem.W.findCls K (.ref C) (.type "type") m = some (.val (.ref (He.ma K C m)))
theorem clfB_ok {K : Fg} {C : Addr} {m : Str} (h : clfB K C m = true) : ClF K C m := by
  unfold clfB at h
  simp only [Bool.and_eq_true, decide_eq_true_eq] at h
  obtain ⟨h1, h2, h3⟩ := h
  refine ⟨h1, h2, ?_⟩
  split at h3
  · rename_i a q
    have e : a = He.ma K C m := of_decide_eq_true h3
    rw [q, e]
  · cases h3
theorem pe_clsM {S : Str} {p1 p2 : Pos} (c : CalM X.prog X.w X.K X.mg X.base k S m ps sp) (I0 : ClF X.K (He.ga X.K S) m) (hr : Rm j X.A) (hk : k ≤ j) (tk : Takes X W) (hg : Gl X S) (hm : X.mg S = some (.ref (He.ga X.K S))) (ha : PA X (e :: es) t)
    (hl : (p2.endLine == pos.line) = true := by rfl) (hf : methodCallForm ((e :: es).length + ([] : List Keyword).length) (backTo pos (starEach (e :: es) X.env)) (backToKw pos (keywordEach [] X.env)) = true := by rfl)
    (hdb : (S == ("__debug__" : Str)) = false := by decide)
    (he : starEach (e :: es) X.env = (false, eval e X.env) :: starEach es X.env := by rfl) (hpl : (backTo pos (starEach es X.env)).any (·.1) = false := by rfl) :
    PE X (.Call (.Attribute (.Name S p1) m p2) (e :: es) [] pos) (tCallS sp (WE W) t) := by
  obtain ⟨fd, F, b⟩ := c.ex
  refine ⟨fun pins s σ H Q I h => ?_⟩
  have hc : eval (.Call (.Attribute (.Name S p1) m p2) (e :: es) [] pos) X.env = (do
      let ov ← eval (.Name S p1) X.env
      standAt p2.atName
      let (f, first) ← holding [ov] (getMethod ov m (plainOf (.Name S p1) X.env))
      callWith pos f first (backTo pos (starEach (e :: es) X.env)) (backToKw pos (keywordEach [] X.env))) := by
    show (do let ov ← eval (.Name S p1) X.env; standAt p2.atName; methodCall (.Name S p1) m p2 pos X.env ov _ _ _) = _
    simp only [mcall_line hf hl]
  refine PySem.W.methodCall_KW (ld_glob I hg hm ?_ hdb) hc
  refine PySem.W.method_cls I.kIn I0.sp (PySem.W.cls_value I.kIn I0.rd I0.fc rfl ?_)
  refine PySem.W.callWith_K (first := []) (h₀ := X.base) I.ok.mod.kin c.meth.kp (thn (ha.run pos pins _ σ H _ (I.tok _) h) fun us s2 ⟨vs, H2, I2, r, q2⟩ => ⟨I2.kIn, ?_⟩) he hpl
  exact run_fnG F (hr.mono hk) b (passAt tk σ) I2 r q2
end
/-! ### try .. except .. else -/
section
variable {X : Cx} {n : Str} {i : Nat} {bd : List Stmt} {h1 : ExceptHandler} {hs : List ExceptHandler} {l : List (Value × Bool × (Addr → Value → Option Addr → TS))} {pos : Pos} {tb : WX → TS} {Wz : WX}
theorem ps_try_asesE {orelse : List Stmt} {u : TS} (ho : PSs X orelse u) (st : X.stack = X.env :: X.outer) (fr : X.env.frame = some X.env.locals) (nd : X.N.Nodup) (at_ : X.N[i]? = some n) (lo : X.env.kindOf n = some .local) (tk : Takes X Wz)
    (hbd : ∀ (W : WX) (pn : List (Addr × Obj)) (xe : Value → Shared → Prop), Takes (X.tr pn xe) W → PassesOwn (model X.prog X.w) X.A X.env xe → PSs (X.tr pn xe) bd (tb W)) (cs : Clauses X n (h1 :: hs) l) :
    PS X (.Try bd (h1 :: hs) orelse [] pos) (fun D σ H => tb (wAses X.K i Wz D l) { D with nx := u D } σ H) := by
  refine ⟨fun pins s σ H D I0 hyp => ?_⟩
  have okk := I0.ok
  have ffr : X.A.frames = some (X.env :: X.outer) := by rw [okk.frames, st]
  refine wpAny_Try_except (wpAny_mono ((hbd (wAses X.K i Wz D l) (X.pn ++ pins) (fun ev s1 => wpAny (model X.prog X.w) X.A (noteFrame ev X.env) (fun _ s2 => wpAny (model X.prog X.w) X.A (setFlight ev none) (fun _ s3 =>
    wpAny (model X.prog X.w) X.A (handleBy ev X.env (h1 :: hs)) (SP X pins D) X.xe s3) X.xe s2) X.xe s1) (fun ev s1 cought => ?_) PassesOwn.looking).run [] s σ H { D with nx := u D } (I0.toTry _) hyp) (fun fl s1 endd => ?_) (fun _ _ out => out))
  · obtain ⟨z, B, sI, pins2, τ, G, cls, d, rfl, JJ, nb, up, sky, nz, hos, hag, wish⟩ := cought
    have J := JJ.ofTry (X := X) (pins := pins) okk
    have skyy : Sky B (X.env :: X.outer) z (Zc cls d) X.env.locals s1.heap := by rw [← st]; exact sky
    show wpAny (model X.prog X.w) X.A (noteFrame (.ref z) X.env) _ _ _
    refine Sky.land Zc.steady ffr fr skyy fun g3 fly3 up3 => ?_
    have K3 : Inv X pins τ G { s1 with heap := g3 } := J.landed nb fly3.1 (up.trans up3) hos hag
    obtain ⟨o3, f3, e3, z3, d3⟩ := fly3.there
    have apart : z ∉ frs (X.env :: X.outer) := fun hm => by
      obtain ⟨_, o', e', no⟩ := fly3.2.2.1.mem hm
      rw [e3] at e'
      cases e'
      exact no _ d3
    have zl : z ≠ X.env.locals := fun q => apart (List.mem_filterMap.mpr ⟨X.env, List.mem_cons_self, by rw [fr, q]⟩)
    have zf : z ∉ X.fs := fun hm => by
      obtain ⟨v, hv, q⟩ := List.mem_filterMap.mp hm
      exact apart (List.mem_filterMap.mpr ⟨v, List.mem_cons_of_mem _ hv, q⟩)
    have S3 := K3.suite e3 d3 nz zl zf
    have walk : ∀ {hs' : List ExceptHandler} {l' : List (Value × Bool × (Addr → Value → Option Addr → TS))}, Clauses X n hs' l' → wAses X.K i Wz D l' cls d τ G → wpAny (model X.prog X.w) X.A (handleBy (.ref z) X.env hs') (SP X pins D) X.xe { s1 with heap := g3 } := by
      intro hs' l' hc
      induction hc with
      | nil =>
        intro wish
        refine wpAny_handleBy_nil ?_
        obtain ⟨_, _, _, o, vs, T, oT, _, ho, _, hd, hv, _⟩ := id fly3
        unfold PySem.passOn
        refine wpAny_bind (wpAny_field ho hd hv ?_)
        rw [if_neg (show ¬ ((Value.ref T == Value.none) = true) from by simp)]
        have last : wpAny (model X.prog X.w) X.A (setFlight (.ref z) X.env.frame) (fun _ s4 => wpAny (model X.prog X.w) X.A (throw (.ref z) : Sem Flow) (SP X pins D) X.xe s4) X.xe { s1 with heap := g3 } := by
          rw [fr]
          exact HandSPX.setFlight_upZ fly3 fun g4 hh4 up4 => wpAny_throw (tk _ _ ⟨z, B, sI, pins, τ, G, cls, d, rfl, J, nb, (up.trans up3).trans up4, .inr (.inr (by rw [st]; exact hh4)), nz, hos, hag, wish⟩)
        first
          | exact wpAny_bind (wpAny_pure (wpAny_bind last))
          | exact wpAny_bind last
      | @cons x cl t b bs p1 p2 hs2 l2 nm suite rest ih =>
        intro wish
        obtain ⟨yes, ask, onYes, onNo⟩ := wish
        refine wpAny_handleBy_cons (codeAny_handlers_test ?_) (by intro q; cases q)
        have kind : PySem.W.Looks (model X.prog X.w) g3 (typeOf (.ref z)) cls := fun A Q E s5 k q => wpAny_typeOf_ref (k _ _ e3) (by rw [z3.1]; exact q)
        have met := PySem.W.exm_one (M := model X.prog X.w) K3.kIn kind ask
        have tst : ∀ {Q E : Value → Shared → Prop}, Q cl { s1 with heap := g3 } → wpAny (model X.prog X.w) (X.A.mark (some (.ref z))) (eval (.Name x p1) X.env) Q E { s1 with heap := g3 } := fun {Q E} q => by
          obtain ⟨hg, hdb, hm | ⟨hm, hv, hn⟩⟩ := nm
          · exact ld_glob (X := X.suite z ((z, o3) :: (X.pn ++ pins))) S3 hg hm q hdb
          · exact ld_blt (X := X.suite z ((z, o3) :: (X.pn ++ pins))) S3 hg hm hv q hn hdb
        refine tst (met.here ?_)
        cases yes with
        | false => exact ih (onNo rfl)
        | true =>
          refine codeAny_handlers_suite_as (HandSPX.lands_againZ fly3 fun g4 fly4 up4 => ?_)
          have K4 : Inv X pins τ G { s1 with heap := g4 } := J.landed nb fly4.1 ((up.trans up3).trans up4) hos hag
          obtain ⟨o4, f4, e4, z4, d4⟩ := fly4.there
          have S4 := K4.suite e4 d4 nz zl zf
          refine store_ok (X := X.suite z ((z, o4) :: (X.pn ++ pins))) (v := .ref z) S4 nd at_ (.inl lo) rfl (fun s5 S5 => ?_) (.inr lo)
          refine wpAny_mono ((suite z o4 cls d (X.pn ++ pins) z4 ⟨_, d4⟩).run [] s5 _ G _ S5 (onYes rfl z nz)) (fun fl s6 endd => ?_) (fun _ _ q => q.elim)
          have gone : ∀ {τ6 : L2.St} {G6 : Hp} {Q : Shared → Prop}, Inv (X.suite z ((z, o4) :: (X.pn ++ pins))) [] τ6 G6 s6 → (∀ s7, Inv X pins (τ6.set i none) G6 s7 → Q s7) →
              wpAny (model X.prog X.w) X.A (do bindName X.env n .none; unbindBehindTheSuite X.env n p2) (fun _ s7 => Q s7) X.xe s6 := fun {τ6 G6 Q} S6 hq => gone_ok (S6.unsuite okk) nd at_ lo hq
          cases fl with
          | ret u =>
            obtain ⟨v6, τ6, G6, S6, r6, q6⟩ := endd
            exact gone S6 fun s7 J7 => ⟨_, _, _, J7, r6, q6⟩
          | next =>
            obtain ⟨τ6, G6, S6, q6⟩ := endd
            exact gone S6 fun s7 J7 => ⟨_, _, J7, q6⟩
          | brk =>
            obtain ⟨τ6, G6, S6, q6⟩ := endd
            exact gone S6 fun s7 J7 => ⟨_, _, J7, q6⟩
          | cont =>
            obtain ⟨τ6, G6, S6, q6⟩ := endd
            exact gone S6 fun s7 J7 => ⟨_, _, J7, q6⟩
      | @bare x cl t b bs p1 p2 hs2 l2 nm suite rest ih =>
        intro wish
        obtain ⟨yes, ask, onYes, onNo⟩ := wish
        refine wpAny_handleBy_cons (codeAny_handlers_test ?_) (by intro q; cases q)
        have kind : PySem.W.Looks (model X.prog X.w) g3 (typeOf (.ref z)) cls := fun A Q E s5 k q => wpAny_typeOf_ref (k _ _ e3) (by rw [z3.1]; exact q)
        have met := PySem.W.exm_one (M := model X.prog X.w) K3.kIn kind ask
        have tst : ∀ {Q E : Value → Shared → Prop}, Q cl { s1 with heap := g3 } → wpAny (model X.prog X.w) (X.A.mark (some (.ref z))) (eval (.Name x p1) X.env) Q E { s1 with heap := g3 } := fun {Q E} q => by
          obtain ⟨hg, hdb, hm | ⟨hm, hv, hn⟩⟩ := nm
          · exact ld_glob (X := X.suite z ((z, o3) :: (X.pn ++ pins))) S3 hg hm q hdb
          · exact ld_blt (X := X.suite z ((z, o3) :: (X.pn ++ pins))) S3 hg hm hv q hn hdb
        refine tst (met.here ?_)
        cases yes with
        | false => exact ih (onNo rfl)
        | true =>
          refine codeAny_handlers_suite (HandSPX.lands_againZ fly3 fun g4 fly4 up4 => ?_)
          have K4 : Inv X pins τ G { s1 with heap := g4 } := J.landed nb fly4.1 ((up.trans up3).trans up4) hos hag
          obtain ⟨o4, f4, e4, z4, d4⟩ := fly4.there
          refine wpAny_mono ((suite z o4 cls d (X.pn ++ pins) z4 ⟨_, d4⟩).run [] _ _ G _ (K4.suite e4 d4 nz zl zf) (onYes rfl z nz)) (fun fl s6 endd => ?_) (fun _ _ q => q.elim)
          cases fl with
          | ret u =>
            obtain ⟨v6, τ6, G6, S6, r6, q6⟩ := endd
            exact ⟨_, _, _, S6.unsuite okk, r6, q6⟩
          | next =>
            obtain ⟨τ6, G6, S6, q6⟩ := endd
            exact ⟨_, _, S6.unsuite okk, q6⟩
          | brk =>
            obtain ⟨τ6, G6, S6, q6⟩ := endd
            exact ⟨_, _, S6.unsuite okk, q6⟩
          | cont =>
            obtain ⟨τ6, G6, S6, q6⟩ := endd
            exact ⟨_, _, S6.unsuite okk, q6⟩
    exact walk cs wish
  · cases fl with
    | ret u =>
      obtain ⟨v, τ, G, JJ, r, q⟩ := endd
      exact ⟨v, τ, G, JJ.ofTry okk, r, q⟩
    | next =>
      obtain ⟨τ, G, JJ, q⟩ := endd
      exact ho.run pins s1 τ G D (JJ.ofTry okk) q
    | brk =>
      obtain ⟨τ, G, JJ, q⟩ := endd
      exact ⟨τ, G, JJ.ofTry okk, q⟩
    | cont =>
      obtain ⟨τ, G, JJ, q⟩ := endd
      exact ⟨τ, G, JJ.ofTry okk, q⟩
end
/-! ### isinstance of an instance -/
def insB (K : Fg) (C : Addr) : Bool := decide (PySem.W.findIn K (.ref C) "__class__" = some (some (.builtin "object.__class__"))) && (decide (PySem.W.specialIn K (.builtin "object.__class__") "__get__" = some (some (.builtin "getset_descriptor.__get__"))) &&
  (decide (PySem.W.takesIn K (.builtin "object.__class__") = some true) && decide (PySem.W.mroIn K C (.type "object") = some true)))
structure InsC (K : Fg) (C : Addr) : Prop where
  ha : PySem.W.findIn K (.ref C) "__class__" = some (some (.builtin "object.__class__"))
  hn : PySem.W.specialIn K (.builtin "object.__class__") "__get__" = some (some (.builtin "getset_descriptor.__get__"))
  ht : PySem.W.takesIn K (.builtin "object.__class__") = some true
  hm : PySem.W.mroIn K C (.type "object") = some true
theorem insB_ok {K : Fg} {C : Addr} (h : insB K C = true) : InsC K C := by
  unfold insB at h
  simp only [Bool.and_eq_true, decide_eq_true_eq] at h
  exact ⟨h.1, h.2.1, h.2.2.1, h.2.2.2⟩
theorem tyX_ins {K : Fg} {H : Hp} {a C dx : Addr} {fs : List (Str × V)} (e : H a = some (.ins C dx fs)) (c : Cls K C) (i : InsC K C) : TyX K H (.ref a) (.ref C) := .base (.ins e c i.ha i.hn i.ht i.hm)
theorem rmd : (∀ K m L E ta t σ H Q, tMthD K m L E ta t σ H Q = ta σ H fun x H1 => ∃ (a : Addr) (C : Str) (sp : Sp) (dx : Addr) (fs : List (Str × V)), x = .ref a ∧ (C, sp) ∈ L ∧ H1 a = some (.ins (He.ga K C) dx fs) ∧ fs.lookup m = none ∧ t σ H1 fun vs H2 => sp (x :: vs) H2 Q (E σ)) := fun _ _ _ _ _ _ _ _ _ => rfl
end Sw

/-! repr of data: lists, tuples, empty dicts, at any depth; the text by its data. -/
namespace Sw
open PySem PySem.Spec PyProof.Rows L2
/-- v is d, k deep at most, with a text of n signs at most -/
inductive Dq (K : Fg) (H : Hp) : V → PyData → Nat → Nat → Prop
  | non {k : Nat} : Dq K H .non .none k 4
  | bl {k : Nat} (b : Bool) : Dq K H (.bl b) (.bool b) k 5
  | int {k : Nat} (i : Int) : i.natAbs.log2 < 1920 → Dq K H (.int i) (.int i) k 1921
  | str {k : Nat} (x : Str) : PyData.strOk x = true → Dq K H (.str x) (.str x) k (10 * x.length + 2)
  | lst {a : Addr} {xs : List V} {ds : List PyData} {k n : Nat} : SqL K H a xs → H a ≠ none → xs.length = ds.length → (∀ (i : Nat) (x : V) (d : PyData), xs[i]? = some x → ds[i]? = some d → Dq K H x d k n) → Dq K H (.ref a) (.list ds) (k + 1) (ds.length * (n + 2) + 3)
  | tup {a : Addr} {xs : List V} {ds : List PyData} {k n : Nat} : SqT K H a xs → xs.length = ds.length → (∀ (i : Nat) (x : V) (d : PyData), xs[i]? = some x → ds[i]? = some d → Dq K H x d k n) → Dq K H (.ref a) (.tuple ds) (k + 1) (ds.length * (n + 2) + 3)
  | dic {a : Addr} {k : Nat} : H a = some (.dK []) → Dq K H (.ref a) (.dict []) (k + 1) 3
  | up {v : V} {d : PyData} {k n m : Nat} : Dq K H v d k n → n ≤ m → Dq K H v d k m
theorem Dq.same {K : Fg} {H H' : Hp} (s : Same H H') {v : V} {d : PyData} {k n : Nat} (h : Dq K H v d k n) : Dq K H' v d k n := by
  induction h with
  | non => exact .non
  | bl b => exact .bl b
  | int i h => exact .int i h
  | str x h => exact .str x h
  | lst h1 h2 h3 _ ih => exact .lst (h1.imp (fun r => r.imp (s _ _) fun ⟨o, e⟩ => ⟨o, s _ _ e⟩) id) (fun e => h2 (Option.eq_none_iff_forall_ne_some.mpr fun o z => by rw [s _ _ z] at e; cases e)) h3 ih
  | tup h1 h3 _ ih => exact .tup (h1.imp (fun r => r.imp (s _ _) fun ⟨o, e⟩ => ⟨o, s _ _ e⟩) id) h3 ih
  | dic h => exact .dic (s _ _ h)
  | up _ h ih => exact .up ih h
theorem sum_le {n : Nat} : ∀ {l : List Nat}, (∀ x ∈ l, x ≤ n) → l.sum ≤ l.length * n
  | [], _ => by simp
  | a :: r, h => by
    have h1 := h a (by simp)
    have h2 := sum_le (l := r) fun x hx => h x (List.mem_cons_of_mem _ hx)
    rw [List.sum_cons, List.length_cons, Nat.add_mul]
    omega
theorem shownAll_eq : ∀ ds : List PyData, PyData.shownAll ds = ds.map PyData.shown
  | [] => rfl
  | d :: ds => by rw [PyData.shownAll, shownAll_eq ds, List.map_cons]
theorem showableAll_of : ∀ {ds : List PyData}, (∀ d ∈ ds, d.showable = true) → PyData.showableAll ds = true
  | [], _ => rfl
  | d :: ds, h => by rw [PyData.showableAll, h d (by simp), showableAll_of (ds := ds) fun x hx => h x (List.mem_cons_of_mem _ hx)]; rfl
theorem depthAll_le {k : Nat} : ∀ {ds : List PyData}, (∀ d ∈ ds, d.depth ≤ k) → PyData.depthAll ds ≤ k
  | [], _ => Nat.zero_le _
  | d :: ds, h => by
    have h1 := h d (by simp)
    have h2 := depthAll_le (ds := ds) fun x hx => h x (List.mem_cons_of_mem _ hx)
    simp only [PyData.depthAll]
    omega
theorem mem_both {xs : List V} {ds : List PyData} (hl : xs.length = ds.length) {P : PyData → Prop} (h : ∀ (i : Nat) (x : V) (d : PyData), xs[i]? = some x → ds[i]? = some d → P d) : ∀ d ∈ ds, P d := fun d hd => by
  obtain ⟨i, hi, e⟩ := List.mem_iff_getElem.mp hd
  have hx : i < xs.length := by rw [hl]; exact hi
  exact h i xs[i] d (List.getElem?_eq_getElem hx) (by rw [List.getElem?_eq_getElem hi, e])
theorem Dq.ok {K : Fg} {H : Hp} {v : V} {d : PyData} {k n : Nat} (h : Dq K H v d k n) : d.showable = true ∧ d.depth ≤ k ∧ d.shown.length ≤ n := by
  induction h with
  | non => exact ⟨rfl, Nat.zero_le _, by decide⟩
  | bl b => exact ⟨rfl, Nat.zero_le _, by cases b <;> decide⟩
  | int i hi =>
    refine ⟨decide_eq_true hi, Nat.zero_le _, ?_⟩
    show (Str.ofString (toString i)).length ≤ _
    rw [PySem.ofString_length]
    exact int_text_length_le (by decide) hi
  | str x hx =>
    refine ⟨rfl, Nat.zero_le _, ?_⟩
    refine StrLaws.reprText_len x fun c hc => ?_
    have h1 : x.cps.toList.all (fun c => decide (c < 0x110000)) = true := by rw [Array.all_toList]; exact hx
    have h2 := of_decide_eq_true (List.all_eq_true.mp h1 c hc)
    exact Nat.lt_trans h2 (by decide)
  | lst hs ha hl _ ih =>
    have m := mem_both hl ih
    refine ⟨showableAll_of fun d hd => (m d hd).1, ?_, ?_⟩
    · have := depthAll_le fun d hd => (m d hd).2.1
      simp only [PyData.depth]
      omega
    · simp only [PyData.shown, shownAll_eq]
      refine Nat.le_trans (listText_len_le _) ?_
      have := sum_le (l := ((_ : List PyData).map PyData.shown).map (·.length)) fun x hx => by
        obtain ⟨t, ht, rfl⟩ := List.mem_map.mp hx
        obtain ⟨d, hd, rfl⟩ := List.mem_map.mp ht
        exact (m d hd).2.2
      rw [List.length_map, List.length_map] at this
      rw [List.length_map, Nat.mul_add]
      omega
  | tup hs hl _ ih =>
    have m := mem_both hl ih
    refine ⟨showableAll_of fun d hd => (m d hd).1, ?_, ?_⟩
    · have := depthAll_le fun d hd => (m d hd).2.1
      simp only [PyData.depth]
      omega
    · simp only [PyData.shown, shownAll_eq]
      refine Nat.le_trans (tupleText_len_le _) ?_
      have := sum_le (l := ((_ : List PyData).map PyData.shown).map (·.length)) fun x hx => by
        obtain ⟨t, ht, rfl⟩ := List.mem_map.mp hx
        obtain ⟨d, hd, rfl⟩ := List.mem_map.mp ht
        exact (m d hd).2.2
      rw [List.length_map, List.length_map] at this
      rw [List.length_map, Nat.mul_add]
      omega
  | dic hd => exact ⟨rfl, by simp only [PyData.depth, PyData.depthKv]; omega, by decide⟩
  | up _ hm ih => exact ⟨ih.1, ih.2.1, Nat.le_trans ih.2.2 hm⟩
theorem readsAll_of {h : Heap} {P : List Addr → Prop} (p0 : P []) (pa : ∀ a b, P a → P b → P (a ++ b)) : ∀ {us : List Value} {ds : List PyData}, us.length = ds.length → (∀ (i : Nat) (u : Value) (d : PyData), us[i]? = some u → ds[i]? = some d → ∃ as, Reads h u d as ∧ P as) → ∃ as, ReadsAll h us ds as ∧ P as
  | [], [], _, _ => ⟨[], .nil, p0⟩
  | [], _ :: _, e, _ => by cases e
  | _ :: _, [], e, _ => by cases e
  | u :: us, d :: ds, e, H => by
    obtain ⟨as, h1, n1⟩ := H 0 u d rfl rfl
    obtain ⟨bs, h2, n2⟩ := readsAll_of (us := us) (ds := ds) p0 pa (Nat.succ.inj e) fun i x y hx hy => H (i + 1) x y hx hy
    exact ⟨as ++ bs, .cons h1 h2, pa _ _ n1 n2⟩
section
variable {X : Cx} {pins : List (Addr × Obj)} {σ : L2.St} {H : Hp} {s : Shared}
theorem Dq.reads (sm : (X.K.lookup PySem.sysModules).isSome = true) (I : Inv X pins σ H s) {v : V} {d : PyData} {k n : Nat} (h : Dq X.K H v d k n) : ∀ {u : Value}, RelV v u → ∃ as, Reads s.heap u d as ∧ PySem.sysModules ∉ as := by
  have no1 : H PySem.sysModules = none := by
    obtain ⟨o, e⟩ := Option.isSome_iff_exists.mp sm
    exact (I.bs _ o (I.ok.mod.kin _ _ e)).2
  have ap : ∀ a b : List Addr, PySem.sysModules ∉ a → PySem.sysModules ∉ b → PySem.sysModules ∉ a ++ b := fun a b h1 h2 h => (List.mem_append.mp h).elim h1 h2
  have rel : ∀ {xs : List V} {its : List Value} {ds : List PyData} {k n : Nat}, xs.length = ds.length → (∀ (i : Nat) (x : V) (d : PyData), xs[i]? = some x → ds[i]? = some d → ∀ {u : Value}, RelV x u → ∃ as, Reads s.heap u d as ∧ PySem.sysModules ∉ as) → Vals xs its → ∃ as, ReadsAll s.heap its ds as ∧ PySem.sysModules ∉ as := by
    intro xs its ds k n hl ih rv
    refine readsAll_of (by simp) ap (by rw [← rv.length, hl]) fun i u d hu hd => ?_
    have hi : i < xs.length := by
      have := (List.getElem?_eq_some_iff.mp hd).1
      omega
    obtain ⟨u2, e2, r2⟩ := rv.get (List.getElem?_eq_getElem hi)
    rw [hu] at e2
    cases e2
    exact ih i xs[i] d (List.getElem?_eq_getElem hi) hd r2
  induction h with
  | non => intro u r; cases r; exact ⟨_, .none, by simp⟩
  | bl b => intro u r; cases r; exact ⟨_, .bool b, by simp⟩
  | int i _ => intro u r; obtain ⟨t, rfl⟩ := r; exact ⟨_, .int i t, by simp⟩
  | str x _ => intro u r; obtain ⟨t, rfl⟩ := r; exact ⟨_, .str x t, by simp⟩
  | @lst a xs ds k n hs ha hl _ ih =>
    intro u r
    cases r
    obtain ⟨its, rv, ⟨o, m, ho, hc, _, hd⟩, _⟩ := I.list hs
    obtain ⟨as, h1, h2⟩ := rel (k := k) (n := n) hl ih rv
    refine ⟨_, .list ho hc hd h1, fun hm => ?_⟩
    rcases List.mem_cons.mp hm with e | hm
    · rw [← e] at ha
      exact ha no1
    · exact h2 hm
  | @tup a xs ds k n hs hl _ ih =>
    intro u r
    cases r
    obtain ⟨its, rv, ⟨o, ho, hc, m, hd⟩, _⟩ := I.tuple hs
    obtain ⟨as, h1, h2⟩ := rel (k := k) (n := n) hl ih rv
    exact ⟨_, .tuple ho hc hd h1, h2⟩
  | @dic a k hd =>
    intro u r
    cases r
    obtain ⟨_, na, vs, rk, o, es, ep, h1, h2, h3, h4, h5, _⟩ := (show ObjOk X.prog X.w H s.heap a (.dK []) from I.hok a _ hd)
    cases rk
    have e0 : es.toList = [] := by
      generalize es.toList = l at h5
      cases h5
      rfl
    refine ⟨_, .dict (as := []) (bs := []) h1 h2.1 h3 (by rw [e0]; exact .nil) (by rw [e0]; exact .nil), fun hm => ?_⟩
    have e : PySem.sysModules = a := by simpa using hm
    rw [← e] at na
    exact absurd na (by decide)
  | up _ _ ih => exact ih
/-- repr(x), x data -/
def rRep (K : Fg) : List V → Hp → VK → Prop := fun vs H Q => ∃ x d k n, vs = [x] ∧ Dq K H x d k n ∧ k ≤ 50 ∧ n ≤ 2 ^ 24 ∧ Q (.str d.shown) H
theorem call_repr {X : Cx} {K : Fg} (hK : X.K = K) (sm : (K.lookup PySem.sysModules).isSome = true) (gd : X.A.guards = some []) (hu : X.A.units + 64 < cLine) : CallR X (.builtin "repr") (rRep K) := by
  subst hK
  intro pins s σ H xs us Q I r h
  obtain ⟨x, d, k, n, rfl, hd, hk, hn, q⟩ := h
  obtain ⟨h1, h2, h3⟩ := hd.ok
  have len : d.shown.length ≤ sizeLine := Nat.le_trans h3 (show n ≤ sizeLine from hn)
  cases r with
  | cons r1 r2 =>
    cases r2
    rename_i u
    obtain ⟨as, rd, nm⟩ := hd.reads sm I r1
    cases rd with
    | none => exact PySem.P.repr_of_none ⟨.str _, H, I.tok _, ⟨_, rfl⟩, q⟩
    | bool b => exact PySem.P.repr_of_bool ⟨.str _, H, I.tok _, ⟨_, rfl⟩, q⟩
    | int i t => exact PySem.P.repr_of_int (of_decide_eq_true h1) ⟨.str _, H, I.tok _, ⟨_, rfl⟩, q⟩
    | str x t => exact PySem.P.repr_of_str ⟨.str _, H, I.tok _, ⟨_, rfl⟩, q⟩ len
    | list a b c e => exact repr_of_reads' (.list a b c e) h1 (fun _ => nm) gd (by omega) (fun _ _ z => z) (fun h' u tk hk => ⟨.str _, H, I.kept (t' := tk) hk, ⟨_, rfl⟩, q⟩) len
    | tuple a b c e => exact repr_of_reads' (.tuple a b c e) h1 (fun _ => nm) gd (by omega) (fun _ _ z => z) (fun h' u tk hk => ⟨.str _, H, I.kept (t' := tk) hk, ⟨_, rfl⟩, q⟩) len
    | dict a b c e f => exact repr_of_reads' (.dict a b c e f) h1 (fun _ => nm) gd (by omega) (fun _ _ z => z) (fun h' u tk hk => ⟨.str _, H, I.kept (t' := tk) hk, ⟨_, rfl⟩, q⟩) len
/-- the two ways of a statement meet: what the rest wants is shown once -/
theorem seqJ {t u : TS} {D : Ends} {σ : L2.St} {H : Hp} (S : L2.St → Hp → Prop) (tl : ∀ σ' H', S σ' H' → u D σ' H') (h : ∀ r : L2.St → Hp → Prop, (∀ σ' H', S σ' H' → r σ' H') → t ⟨r, D.rt, D.bk, D.ct⟩ σ H) : tSeq t u D σ H := h (u D) tl
theorem rrp : (∀ K vs H Q, rRep K vs H Q = ∃ x d k n, vs = [x] ∧ Dq K H x d k n ∧ k ≤ 50 ∧ n ≤ 2 ^ 24 ∧ Q (.str d.shown) H) := fun _ _ _ _ => rfl
end
end Sw

namespace Law
open PySem PySem.Spec PyProof.Rows L2 Sw
def top (i : Nat) : Stmt := PySem.Challenge.pw_splitwide_k62_pairs_and_rows.main.body.getD i (.Pass ⟨0, 0, 0, 0⟩)
abbrev s_is_whole : Stmt := top 9
abbrev nm_is_whole : List Str := ["thing"]
theorem sc_is_whole : FnScope nm_is_whole ["thing"] (defScope s_is_whole) := ⟨rfl, rfl, rfl, by decide +kernel, rfl, by decide +kernel, by decide +kernel⟩
abbrev s_is_within : Stmt := top 10
abbrev nm_is_within : List Str := ["thing", "low", "high"]
theorem sc_is_within : FnScope nm_is_within ["thing", "low", "high"] (defScope s_is_within) := ⟨rfl, rfl, rfl, by decide +kernel, rfl, by decide +kernel, by decide +kernel⟩
abbrev s_product : Stmt := top 12
abbrev nm_product : List Str := ["bases", "found", "base"]
theorem sc_product : FnScope nm_product ["bases"] (defScope s_product) := ⟨rfl, rfl, rfl, by decide +kernel, rfl, by decide +kernel, by decide +kernel⟩
abbrev s_unmixed : Stmt := top 13
abbrev nm_unmixed : List Str := ["number", "bases", "found", "base", "rest"]
theorem sc_unmixed : FnScope nm_unmixed ["number", "bases"] (defScope s_unmixed) := ⟨rfl, rfl, rfl, by decide +kernel, rfl, by decide +kernel, by decide +kernel⟩
abbrev s_products_to : Stmt := top 16
abbrev nm_products_to : List Str := ["many", "found", "k"]
theorem sc_products_to : FnScope nm_products_to ["many"] (defScope s_products_to) := ⟨rfl, rfl, rfl, by decide +kernel, rfl, by decide +kernel, by decide +kernel⟩
abbrev s_orders_many : Stmt := top 17
abbrev nm_orders_many : List Str := ["many"]
theorem sc_orders_many : FnScope nm_orders_many ["many"] (defScope s_orders_many) := ⟨rfl, rfl, rfl, by decide +kernel, rfl, by decide +kernel, by decide +kernel⟩
abbrev s_order_at : Stmt := top 18
abbrev nm_order_at : List Str := ["many", "rank", "sizes", "left", "found", "k", "at"]
theorem sc_order_at : FnScope nm_order_at ["many", "rank"] (defScope s_order_at) := ⟨rfl, rfl, rfl, by decide +kernel, rfl, by decide +kernel, by decide +kernel⟩
abbrev s_need_many : Stmt := top 21
abbrev nm_need_many : List Str := ["many"]
theorem sc_need_many : FnScope nm_need_many ["many"] (defScope s_need_many) := ⟨rfl, rfl, rfl, by decide +kernel, rfl, by decide +kernel, by decide +kernel⟩
abbrev s_ways : Stmt := top 22
abbrev nm_ways : List Str := ["many", "size", "found", "k"]
theorem sc_ways : FnScope nm_ways ["many", "size"] (defScope s_ways) := ⟨rfl, rfl, rfl, by decide +kernel, rfl, by decide +kernel, by decide +kernel⟩
abbrev s_sets_many : Stmt := top 23
abbrev nm_sets_many : List Str := ["many", "size"]
theorem sc_sets_many : FnScope nm_sets_many ["many", "size"] (defScope s_sets_many) := ⟨rfl, rfl, rfl, by decide +kernel, rfl, by decide +kernel, by decide +kernel⟩
abbrev s_set_at : Stmt := top 24
abbrev nm_set_at : List Str := ["many", "size", "rank", "found", "one", "behind"]
theorem sc_set_at : FnScope nm_set_at ["many", "size", "rank"] (defScope s_set_at) := ⟨rfl, rfl, rfl, by decide +kernel, rfl, by decide +kernel, by decide +kernel⟩
abbrev s_need_shares : Stmt := top 28
abbrev nm_need_shares : List Str := ["thing", "share"]
theorem sc_need_shares : FnScope nm_need_shares ["thing"] (defScope s_need_shares) := ⟨rfl, rfl, rfl, by decide +kernel, rfl, by decide +kernel, by decide +kernel⟩
abbrev s_shares_many : Stmt := top 29
abbrev nm_shares_many : List Str := ["shares"]
theorem sc_shares_many : FnScope nm_shares_many ["shares"] (defScope s_shares_many) := ⟨rfl, rfl, rfl, by decide +kernel, rfl, by decide +kernel, by decide +kernel⟩
abbrev s_parted_at : Stmt := top 30
abbrev nm_parted_at : List Str := ["shares", "number", "at"]
theorem sc_parted_at : FnScope nm_parted_at ["shares", "number"] (defScope s_parted_at) := ⟨rfl, rfl, rfl, by decide +kernel, rfl, by decide +kernel, by decide +kernel⟩
abbrev s_share_at : Stmt := top 31
abbrev nm_share_at : List Str := ["shares", "number"]
theorem sc_share_at : FnScope nm_share_at ["shares", "number"] (defScope s_share_at) := ⟨rfl, rfl, rfl, by decide +kernel, rfl, by decide +kernel, by decide +kernel⟩
abbrev s_need_number : Stmt := top 38
abbrev nm_need_number : List Str := ["thing", "low", "high"]
theorem sc_need_number : FnScope nm_need_number ["thing", "low", "high"] (defScope s_need_number) := ⟨rfl, rfl, rfl, by decide +kernel, rfl, by decide +kernel, by decide +kernel⟩
abbrev s_need_shape : Stmt := top 44
abbrev nm_need_shape : List Str := ["thing"]
theorem sc_need_shape : FnScope nm_need_shape ["thing"] (defScope s_need_shape) := ⟨rfl, rfl, rfl, by decide +kernel, rfl, by decide +kernel, by decide +kernel⟩
abbrev s__law_cell_at : Stmt := top 48
abbrev nm__law_cell_at : List Str := ["script", "k"]
theorem sc__law_cell_at : FnScope nm__law_cell_at ["script", "k"] (defScope s__law_cell_at) := ⟨rfl, rfl, rfl, by decide +kernel, rfl, by decide +kernel, by decide +kernel⟩
abbrev s__law_box : Stmt := top 49
abbrev nm__law_box : List Str := ["cell"]
theorem sc__law_box : FnScope nm__law_box ["cell"] (defScope s__law_box) := ⟨rfl, rfl, rfl, by decide +kernel, rfl, by decide +kernel, by decide +kernel⟩
abbrev s__law_take : Stmt := top 50
abbrev nm__law_take : List Str := ["box", "many", "number"]
theorem sc__law_take : FnScope nm__law_take ["box", "many"] (defScope s__law_take) := ⟨rfl, rfl, rfl, by decide +kernel, rfl, by decide +kernel, by decide +kernel⟩
abbrev s__law_is_whole : Stmt := top 51
abbrev nm__law_is_whole : List Str := ["thing"]
theorem sc__law_is_whole : FnScope nm__law_is_whole ["thing"] (defScope s__law_is_whole) := ⟨rfl, rfl, rfl, by decide +kernel, rfl, by decide +kernel, by decide +kernel⟩
abbrev s__law_orders : Stmt := top 52
abbrev nm__law_orders : List Str := ["many", "found", "k"]
theorem sc__law_orders : FnScope nm__law_orders ["many"] (defScope s__law_orders) := ⟨rfl, rfl, rfl, by decide +kernel, rfl, by decide +kernel, by decide +kernel⟩
abbrev s__law_sets : Stmt := top 53
abbrev nm__law_sets : List Str := ["many", "size", "found", "k"]
theorem sc__law_sets : FnScope nm__law_sets ["many", "size"] (defScope s__law_sets) := ⟨rfl, rfl, rfl, by decide +kernel, rfl, by decide +kernel, by decide +kernel⟩
abbrev s__law_total : Stmt := top 54
abbrev nm__law_total : List Str := ["told", "found", "k"]
theorem sc__law_total : FnScope nm__law_total ["told"] (defScope s__law_total) := ⟨rfl, rfl, rfl, by decide +kernel, rfl, by decide +kernel, by decide +kernel⟩
abbrev s__law_shape : Stmt := top 55
abbrev nm__law_shape : List Str := ["told"]
theorem sc__law_shape : FnScope nm__law_shape ["told"] (defScope s__law_shape) := ⟨rfl, rfl, rfl, by decide +kernel, rfl, by decide +kernel, by decide +kernel⟩
abbrev s__law_portions : Stmt := top 56
abbrev nm__law_portions : List Str := ["box", "most", "left", "found", "k", "share"]
theorem sc__law_portions : FnScope nm__law_portions ["box", "most"] (defScope s__law_portions) := ⟨rfl, rfl, rfl, by decide +kernel, rfl, by decide +kernel, by decide +kernel⟩
abbrev s__law_simple : Stmt := top 57
abbrev nm__law_simple : List Str := ["box", "most", "way", "many", "size"]
theorem sc__law_simple : FnScope nm__law_simple ["box", "most"] (defScope s__law_simple) := ⟨rfl, rfl, rfl, by decide +kernel, rfl, by decide +kernel, by decide +kernel⟩
abbrev s__law_weight : Stmt := top 58
abbrev nm__law_weight : List Str := ["told"]
theorem sc__law_weight : FnScope nm__law_weight ["told"] (defScope s__law_weight) := ⟨rfl, rfl, rfl, by decide +kernel, rfl, by decide +kernel, by decide +kernel⟩
abbrev s__law_told : Stmt := top 59
abbrev nm__law_told : List Str := ["box", "room", "most", "way", "one", "other", "many"]
theorem sc__law_told : FnScope nm__law_told ["box", "room", "most"] (defScope s__law_told) := ⟨rfl, rfl, rfl, by decide +kernel, rfl, by decide +kernel, by decide +kernel⟩
abbrev s__law_order : Stmt := top 60
abbrev nm__law_order : List Str := ["many", "rank", "left", "found", "k", "share"]
theorem sc__law_order : FnScope nm__law_order ["many", "rank"] (defScope s__law_order) := ⟨rfl, rfl, rfl, by decide +kernel, rfl, by decide +kernel, by decide +kernel⟩
abbrev s__law_set : Stmt := top 61
abbrev nm__law_set : List Str := ["many", "size", "rank", "found", "one", "share"]
theorem sc__law_set : FnScope nm__law_set ["many", "size", "rank"] (defScope s__law_set) := ⟨rfl, rfl, rfl, by decide +kernel, rfl, by decide +kernel, by decide +kernel⟩
abbrev s__law_share : Stmt := top 62
abbrev nm__law_share : List Str := ["portions", "number", "at"]
theorem sc__law_share : FnScope nm__law_share ["portions", "number"] (defScope s__law_share) := ⟨rfl, rfl, rfl, by decide +kernel, rfl, by decide +kernel, by decide +kernel⟩
abbrev s__law_outcome : Stmt := top 63
abbrev nm__law_outcome : List Str := ["told", "number", "share", "found", "k"]
theorem sc__law_outcome : FnScope nm__law_outcome ["told", "number"] (defScope s__law_outcome) := ⟨rfl, rfl, rfl, by decide +kernel, rfl, by decide +kernel, by decide +kernel⟩
abbrev s__law_same : Stmt := top 64
abbrev nm__law_same : List Str := ["found", "due", "k"]
theorem sc__law_same : FnScope nm__law_same ["found", "due"] (defScope s__law_same) := ⟨rfl, rfl, rfl, by decide +kernel, rfl, by decide +kernel, by decide +kernel⟩
abbrev s__law_height : Stmt := top 65
abbrev nm__law_height : List Str := ["told"]
theorem sc__law_height : FnScope nm__law_height ["told"] (defScope s__law_height) := ⟨rfl, rfl, rfl, by decide +kernel, rfl, by decide +kernel, by decide +kernel⟩
abbrev s__law_numbers : Stmt := top 66
abbrev nm__law_numbers : List Str := ["box", "total"]
theorem sc__law_numbers : FnScope nm__law_numbers ["box", "total"] (defScope s__law_numbers) := ⟨rfl, rfl, rfl, by decide +kernel, rfl, by decide +kernel, by decide +kernel⟩
abbrev s__law_right : Stmt := top 67
abbrev nm__law_right : List Str := ["shape", "told", "numbers", "number"]
theorem sc__law_right : FnScope nm__law_right ["shape", "told", "numbers"] (defScope s__law_right) := ⟨rfl, rfl, rfl, by decide +kernel, rfl, by decide +kernel, by decide +kernel⟩
abbrev s__law_refused : Stmt := top 68
abbrev nm__law_refused : List Str := ["shape", "thing", "e"]
theorem sc__law_refused : FnScope nm__law_refused ["shape", "thing"] (defScope s__law_refused) := ⟨rfl, rfl, rfl, by decide +kernel, rfl, by decide +kernel, by decide +kernel⟩
abbrev s__law_refused_right : Stmt := top 69
abbrev nm__law_refused_right : List Str := ["box", "shape", "total", "some", "turn", "thing", "found"]
theorem sc__law_refused_right : FnScope nm__law_refused_right ["box", "shape", "total"] (defScope s__law_refused_right) := ⟨rfl, rfl, rfl, by decide +kernel, rfl, by decide +kernel, by decide +kernel⟩
abbrev s__law_made : Stmt := top 70
abbrev nm__law_made : List Str := ["box", "most", "one", "way", "other", "many"]
theorem sc__law_made : FnScope nm__law_made ["box", "most"] (defScope s__law_made) := ⟨rfl, rfl, rfl, by decide +kernel, rfl, by decide +kernel, by decide +kernel⟩
abbrev s_law : Stmt := top 71
abbrev nm_law : List Str := ["script", "k", "box", "most", "told", "inner", "shape", "numbers", "beside", "one", "its"]
theorem sc_law : FnScope nm_law ["script"] (defScope s_law) := ⟨rfl, rfl, rfl, by decide +kernel, rfl, by decide +kernel, by decide +kernel⟩
abbrev s_Below_init : Stmt := inClass (top 40) 0
abbrev nm_Below_init : List Str := ["self", "bound"]
theorem sc_Below_init : FnScope nm_Below_init ["self", "bound"] (defScope s_Below_init) := ⟨rfl, rfl, rfl, by decide +kernel, rfl, by decide +kernel, by decide +kernel⟩
abbrev s_sinit_Below : Stmt := inClass (top 39) 0
abbrev nm_sinit_Below : List Str := ["self", "whole", "tallness"]
theorem sc_sinit_Below : FnScope nm_sinit_Below ["self", "whole", "tallness"] (defScope s_sinit_Below) := ⟨rfl, rfl, rfl, by decide +kernel, rfl, by decide +kernel, by decide +kernel⟩
abbrev s_Below_numbers : Stmt := inClass (top 39) 1
abbrev nm_Below_numbers : List Str := ["self"]
theorem sc_Below_numbers : FnScope nm_Below_numbers ["self"] (defScope s_Below_numbers) := ⟨rfl, rfl, rfl, by decide +kernel, rfl, by decide +kernel, by decide +kernel⟩
abbrev s_Below_height : Stmt := inClass (top 39) 2
abbrev nm_Below_height : List Str := ["self"]
theorem sc_Below_height : FnScope nm_Below_height ["self"] (defScope s_Below_height) := ⟨rfl, rfl, rfl, by decide +kernel, rfl, by decide +kernel, by decide +kernel⟩
abbrev s_Shares_init : Stmt := inClass (top 41) 0
abbrev nm_Shares_init : List Str := ["self", "shares"]
theorem sc_Shares_init : FnScope nm_Shares_init ["self", "shares"] (defScope s_Shares_init) := ⟨rfl, rfl, rfl, by decide +kernel, rfl, by decide +kernel, by decide +kernel⟩
abbrev s_sinit_Shares : Stmt := inClass (top 39) 0
abbrev nm_sinit_Shares : List Str := ["self", "whole", "tallness"]
theorem sc_sinit_Shares : FnScope nm_sinit_Shares ["self", "whole", "tallness"] (defScope s_sinit_Shares) := ⟨rfl, rfl, rfl, by decide +kernel, rfl, by decide +kernel, by decide +kernel⟩
abbrev s_Shares_numbers : Stmt := inClass (top 39) 1
abbrev nm_Shares_numbers : List Str := ["self"]
theorem sc_Shares_numbers : FnScope nm_Shares_numbers ["self"] (defScope s_Shares_numbers) := ⟨rfl, rfl, rfl, by decide +kernel, rfl, by decide +kernel, by decide +kernel⟩
abbrev s_Shares_height : Stmt := inClass (top 39) 2
abbrev nm_Shares_height : List Str := ["self"]
theorem sc_Shares_height : FnScope nm_Shares_height ["self"] (defScope s_Shares_height) := ⟨rfl, rfl, rfl, by decide +kernel, rfl, by decide +kernel, by decide +kernel⟩
abbrev s_Orders_init : Stmt := inClass (top 42) 0
abbrev nm_Orders_init : List Str := ["self", "many"]
theorem sc_Orders_init : FnScope nm_Orders_init ["self", "many"] (defScope s_Orders_init) := ⟨rfl, rfl, rfl, by decide +kernel, rfl, by decide +kernel, by decide +kernel⟩
abbrev s_sinit_Orders : Stmt := inClass (top 39) 0
abbrev nm_sinit_Orders : List Str := ["self", "whole", "tallness"]
theorem sc_sinit_Orders : FnScope nm_sinit_Orders ["self", "whole", "tallness"] (defScope s_sinit_Orders) := ⟨rfl, rfl, rfl, by decide +kernel, rfl, by decide +kernel, by decide +kernel⟩
abbrev s_Orders_numbers : Stmt := inClass (top 39) 1
abbrev nm_Orders_numbers : List Str := ["self"]
theorem sc_Orders_numbers : FnScope nm_Orders_numbers ["self"] (defScope s_Orders_numbers) := ⟨rfl, rfl, rfl, by decide +kernel, rfl, by decide +kernel, by decide +kernel⟩
abbrev s_Orders_height : Stmt := inClass (top 39) 2
abbrev nm_Orders_height : List Str := ["self"]
theorem sc_Orders_height : FnScope nm_Orders_height ["self"] (defScope s_Orders_height) := ⟨rfl, rfl, rfl, by decide +kernel, rfl, by decide +kernel, by decide +kernel⟩
abbrev s_Sets_init : Stmt := inClass (top 43) 0
abbrev nm_Sets_init : List Str := ["self", "many", "size"]
theorem sc_Sets_init : FnScope nm_Sets_init ["self", "many", "size"] (defScope s_Sets_init) := ⟨rfl, rfl, rfl, by decide +kernel, rfl, by decide +kernel, by decide +kernel⟩
abbrev s_sinit_Sets : Stmt := inClass (top 39) 0
abbrev nm_sinit_Sets : List Str := ["self", "whole", "tallness"]
theorem sc_sinit_Sets : FnScope nm_sinit_Sets ["self", "whole", "tallness"] (defScope s_sinit_Sets) := ⟨rfl, rfl, rfl, by decide +kernel, rfl, by decide +kernel, by decide +kernel⟩
abbrev s_Sets_numbers : Stmt := inClass (top 39) 1
abbrev nm_Sets_numbers : List Str := ["self"]
theorem sc_Sets_numbers : FnScope nm_Sets_numbers ["self"] (defScope s_Sets_numbers) := ⟨rfl, rfl, rfl, by decide +kernel, rfl, by decide +kernel, by decide +kernel⟩
abbrev s_Sets_height : Stmt := inClass (top 39) 2
abbrev nm_Sets_height : List Str := ["self"]
theorem sc_Sets_height : FnScope nm_Sets_height ["self"] (defScope s_Sets_height) := ⟨rfl, rfl, rfl, by decide +kernel, rfl, by decide +kernel, by decide +kernel⟩
abbrev s_Pair_init : Stmt := inClass (top 45) 0
abbrev nm_Pair_init : List Str := ["self", "one", "other"]
theorem sc_Pair_init : FnScope nm_Pair_init ["self", "one", "other"] (defScope s_Pair_init) := ⟨rfl, rfl, rfl, by decide +kernel, rfl, by decide +kernel, by decide +kernel⟩
abbrev s_sinit_Pair : Stmt := inClass (top 39) 0
abbrev nm_sinit_Pair : List Str := ["self", "whole", "tallness"]
theorem sc_sinit_Pair : FnScope nm_sinit_Pair ["self", "whole", "tallness"] (defScope s_sinit_Pair) := ⟨rfl, rfl, rfl, by decide +kernel, rfl, by decide +kernel, by decide +kernel⟩
abbrev s_Pair_numbers : Stmt := inClass (top 39) 1
abbrev nm_Pair_numbers : List Str := ["self"]
theorem sc_Pair_numbers : FnScope nm_Pair_numbers ["self"] (defScope s_Pair_numbers) := ⟨rfl, rfl, rfl, by decide +kernel, rfl, by decide +kernel, by decide +kernel⟩
abbrev s_Pair_height : Stmt := inClass (top 39) 2
abbrev nm_Pair_height : List Str := ["self"]
theorem sc_Pair_height : FnScope nm_Pair_height ["self"] (defScope s_Pair_height) := ⟨rfl, rfl, rfl, by decide +kernel, rfl, by decide +kernel, by decide +kernel⟩
abbrev s_Rows_init : Stmt := inClass (top 46) 0
abbrev nm_Rows_init : List Str := ["self", "shape", "many"]
theorem sc_Rows_init : FnScope nm_Rows_init ["self", "shape", "many"] (defScope s_Rows_init) := ⟨rfl, rfl, rfl, by decide +kernel, rfl, by decide +kernel, by decide +kernel⟩
abbrev s_sinit_Rows : Stmt := inClass (top 39) 0
abbrev nm_sinit_Rows : List Str := ["self", "whole", "tallness"]
theorem sc_sinit_Rows : FnScope nm_sinit_Rows ["self", "whole", "tallness"] (defScope s_sinit_Rows) := ⟨rfl, rfl, rfl, by decide +kernel, rfl, by decide +kernel, by decide +kernel⟩
abbrev s_Rows_numbers : Stmt := inClass (top 39) 1
abbrev nm_Rows_numbers : List Str := ["self"]
theorem sc_Rows_numbers : FnScope nm_Rows_numbers ["self"] (defScope s_Rows_numbers) := ⟨rfl, rfl, rfl, by decide +kernel, rfl, by decide +kernel, by decide +kernel⟩
abbrev s_Rows_height : Stmt := inClass (top 39) 2
abbrev nm_Rows_height : List Str := ["self"]
theorem sc_Rows_height : FnScope nm_Rows_height ["self"] (defScope s_Rows_height) := ⟨rfl, rfl, rfl, by decide +kernel, rfl, by decide +kernel, by decide +kernel⟩
abbrev s_Below_outcome_at : Stmt := inClass (top 39) 3
abbrev nm_Below_outcome_at : List Str := ["self", "number"]
theorem sc_Below_outcome_at : FnScope nm_Below_outcome_at ["self", "number"] (defScope s_Below_outcome_at) := ⟨rfl, rfl, rfl, by decide +kernel, rfl, by decide +kernel, by decide +kernel⟩
abbrev s_Below_outcome : Stmt := inClass (top 39) 4
abbrev nm_Below_outcome : List Str := ["self", "number"]
theorem sc_Below_outcome : FnScope nm_Below_outcome ["self", "number"] (defScope s_Below_outcome) := ⟨rfl, rfl, rfl, by decide +kernel, rfl, by decide +kernel, by decide +kernel⟩
abbrev s_Shares_outcome_at : Stmt := inClass (top 41) 1
abbrev nm_Shares_outcome_at : List Str := ["self", "number"]
theorem sc_Shares_outcome_at : FnScope nm_Shares_outcome_at ["self", "number"] (defScope s_Shares_outcome_at) := ⟨rfl, rfl, rfl, by decide +kernel, rfl, by decide +kernel, by decide +kernel⟩
abbrev s_Shares_outcome : Stmt := inClass (top 39) 4
abbrev nm_Shares_outcome : List Str := ["self", "number"]
theorem sc_Shares_outcome : FnScope nm_Shares_outcome ["self", "number"] (defScope s_Shares_outcome) := ⟨rfl, rfl, rfl, by decide +kernel, rfl, by decide +kernel, by decide +kernel⟩
abbrev s_Orders_outcome_at : Stmt := inClass (top 42) 1
abbrev nm_Orders_outcome_at : List Str := ["self", "number"]
theorem sc_Orders_outcome_at : FnScope nm_Orders_outcome_at ["self", "number"] (defScope s_Orders_outcome_at) := ⟨rfl, rfl, rfl, by decide +kernel, rfl, by decide +kernel, by decide +kernel⟩
abbrev s_Orders_outcome : Stmt := inClass (top 39) 4
abbrev nm_Orders_outcome : List Str := ["self", "number"]
theorem sc_Orders_outcome : FnScope nm_Orders_outcome ["self", "number"] (defScope s_Orders_outcome) := ⟨rfl, rfl, rfl, by decide +kernel, rfl, by decide +kernel, by decide +kernel⟩
abbrev s_Sets_outcome_at : Stmt := inClass (top 43) 1
abbrev nm_Sets_outcome_at : List Str := ["self", "number"]
theorem sc_Sets_outcome_at : FnScope nm_Sets_outcome_at ["self", "number"] (defScope s_Sets_outcome_at) := ⟨rfl, rfl, rfl, by decide +kernel, rfl, by decide +kernel, by decide +kernel⟩
abbrev s_Sets_outcome : Stmt := inClass (top 39) 4
abbrev nm_Sets_outcome : List Str := ["self", "number"]
theorem sc_Sets_outcome : FnScope nm_Sets_outcome ["self", "number"] (defScope s_Sets_outcome) := ⟨rfl, rfl, rfl, by decide +kernel, rfl, by decide +kernel, by decide +kernel⟩
abbrev s_Pair_outcome_at_1 : Stmt := inClass (top 45) 1
abbrev nm_Pair_outcome_at_1 : List Str := ["self", "number", "slow", "fast"]
theorem sc_Pair_outcome_at_1 : FnScope nm_Pair_outcome_at_1 ["self", "number"] (defScope s_Pair_outcome_at_1) := ⟨rfl, rfl, rfl, by decide +kernel, rfl, by decide +kernel, by decide +kernel⟩
abbrev s_Pair_outcome_at_2 : Stmt := inClass (top 45) 1
abbrev nm_Pair_outcome_at_2 : List Str := ["self", "number", "slow", "fast"]
theorem sc_Pair_outcome_at_2 : FnScope nm_Pair_outcome_at_2 ["self", "number"] (defScope s_Pair_outcome_at_2) := ⟨rfl, rfl, rfl, by decide +kernel, rfl, by decide +kernel, by decide +kernel⟩
abbrev s_Pair_outcome_1 : Stmt := inClass (top 39) 4
abbrev nm_Pair_outcome_1 : List Str := ["self", "number"]
theorem sc_Pair_outcome_1 : FnScope nm_Pair_outcome_1 ["self", "number"] (defScope s_Pair_outcome_1) := ⟨rfl, rfl, rfl, by decide +kernel, rfl, by decide +kernel, by decide +kernel⟩
abbrev s_Rows_outcome_at_1 : Stmt := inClass (top 46) 1
abbrev nm_Rows_outcome_at_1 : List Str := ["self", "number", "part"]
theorem sc_Rows_outcome_at_1 : FnScope nm_Rows_outcome_at_1 ["self", "number"] (defScope s_Rows_outcome_at_1) := ⟨rfl, rfl, rfl, by decide +kernel, rfl, by decide +kernel, by decide +kernel⟩
abbrev s_Rows_outcome_at_2 : Stmt := inClass (top 46) 1
abbrev nm_Rows_outcome_at_2 : List Str := ["self", "number", "part"]
theorem sc_Rows_outcome_at_2 : FnScope nm_Rows_outcome_at_2 ["self", "number"] (defScope s_Rows_outcome_at_2) := ⟨rfl, rfl, rfl, by decide +kernel, rfl, by decide +kernel, by decide +kernel⟩
abbrev s_Rows_outcome_1 : Stmt := inClass (top 39) 4
abbrev nm_Rows_outcome_1 : List Str := ["self", "number"]
theorem sc_Rows_outcome_1 : FnScope nm_Rows_outcome_1 ["self", "number"] (defScope s_Rows_outcome_1) := ⟨rfl, rfl, rfl, by decide +kernel, rfl, by decide +kernel, by decide +kernel⟩
abbrev s_ref_Below : Stmt := inClass (top 39) 4
abbrev nm_ref_Below : List Str := ["self", "number"]
theorem sc_ref_Below : FnScope nm_ref_Below ["self", "number"] (defScope s_ref_Below) := ⟨rfl, rfl, rfl, by decide +kernel, rfl, by decide +kernel, by decide +kernel⟩
abbrev s_ref_Shares : Stmt := inClass (top 39) 4
abbrev nm_ref_Shares : List Str := ["self", "number"]
theorem sc_ref_Shares : FnScope nm_ref_Shares ["self", "number"] (defScope s_ref_Shares) := ⟨rfl, rfl, rfl, by decide +kernel, rfl, by decide +kernel, by decide +kernel⟩
abbrev s_ref_Orders : Stmt := inClass (top 39) 4
abbrev nm_ref_Orders : List Str := ["self", "number"]
theorem sc_ref_Orders : FnScope nm_ref_Orders ["self", "number"] (defScope s_ref_Orders) := ⟨rfl, rfl, rfl, by decide +kernel, rfl, by decide +kernel, by decide +kernel⟩
abbrev s_ref_Sets : Stmt := inClass (top 39) 4
abbrev nm_ref_Sets : List Str := ["self", "number"]
theorem sc_ref_Sets : FnScope nm_ref_Sets ["self", "number"] (defScope s_ref_Sets) := ⟨rfl, rfl, rfl, by decide +kernel, rfl, by decide +kernel, by decide +kernel⟩
abbrev s_ref_Pair : Stmt := inClass (top 39) 4
abbrev nm_ref_Pair : List Str := ["self", "number"]
theorem sc_ref_Pair : FnScope nm_ref_Pair ["self", "number"] (defScope s_ref_Pair) := ⟨rfl, rfl, rfl, by decide +kernel, rfl, by decide +kernel, by decide +kernel⟩
abbrev s_ref_Rows : Stmt := inClass (top 39) 4
abbrev nm_ref_Rows : List Str := ["self", "number"]
theorem sc_ref_Rows : FnScope nm_ref_Rows ["self", "number"] (defScope s_ref_Rows) := ⟨rfl, rfl, rfl, by decide +kernel, rfl, by decide +kernel, by decide +kernel⟩
abbrev s_Pair_outcome_at_3 : Stmt := inClass (top 45) 1
abbrev nm_Pair_outcome_at_3 : List Str := ["self", "number", "slow", "fast"]
theorem sc_Pair_outcome_at_3 : FnScope nm_Pair_outcome_at_3 ["self", "number"] (defScope s_Pair_outcome_at_3) := ⟨rfl, rfl, rfl, by decide +kernel, rfl, by decide +kernel, by decide +kernel⟩
abbrev s_Pair_outcome_2 : Stmt := inClass (top 39) 4
abbrev nm_Pair_outcome_2 : List Str := ["self", "number"]
theorem sc_Pair_outcome_2 : FnScope nm_Pair_outcome_2 ["self", "number"] (defScope s_Pair_outcome_2) := ⟨rfl, rfl, rfl, by decide +kernel, rfl, by decide +kernel, by decide +kernel⟩
abbrev s_Pair_outcome_3 : Stmt := inClass (top 39) 4
abbrev nm_Pair_outcome_3 : List Str := ["self", "number"]
theorem sc_Pair_outcome_3 : FnScope nm_Pair_outcome_3 ["self", "number"] (defScope s_Pair_outcome_3) := ⟨rfl, rfl, rfl, by decide +kernel, rfl, by decide +kernel, by decide +kernel⟩
abbrev s_Rows_outcome_at_3 : Stmt := inClass (top 46) 1
abbrev nm_Rows_outcome_at_3 : List Str := ["self", "number", "part"]
theorem sc_Rows_outcome_at_3 : FnScope nm_Rows_outcome_at_3 ["self", "number"] (defScope s_Rows_outcome_at_3) := ⟨rfl, rfl, rfl, by decide +kernel, rfl, by decide +kernel, by decide +kernel⟩
abbrev s_Rows_outcome_2 : Stmt := inClass (top 39) 4
abbrev nm_Rows_outcome_2 : List Str := ["self", "number"]
theorem sc_Rows_outcome_2 : FnScope nm_Rows_outcome_2 ["self", "number"] (defScope s_Rows_outcome_2) := ⟨rfl, rfl, rfl, by decide +kernel, rfl, by decide +kernel, by decide +kernel⟩
abbrev s_Rows_outcome_3 : Stmt := inClass (top 39) 4
abbrev nm_Rows_outcome_3 : List Str := ["self", "number"]
theorem sc_Rows_outcome_3 : FnScope nm_Rows_outcome_3 ["self", "number"] (defScope s_Rows_outcome_3) := ⟨rfl, rfl, rfl, by decide +kernel, rfl, by decide +kernel, by decide +kernel⟩
abbrev s_NoNumber_init : Stmt := inClass (top 3) 0
abbrev s_NoWidth_init : Stmt := inClass (top 4) 0
abbrev s_NoShares_init : Stmt := inClass (top 5) 0
abbrev s_NoShape_init : Stmt := inClass (top 6) 0
abbrev s_TooWide_init : Stmt := inClass (top 7) 0
def fn : List He.DefD := [⟨("is_whole", none), "is_whole", "is_whole", defArgs s_is_whole, defBody s_is_whole, defScope s_is_whole, [], []⟩,
  ⟨("is_within", none), "is_within", "is_within", defArgs s_is_within, defBody s_is_within, defScope s_is_within, [], []⟩,
  ⟨("product", none), "product", "product", defArgs s_product, defBody s_product, defScope s_product, [], []⟩,
  ⟨("unmixed", none), "unmixed", "unmixed", defArgs s_unmixed, defBody s_unmixed, defScope s_unmixed, [], []⟩,
  ⟨("products_to", none), "products_to", "products_to", defArgs s_products_to, defBody s_products_to, defScope s_products_to, [], []⟩,
  ⟨("orders_many", none), "orders_many", "orders_many", defArgs s_orders_many, defBody s_orders_many, defScope s_orders_many, [], []⟩,
  ⟨("order_at", none), "order_at", "order_at", defArgs s_order_at, defBody s_order_at, defScope s_order_at, [], []⟩,
  ⟨("need_many", none), "need_many", "need_many", defArgs s_need_many, defBody s_need_many, defScope s_need_many, [], []⟩,
  ⟨("ways", none), "ways", "ways", defArgs s_ways, defBody s_ways, defScope s_ways, [], []⟩,
  ⟨("sets_many", none), "sets_many", "sets_many", defArgs s_sets_many, defBody s_sets_many, defScope s_sets_many, [], []⟩,
  ⟨("set_at", none), "set_at", "set_at", defArgs s_set_at, defBody s_set_at, defScope s_set_at, [], []⟩,
  ⟨("need_shares", none), "need_shares", "need_shares", defArgs s_need_shares, defBody s_need_shares, defScope s_need_shares, [], []⟩,
  ⟨("shares_many", none), "shares_many", "shares_many", defArgs s_shares_many, defBody s_shares_many, defScope s_shares_many, [], []⟩,
  ⟨("parted_at", none), "parted_at", "parted_at", defArgs s_parted_at, defBody s_parted_at, defScope s_parted_at, [], []⟩,
  ⟨("share_at", none), "share_at", "share_at", defArgs s_share_at, defBody s_share_at, defScope s_share_at, [], []⟩,
  ⟨("need_number", none), "need_number", "need_number", defArgs s_need_number, defBody s_need_number, defScope s_need_number, [], []⟩,
  ⟨("Shape", some "height"), "height", "Shape.height", defArgs s_Sets_height, defBody s_Sets_height, defScope s_Sets_height, [], []⟩,
  ⟨("need_shape", none), "need_shape", "need_shape", defArgs s_need_shape, defBody s_need_shape, defScope s_need_shape, [], []⟩,
  ⟨("_law_cell_at", none), "_law_cell_at", "_law_cell_at", defArgs s__law_cell_at, defBody s__law_cell_at, defScope s__law_cell_at, [], []⟩,
  ⟨("_law_box", none), "_law_box", "_law_box", defArgs s__law_box, defBody s__law_box, defScope s__law_box, [], []⟩,
  ⟨("_law_take", none), "_law_take", "_law_take", defArgs s__law_take, defBody s__law_take, defScope s__law_take, [], []⟩,
  ⟨("_law_is_whole", none), "_law_is_whole", "_law_is_whole", defArgs s__law_is_whole, defBody s__law_is_whole, defScope s__law_is_whole, [], []⟩,
  ⟨("_law_orders", none), "_law_orders", "_law_orders", defArgs s__law_orders, defBody s__law_orders, defScope s__law_orders, [], []⟩,
  ⟨("_law_sets", none), "_law_sets", "_law_sets", defArgs s__law_sets, defBody s__law_sets, defScope s__law_sets, [], []⟩,
  ⟨("_law_total", none), "_law_total", "_law_total", defArgs s__law_total, defBody s__law_total, defScope s__law_total, [], []⟩,
  ⟨("Shape", some "__init__"), "__init__", "Shape.__init__", defArgs s_sinit_Below, defBody s_sinit_Below, defScope s_sinit_Below, [], []⟩,
  ⟨("Below", some "__init__"), "__init__", "Below.__init__", defArgs s_Below_init, defBody s_Below_init, defScope s_Below_init, [], []⟩,
  ⟨("Shares", some "__init__"), "__init__", "Shares.__init__", defArgs s_Shares_init, defBody s_Shares_init, defScope s_Shares_init, [], []⟩,
  ⟨("Orders", some "__init__"), "__init__", "Orders.__init__", defArgs s_Orders_init, defBody s_Orders_init, defScope s_Orders_init, [], []⟩,
  ⟨("Sets", some "__init__"), "__init__", "Sets.__init__", defArgs s_Sets_init, defBody s_Sets_init, defScope s_Sets_init, [], []⟩,
  ⟨("Shape", some "numbers"), "numbers", "Shape.numbers", defArgs s_Pair_numbers, defBody s_Pair_numbers, defScope s_Pair_numbers, [], []⟩,
  ⟨("Pair", some "__init__"), "__init__", "Pair.__init__", defArgs s_Pair_init, defBody s_Pair_init, defScope s_Pair_init, [], []⟩,
  ⟨("Rows", some "__init__"), "__init__", "Rows.__init__", defArgs s_Rows_init, defBody s_Rows_init, defScope s_Rows_init, [], []⟩,
  ⟨("_law_shape", none), "_law_shape", "_law_shape", defArgs s__law_shape, defBody s__law_shape, defScope s__law_shape, [], []⟩,
  ⟨("_law_portions", none), "_law_portions", "_law_portions", defArgs s__law_portions, defBody s__law_portions, defScope s__law_portions, [], []⟩,
  ⟨("_law_simple", none), "_law_simple", "_law_simple", defArgs s__law_simple, defBody s__law_simple, defScope s__law_simple, [], []⟩,
  ⟨("_law_weight", none), "_law_weight", "_law_weight", defArgs s__law_weight, defBody s__law_weight, defScope s__law_weight, [], []⟩,
  ⟨("_law_told", none), "_law_told", "_law_told", defArgs s__law_told, defBody s__law_told, defScope s__law_told, [], []⟩,
  ⟨("_law_order", none), "_law_order", "_law_order", defArgs s__law_order, defBody s__law_order, defScope s__law_order, [], []⟩,
  ⟨("_law_set", none), "_law_set", "_law_set", defArgs s__law_set, defBody s__law_set, defScope s__law_set, [], []⟩,
  ⟨("_law_share", none), "_law_share", "_law_share", defArgs s__law_share, defBody s__law_share, defScope s__law_share, [], []⟩,
  ⟨("_law_outcome", none), "_law_outcome", "_law_outcome", defArgs s__law_outcome, defBody s__law_outcome, defScope s__law_outcome, [], []⟩,
  ⟨("_law_same", none), "_law_same", "_law_same", defArgs s__law_same, defBody s__law_same, defScope s__law_same, [], []⟩,
  ⟨("_law_height", none), "_law_height", "_law_height", defArgs s__law_height, defBody s__law_height, defScope s__law_height, [], []⟩,
  ⟨("_law_numbers", none), "_law_numbers", "_law_numbers", defArgs s__law_numbers, defBody s__law_numbers, defScope s__law_numbers, [], []⟩,
  ⟨("Shares", some "outcome_at"), "outcome_at", "Shares.outcome_at", defArgs s_Shares_outcome_at, defBody s_Shares_outcome_at, defScope s_Shares_outcome_at, [], []⟩,
  ⟨("Shape", some "outcome"), "outcome", "Shape.outcome", defArgs s_Shares_outcome, defBody s_Shares_outcome, defScope s_Shares_outcome, [], []⟩,
  ⟨("Orders", some "outcome_at"), "outcome_at", "Orders.outcome_at", defArgs s_Orders_outcome_at, defBody s_Orders_outcome_at, defScope s_Orders_outcome_at, [], []⟩,
  ⟨("Shape", some "outcome_at"), "outcome_at", "Shape.outcome_at", defArgs s_Below_outcome_at, defBody s_Below_outcome_at, defScope s_Below_outcome_at, [], []⟩,
  ⟨("Sets", some "outcome_at"), "outcome_at", "Sets.outcome_at", defArgs s_Sets_outcome_at, defBody s_Sets_outcome_at, defScope s_Sets_outcome_at, [], []⟩,
  ⟨("Pair", some "outcome_at"), "outcome_at", "Pair.outcome_at", defArgs s_Pair_outcome_at_1, defBody s_Pair_outcome_at_1, defScope s_Pair_outcome_at_1, [], []⟩,
  ⟨("Rows", some "outcome_at"), "outcome_at", "Rows.outcome_at", defArgs s_Rows_outcome_at_1, defBody s_Rows_outcome_at_1, defScope s_Rows_outcome_at_1, [], []⟩,
  ⟨("_law_right", none), "_law_right", "_law_right", defArgs s__law_right, defBody s__law_right, defScope s__law_right, [], []⟩,
  ⟨("_law_refused", none), "_law_refused", "_law_refused", defArgs s__law_refused, defBody s__law_refused, defScope s__law_refused, [], []⟩,
  ⟨("_law_refused_right", none), "_law_refused_right", "_law_refused_right", defArgs s__law_refused_right, defBody s__law_refused_right, defScope s__law_refused_right, [], []⟩,
  ⟨("_law_made", none), "_law_made", "_law_made", defArgs s__law_made, defBody s__law_made, defScope s__law_made, [], []⟩,
  ⟨("law", none), "law", "law", defArgs s_law, defBody s_law, defScope s_law, [], []⟩,
  ⟨("NoNumber", some "__init__"), "__init__", "NoNumber.__init__", defArgs s_NoNumber_init, defBody s_NoNumber_init, defScope s_NoNumber_init, [], []⟩,
  ⟨("NoWidth", some "__init__"), "__init__", "NoWidth.__init__", defArgs s_NoWidth_init, defBody s_NoWidth_init, defScope s_NoWidth_init, [], []⟩,
  ⟨("NoShares", some "__init__"), "__init__", "NoShares.__init__", defArgs s_NoShares_init, defBody s_NoShares_init, defScope s_NoShares_init, [], []⟩,
  ⟨("NoShape", some "__init__"), "__init__", "NoShape.__init__", defArgs s_NoShape_init, defBody s_NoShape_init, defScope s_NoShape_init, [], []⟩,
  ⟨("TooWide", some "__init__"), "__init__", "TooWide.__init__", defArgs s_TooWide_init, defBody s_TooWide_init, defScope s_TooWide_init, [], []⟩]
def fa : List He.Fa := [.glo "is_whole", .glo "is_within", .glo "product", .glo "unmixed", .glo "products_to", .glo "orders_many", .glo "order_at", .glo "need_many", .glo "ways", .glo "sets_many", .glo "set_at", .glo "need_shares", .glo "shares_many", .glo "parted_at", .glo "share_at", .glo "need_number", .glo "need_shape", .glo "_law_cell_at", .glo "_law_box", .glo "_law_take", .glo "_law_is_whole", .glo "_law_orders", .glo "_law_sets", .glo "_law_total", .glo "_law_shape", .glo "_law_portions", .glo "_law_simple", .glo "_law_weight", .glo "_law_told", .glo "_law_order", .glo "_law_set", .glo "_law_share", .glo "_law_outcome", .glo "_law_same", .glo "_law_height", .glo "_law_numbers", .glo "_law_right", .glo "_law_refused", .glo "_law_refused_right", .glo "_law_made", .glo "law", .glo "SeedError", .glo "NoNumber", .glo "NoWidth", .glo "NoShares", .glo "NoShape", .glo "TooWide", .glo "Shape", .glo "Below", .glo "Shares", .glo "Orders", .glo "Sets", .glo "Pair", .glo "Rows", .free "all", .free "bool", .free "divmod", .free "int", .free "isinstance", .free "len", .free "list", .free "max", .free "min", .free "range", .free "repr", .free "reversed", .free "str", .free "sum", .free "tuple", .noat "NoNumber" "found", .noat "NoWidth" "found", .noat "NoShares" "found", .noat "NoShape" "found", .noat "TooWide" "total", .meth "NoNumber" "__init__", .meth "NoWidth" "__init__", .meth "NoShares" "__init__", .meth "NoShape" "__init__", .meth "TooWide" "__init__", .cls "Below", .cls "Orders", .cls "Pair", .cls "Rows", .cls "Sets", .cls "Shape", .cls "Shares", .mkr "Below", .mkr "Orders", .mkr "Pair", .mkr "Rows", .mkr "Sets", .mkr "Shares", .noat "Below" "tallness", .noat "Below" "whole", .noat "Orders" "tallness", .noat "Orders" "things", .noat "Orders" "whole", .noat "Pair" "fast", .noat "Pair" "slow", .noat "Pair" "tallness", .noat "Pair" "whole", .noat "Rows" "bases", .noat "Rows" "single", .noat "Rows" "tallness", .noat "Rows" "whole", .noat "Sets" "chosen", .noat "Sets" "tallness", .noat "Sets" "things", .noat "Sets" "whole", .noat "Shares" "portions", .noat "Shares" "tallness", .noat "Shares" "whole", .meth "Sets" "height", .meth "Shares" "height", .meth "Pair" "height", .meth "Orders" "height", .meth "Rows" "height", .meth "Below" "height", .meth "Shape" "__init__", .meth "Below" "__init__", .meth "Shape" "__init__", .meth "Shares" "__init__", .meth "Shape" "__init__", .meth "Orders" "__init__", .meth "Shape" "__init__", .meth "Sets" "__init__", .meth "Pair" "numbers", .meth "Shares" "numbers", .meth "Sets" "numbers", .meth "Rows" "numbers", .meth "Orders" "numbers", .meth "Below" "numbers", .meth "Shape" "__init__", .meth "Pair" "__init__", .meth "Shape" "__init__", .meth "Rows" "__init__", .meth "Shares" "outcome_at", .meth "Shares" "outcome", .meth "Orders" "outcome_at", .meth "Orders" "outcome", .meth "Below" "outcome_at", .meth "Below" "outcome", .meth "Sets" "outcome_at", .meth "Sets" "outcome", .meth "Pair" "outcome_at", .meth "Pair" "outcome", .meth "Rows" "outcome_at", .meth "Rows" "outcome", .meth "Pair" "outcome_at", .meth "Pair" "outcome", .meth "Rows" "outcome_at", .meth "Rows" "outcome", .meth "Pair" "outcome_at", .meth "Pair" "outcome", .meth "Rows" "outcome_at", .meth "Rows" "outcome", .meth "Orders" "outcome", .meth "Shares" "outcome", .meth "Sets" "outcome", .meth "Rows" "outcome", .meth "Below" "outcome", .meth "Pair" "outcome", .int "MOST_HEIGHT" 3, .int "MOST_NUMBERS" 18446744073709551616, .int "MOST_ORDERED" 20, .int "MOST_OUT_OF" 60, .int "MOST_RANKED" 20, .int "MOST_SHARE" 1000000, .int "MOST_SHARES" 60, .int "MOST_THINGS" 60, .int "MOST_TIMES" 12]
def fp (K : Fg) : Bool := (fa.all fun f => f.ok K) && allB [exB K (He.ga K "NoNumber"), exB K (He.ga K "NoWidth"), exB K (He.ga K "NoShares"), exB K (He.ga K "NoShape"), exB K (He.ga K "TooWide"), iniB K (He.ga K "SeedError"), clfB K (He.ga K "Shape") "__init__", decide (He.ma K (He.ga K "Sets") "height" = He.ma K (He.ga K "Shape") "height"), decide (He.ma K (He.ga K "Shares") "height" = He.ma K (He.ga K "Shape") "height"), decide (He.ma K (He.ga K "Pair") "height" = He.ma K (He.ga K "Shape") "height"), decide (He.ma K (He.ga K "Orders") "height" = He.ma K (He.ga K "Shape") "height"), decide (He.ma K (He.ga K "Rows") "height" = He.ma K (He.ga K "Shape") "height"), decide (He.ma K (He.ga K "Below") "height" = He.ma K (He.ga K "Shape") "height"), decide (He.ma K (He.ga K "Pair") "numbers" = He.ma K (He.ga K "Shape") "numbers"), decide (He.ma K (He.ga K "Shares") "numbers" = He.ma K (He.ga K "Shape") "numbers"), decide (He.ma K (He.ga K "Sets") "numbers" = He.ma K (He.ga K "Shape") "numbers"), decide (He.ma K (He.ga K "Rows") "numbers" = He.ma K (He.ga K "Shape") "numbers"), decide (He.ma K (He.ga K "Orders") "numbers" = He.ma K (He.ga K "Shape") "numbers"), decide (He.ma K (He.ga K "Below") "numbers" = He.ma K (He.ga K "Shape") "numbers"), decide (He.ma K (He.ga K "Shares") "outcome" = He.ma K (He.ga K "Shape") "outcome"), decide (He.ma K (He.ga K "Orders") "outcome" = He.ma K (He.ga K "Shape") "outcome"), decide (He.ma K (He.ga K "Below") "outcome_at" = He.ma K (He.ga K "Shape") "outcome_at"), decide (He.ma K (He.ga K "Below") "outcome" = He.ma K (He.ga K "Shape") "outcome"), decide (He.ma K (He.ga K "Sets") "outcome" = He.ma K (He.ga K "Shape") "outcome"), decide (He.ma K (He.ga K "Pair") "outcome" = He.ma K (He.ga K "Shape") "outcome"), decide (He.ma K (He.ga K "Rows") "outcome" = He.ma K (He.ga K "Shape") "outcome"), insB K (He.ga K "Below"), insB K (He.ga K "Shares"), insB K (He.ga K "Orders"), insB K (He.ga K "Sets"), insB K (He.ga K "Pair"), insB K (He.ga K "Rows"), (K.lookup PySem.sysModules).isSome, decide (PySem.W.kitOne K (.ref (He.ga K "Below")) (.ref (He.ga K "Shape")) = some true), decide (PySem.W.kitOne K (.ref (He.ga K "Shares")) (.ref (He.ga K "Shape")) = some true), decide (PySem.W.kitOne K (.ref (He.ga K "Orders")) (.ref (He.ga K "Shape")) = some true), decide (PySem.W.kitOne K (.ref (He.ga K "Sets")) (.ref (He.ga K "Shape")) = some true), decide (PySem.W.kitOne K (.ref (He.ga K "Pair")) (.ref (He.ga K "Shape")) = some true), decide (PySem.W.kitOne K (.ref (He.ga K "Rows")) (.ref (He.ga K "Shape")) = some true), decide (PySem.W.exmOne K (.ref (He.ga K "NoNumber")) (.ref (He.ga K "NoNumber")) = some true)]
def ts : List He.Tab := []
structure Tx (K : Fg) (mg : Str → Option Value) (w : World) : Prop where
  g_is_whole : mg "is_whole" = some (.ref (He.ga K "is_whole"))
  F_is_whole : ∃ fd, FunD K "is_whole" "is_whole" (defArgs s_is_whole) (defBody s_is_whole) (defScope s_is_whole) [] [] (He.ga K "is_whole") fd
  g_is_within : mg "is_within" = some (.ref (He.ga K "is_within"))
  F_is_within : ∃ fd, FunD K "is_within" "is_within" (defArgs s_is_within) (defBody s_is_within) (defScope s_is_within) [] [] (He.ga K "is_within") fd
  g_product : mg "product" = some (.ref (He.ga K "product"))
  F_product : ∃ fd, FunD K "product" "product" (defArgs s_product) (defBody s_product) (defScope s_product) [] [] (He.ga K "product") fd
  g_unmixed : mg "unmixed" = some (.ref (He.ga K "unmixed"))
  F_unmixed : ∃ fd, FunD K "unmixed" "unmixed" (defArgs s_unmixed) (defBody s_unmixed) (defScope s_unmixed) [] [] (He.ga K "unmixed") fd
  g_products_to : mg "products_to" = some (.ref (He.ga K "products_to"))
  F_products_to : ∃ fd, FunD K "products_to" "products_to" (defArgs s_products_to) (defBody s_products_to) (defScope s_products_to) [] [] (He.ga K "products_to") fd
  g_orders_many : mg "orders_many" = some (.ref (He.ga K "orders_many"))
  F_orders_many : ∃ fd, FunD K "orders_many" "orders_many" (defArgs s_orders_many) (defBody s_orders_many) (defScope s_orders_many) [] [] (He.ga K "orders_many") fd
  g_order_at : mg "order_at" = some (.ref (He.ga K "order_at"))
  F_order_at : ∃ fd, FunD K "order_at" "order_at" (defArgs s_order_at) (defBody s_order_at) (defScope s_order_at) [] [] (He.ga K "order_at") fd
  g_need_many : mg "need_many" = some (.ref (He.ga K "need_many"))
  F_need_many : ∃ fd, FunD K "need_many" "need_many" (defArgs s_need_many) (defBody s_need_many) (defScope s_need_many) [] [] (He.ga K "need_many") fd
  g_ways : mg "ways" = some (.ref (He.ga K "ways"))
  F_ways : ∃ fd, FunD K "ways" "ways" (defArgs s_ways) (defBody s_ways) (defScope s_ways) [] [] (He.ga K "ways") fd
  g_sets_many : mg "sets_many" = some (.ref (He.ga K "sets_many"))
  F_sets_many : ∃ fd, FunD K "sets_many" "sets_many" (defArgs s_sets_many) (defBody s_sets_many) (defScope s_sets_many) [] [] (He.ga K "sets_many") fd
  g_set_at : mg "set_at" = some (.ref (He.ga K "set_at"))
  F_set_at : ∃ fd, FunD K "set_at" "set_at" (defArgs s_set_at) (defBody s_set_at) (defScope s_set_at) [] [] (He.ga K "set_at") fd
  g_need_shares : mg "need_shares" = some (.ref (He.ga K "need_shares"))
  F_need_shares : ∃ fd, FunD K "need_shares" "need_shares" (defArgs s_need_shares) (defBody s_need_shares) (defScope s_need_shares) [] [] (He.ga K "need_shares") fd
  g_shares_many : mg "shares_many" = some (.ref (He.ga K "shares_many"))
  F_shares_many : ∃ fd, FunD K "shares_many" "shares_many" (defArgs s_shares_many) (defBody s_shares_many) (defScope s_shares_many) [] [] (He.ga K "shares_many") fd
  g_parted_at : mg "parted_at" = some (.ref (He.ga K "parted_at"))
  F_parted_at : ∃ fd, FunD K "parted_at" "parted_at" (defArgs s_parted_at) (defBody s_parted_at) (defScope s_parted_at) [] [] (He.ga K "parted_at") fd
  g_share_at : mg "share_at" = some (.ref (He.ga K "share_at"))
  F_share_at : ∃ fd, FunD K "share_at" "share_at" (defArgs s_share_at) (defBody s_share_at) (defScope s_share_at) [] [] (He.ga K "share_at") fd
  g_need_number : mg "need_number" = some (.ref (He.ga K "need_number"))
  F_need_number : ∃ fd, FunD K "need_number" "need_number" (defArgs s_need_number) (defBody s_need_number) (defScope s_need_number) [] [] (He.ga K "need_number") fd
  F_Sets_height : ∃ fd, FunD K "height" "Shape.height" (defArgs s_Sets_height) (defBody s_Sets_height) (defScope s_Sets_height) [] [] (He.ma K (He.ga K "Sets") "height") fd
  M_Sets_height : Meth K (He.ga K "Sets") "height" (He.ma K (He.ga K "Sets") "height")
  F_Shares_height : ∃ fd, FunD K "height" "Shape.height" (defArgs s_Shares_height) (defBody s_Shares_height) (defScope s_Shares_height) [] [] (He.ma K (He.ga K "Shares") "height") fd
  M_Shares_height : Meth K (He.ga K "Shares") "height" (He.ma K (He.ga K "Shares") "height")
  F_Pair_height : ∃ fd, FunD K "height" "Shape.height" (defArgs s_Pair_height) (defBody s_Pair_height) (defScope s_Pair_height) [] [] (He.ma K (He.ga K "Pair") "height") fd
  M_Pair_height : Meth K (He.ga K "Pair") "height" (He.ma K (He.ga K "Pair") "height")
  F_Orders_height : ∃ fd, FunD K "height" "Shape.height" (defArgs s_Orders_height) (defBody s_Orders_height) (defScope s_Orders_height) [] [] (He.ma K (He.ga K "Orders") "height") fd
  M_Orders_height : Meth K (He.ga K "Orders") "height" (He.ma K (He.ga K "Orders") "height")
  F_Rows_height : ∃ fd, FunD K "height" "Shape.height" (defArgs s_Rows_height) (defBody s_Rows_height) (defScope s_Rows_height) [] [] (He.ma K (He.ga K "Rows") "height") fd
  M_Rows_height : Meth K (He.ga K "Rows") "height" (He.ma K (He.ga K "Rows") "height")
  F_Below_height : ∃ fd, FunD K "height" "Shape.height" (defArgs s_Below_height) (defBody s_Below_height) (defScope s_Below_height) [] [] (He.ma K (He.ga K "Below") "height") fd
  M_Below_height : Meth K (He.ga K "Below") "height" (He.ma K (He.ga K "Below") "height")
  g_need_shape : mg "need_shape" = some (.ref (He.ga K "need_shape"))
  F_need_shape : ∃ fd, FunD K "need_shape" "need_shape" (defArgs s_need_shape) (defBody s_need_shape) (defScope s_need_shape) [] [] (He.ga K "need_shape") fd
  g__law_cell_at : mg "_law_cell_at" = some (.ref (He.ga K "_law_cell_at"))
  F__law_cell_at : ∃ fd, FunD K "_law_cell_at" "_law_cell_at" (defArgs s__law_cell_at) (defBody s__law_cell_at) (defScope s__law_cell_at) [] [] (He.ga K "_law_cell_at") fd
  g__law_box : mg "_law_box" = some (.ref (He.ga K "_law_box"))
  F__law_box : ∃ fd, FunD K "_law_box" "_law_box" (defArgs s__law_box) (defBody s__law_box) (defScope s__law_box) [] [] (He.ga K "_law_box") fd
  g__law_take : mg "_law_take" = some (.ref (He.ga K "_law_take"))
  F__law_take : ∃ fd, FunD K "_law_take" "_law_take" (defArgs s__law_take) (defBody s__law_take) (defScope s__law_take) [] [] (He.ga K "_law_take") fd
  g__law_is_whole : mg "_law_is_whole" = some (.ref (He.ga K "_law_is_whole"))
  F__law_is_whole : ∃ fd, FunD K "_law_is_whole" "_law_is_whole" (defArgs s__law_is_whole) (defBody s__law_is_whole) (defScope s__law_is_whole) [] [] (He.ga K "_law_is_whole") fd
  g__law_orders : mg "_law_orders" = some (.ref (He.ga K "_law_orders"))
  F__law_orders : ∃ fd, FunD K "_law_orders" "_law_orders" (defArgs s__law_orders) (defBody s__law_orders) (defScope s__law_orders) [] [] (He.ga K "_law_orders") fd
  g__law_sets : mg "_law_sets" = some (.ref (He.ga K "_law_sets"))
  F__law_sets : ∃ fd, FunD K "_law_sets" "_law_sets" (defArgs s__law_sets) (defBody s__law_sets) (defScope s__law_sets) [] [] (He.ga K "_law_sets") fd
  g__law_total : mg "_law_total" = some (.ref (He.ga K "_law_total"))
  F__law_total : ∃ fd, FunD K "_law_total" "_law_total" (defArgs s__law_total) (defBody s__law_total) (defScope s__law_total) [] [] (He.ga K "_law_total") fd
  F_sinit_Below : ∃ fd, FunD K "__init__" "Shape.__init__" (defArgs s_sinit_Below) (defBody s_sinit_Below) (defScope s_sinit_Below) [] [] (He.ma K (He.ga K "Shape") "__init__") fd
  M_sinit_Below : Meth K (He.ga K "Shape") "__init__" (He.ma K (He.ga K "Shape") "__init__")
  F_Below_init : ∃ fd, FunD K "__init__" "Below.__init__" (defArgs s_Below_init) (defBody s_Below_init) (defScope s_Below_init) [] [] (He.ma K (He.ga K "Below") "__init__") fd
  M_Below_init : Meth K (He.ga K "Below") "__init__" (He.ma K (He.ga K "Below") "__init__")
  F_sinit_Shares : ∃ fd, FunD K "__init__" "Shape.__init__" (defArgs s_sinit_Shares) (defBody s_sinit_Shares) (defScope s_sinit_Shares) [] [] (He.ma K (He.ga K "Shape") "__init__") fd
  M_sinit_Shares : Meth K (He.ga K "Shape") "__init__" (He.ma K (He.ga K "Shape") "__init__")
  F_Shares_init : ∃ fd, FunD K "__init__" "Shares.__init__" (defArgs s_Shares_init) (defBody s_Shares_init) (defScope s_Shares_init) [] [] (He.ma K (He.ga K "Shares") "__init__") fd
  M_Shares_init : Meth K (He.ga K "Shares") "__init__" (He.ma K (He.ga K "Shares") "__init__")
  F_sinit_Orders : ∃ fd, FunD K "__init__" "Shape.__init__" (defArgs s_sinit_Orders) (defBody s_sinit_Orders) (defScope s_sinit_Orders) [] [] (He.ma K (He.ga K "Shape") "__init__") fd
  M_sinit_Orders : Meth K (He.ga K "Shape") "__init__" (He.ma K (He.ga K "Shape") "__init__")
  F_Orders_init : ∃ fd, FunD K "__init__" "Orders.__init__" (defArgs s_Orders_init) (defBody s_Orders_init) (defScope s_Orders_init) [] [] (He.ma K (He.ga K "Orders") "__init__") fd
  M_Orders_init : Meth K (He.ga K "Orders") "__init__" (He.ma K (He.ga K "Orders") "__init__")
  F_sinit_Sets : ∃ fd, FunD K "__init__" "Shape.__init__" (defArgs s_sinit_Sets) (defBody s_sinit_Sets) (defScope s_sinit_Sets) [] [] (He.ma K (He.ga K "Shape") "__init__") fd
  M_sinit_Sets : Meth K (He.ga K "Shape") "__init__" (He.ma K (He.ga K "Shape") "__init__")
  F_Sets_init : ∃ fd, FunD K "__init__" "Sets.__init__" (defArgs s_Sets_init) (defBody s_Sets_init) (defScope s_Sets_init) [] [] (He.ma K (He.ga K "Sets") "__init__") fd
  M_Sets_init : Meth K (He.ga K "Sets") "__init__" (He.ma K (He.ga K "Sets") "__init__")
  F_Pair_numbers : ∃ fd, FunD K "numbers" "Shape.numbers" (defArgs s_Pair_numbers) (defBody s_Pair_numbers) (defScope s_Pair_numbers) [] [] (He.ma K (He.ga K "Pair") "numbers") fd
  M_Pair_numbers : Meth K (He.ga K "Pair") "numbers" (He.ma K (He.ga K "Pair") "numbers")
  F_Shares_numbers : ∃ fd, FunD K "numbers" "Shape.numbers" (defArgs s_Shares_numbers) (defBody s_Shares_numbers) (defScope s_Shares_numbers) [] [] (He.ma K (He.ga K "Shares") "numbers") fd
  M_Shares_numbers : Meth K (He.ga K "Shares") "numbers" (He.ma K (He.ga K "Shares") "numbers")
  F_Sets_numbers : ∃ fd, FunD K "numbers" "Shape.numbers" (defArgs s_Sets_numbers) (defBody s_Sets_numbers) (defScope s_Sets_numbers) [] [] (He.ma K (He.ga K "Sets") "numbers") fd
  M_Sets_numbers : Meth K (He.ga K "Sets") "numbers" (He.ma K (He.ga K "Sets") "numbers")
  F_Rows_numbers : ∃ fd, FunD K "numbers" "Shape.numbers" (defArgs s_Rows_numbers) (defBody s_Rows_numbers) (defScope s_Rows_numbers) [] [] (He.ma K (He.ga K "Rows") "numbers") fd
  M_Rows_numbers : Meth K (He.ga K "Rows") "numbers" (He.ma K (He.ga K "Rows") "numbers")
  F_Orders_numbers : ∃ fd, FunD K "numbers" "Shape.numbers" (defArgs s_Orders_numbers) (defBody s_Orders_numbers) (defScope s_Orders_numbers) [] [] (He.ma K (He.ga K "Orders") "numbers") fd
  M_Orders_numbers : Meth K (He.ga K "Orders") "numbers" (He.ma K (He.ga K "Orders") "numbers")
  F_Below_numbers : ∃ fd, FunD K "numbers" "Shape.numbers" (defArgs s_Below_numbers) (defBody s_Below_numbers) (defScope s_Below_numbers) [] [] (He.ma K (He.ga K "Below") "numbers") fd
  M_Below_numbers : Meth K (He.ga K "Below") "numbers" (He.ma K (He.ga K "Below") "numbers")
  F_sinit_Pair : ∃ fd, FunD K "__init__" "Shape.__init__" (defArgs s_sinit_Pair) (defBody s_sinit_Pair) (defScope s_sinit_Pair) [] [] (He.ma K (He.ga K "Shape") "__init__") fd
  M_sinit_Pair : Meth K (He.ga K "Shape") "__init__" (He.ma K (He.ga K "Shape") "__init__")
  F_Pair_init : ∃ fd, FunD K "__init__" "Pair.__init__" (defArgs s_Pair_init) (defBody s_Pair_init) (defScope s_Pair_init) [] [] (He.ma K (He.ga K "Pair") "__init__") fd
  M_Pair_init : Meth K (He.ga K "Pair") "__init__" (He.ma K (He.ga K "Pair") "__init__")
  F_sinit_Rows : ∃ fd, FunD K "__init__" "Shape.__init__" (defArgs s_sinit_Rows) (defBody s_sinit_Rows) (defScope s_sinit_Rows) [] [] (He.ma K (He.ga K "Shape") "__init__") fd
  M_sinit_Rows : Meth K (He.ga K "Shape") "__init__" (He.ma K (He.ga K "Shape") "__init__")
  F_Rows_init : ∃ fd, FunD K "__init__" "Rows.__init__" (defArgs s_Rows_init) (defBody s_Rows_init) (defScope s_Rows_init) [] [] (He.ma K (He.ga K "Rows") "__init__") fd
  M_Rows_init : Meth K (He.ga K "Rows") "__init__" (He.ma K (He.ga K "Rows") "__init__")
  g__law_shape : mg "_law_shape" = some (.ref (He.ga K "_law_shape"))
  F__law_shape : ∃ fd, FunD K "_law_shape" "_law_shape" (defArgs s__law_shape) (defBody s__law_shape) (defScope s__law_shape) [] [] (He.ga K "_law_shape") fd
  g__law_portions : mg "_law_portions" = some (.ref (He.ga K "_law_portions"))
  F__law_portions : ∃ fd, FunD K "_law_portions" "_law_portions" (defArgs s__law_portions) (defBody s__law_portions) (defScope s__law_portions) [] [] (He.ga K "_law_portions") fd
  g__law_simple : mg "_law_simple" = some (.ref (He.ga K "_law_simple"))
  F__law_simple : ∃ fd, FunD K "_law_simple" "_law_simple" (defArgs s__law_simple) (defBody s__law_simple) (defScope s__law_simple) [] [] (He.ga K "_law_simple") fd
  g__law_weight : mg "_law_weight" = some (.ref (He.ga K "_law_weight"))
  F__law_weight : ∃ fd, FunD K "_law_weight" "_law_weight" (defArgs s__law_weight) (defBody s__law_weight) (defScope s__law_weight) [] [] (He.ga K "_law_weight") fd
  g__law_told : mg "_law_told" = some (.ref (He.ga K "_law_told"))
  F__law_told : ∃ fd, FunD K "_law_told" "_law_told" (defArgs s__law_told) (defBody s__law_told) (defScope s__law_told) [] [] (He.ga K "_law_told") fd
  g__law_order : mg "_law_order" = some (.ref (He.ga K "_law_order"))
  F__law_order : ∃ fd, FunD K "_law_order" "_law_order" (defArgs s__law_order) (defBody s__law_order) (defScope s__law_order) [] [] (He.ga K "_law_order") fd
  g__law_set : mg "_law_set" = some (.ref (He.ga K "_law_set"))
  F__law_set : ∃ fd, FunD K "_law_set" "_law_set" (defArgs s__law_set) (defBody s__law_set) (defScope s__law_set) [] [] (He.ga K "_law_set") fd
  g__law_share : mg "_law_share" = some (.ref (He.ga K "_law_share"))
  F__law_share : ∃ fd, FunD K "_law_share" "_law_share" (defArgs s__law_share) (defBody s__law_share) (defScope s__law_share) [] [] (He.ga K "_law_share") fd
  g__law_outcome : mg "_law_outcome" = some (.ref (He.ga K "_law_outcome"))
  F__law_outcome : ∃ fd, FunD K "_law_outcome" "_law_outcome" (defArgs s__law_outcome) (defBody s__law_outcome) (defScope s__law_outcome) [] [] (He.ga K "_law_outcome") fd
  g__law_same : mg "_law_same" = some (.ref (He.ga K "_law_same"))
  F__law_same : ∃ fd, FunD K "_law_same" "_law_same" (defArgs s__law_same) (defBody s__law_same) (defScope s__law_same) [] [] (He.ga K "_law_same") fd
  g__law_height : mg "_law_height" = some (.ref (He.ga K "_law_height"))
  F__law_height : ∃ fd, FunD K "_law_height" "_law_height" (defArgs s__law_height) (defBody s__law_height) (defScope s__law_height) [] [] (He.ga K "_law_height") fd
  g__law_numbers : mg "_law_numbers" = some (.ref (He.ga K "_law_numbers"))
  F__law_numbers : ∃ fd, FunD K "_law_numbers" "_law_numbers" (defArgs s__law_numbers) (defBody s__law_numbers) (defScope s__law_numbers) [] [] (He.ga K "_law_numbers") fd
  F_Shares_outcome_at : ∃ fd, FunD K "outcome_at" "Shares.outcome_at" (defArgs s_Shares_outcome_at) (defBody s_Shares_outcome_at) (defScope s_Shares_outcome_at) [] [] (He.ma K (He.ga K "Shares") "outcome_at") fd
  M_Shares_outcome_at : Meth K (He.ga K "Shares") "outcome_at" (He.ma K (He.ga K "Shares") "outcome_at")
  F_Shares_outcome : ∃ fd, FunD K "outcome" "Shape.outcome" (defArgs s_Shares_outcome) (defBody s_Shares_outcome) (defScope s_Shares_outcome) [] [] (He.ma K (He.ga K "Shares") "outcome") fd
  M_Shares_outcome : Meth K (He.ga K "Shares") "outcome" (He.ma K (He.ga K "Shares") "outcome")
  F_Orders_outcome_at : ∃ fd, FunD K "outcome_at" "Orders.outcome_at" (defArgs s_Orders_outcome_at) (defBody s_Orders_outcome_at) (defScope s_Orders_outcome_at) [] [] (He.ma K (He.ga K "Orders") "outcome_at") fd
  M_Orders_outcome_at : Meth K (He.ga K "Orders") "outcome_at" (He.ma K (He.ga K "Orders") "outcome_at")
  F_Orders_outcome : ∃ fd, FunD K "outcome" "Shape.outcome" (defArgs s_Orders_outcome) (defBody s_Orders_outcome) (defScope s_Orders_outcome) [] [] (He.ma K (He.ga K "Orders") "outcome") fd
  M_Orders_outcome : Meth K (He.ga K "Orders") "outcome" (He.ma K (He.ga K "Orders") "outcome")
  F_Below_outcome_at : ∃ fd, FunD K "outcome_at" "Shape.outcome_at" (defArgs s_Below_outcome_at) (defBody s_Below_outcome_at) (defScope s_Below_outcome_at) [] [] (He.ma K (He.ga K "Below") "outcome_at") fd
  M_Below_outcome_at : Meth K (He.ga K "Below") "outcome_at" (He.ma K (He.ga K "Below") "outcome_at")
  F_Below_outcome : ∃ fd, FunD K "outcome" "Shape.outcome" (defArgs s_Below_outcome) (defBody s_Below_outcome) (defScope s_Below_outcome) [] [] (He.ma K (He.ga K "Below") "outcome") fd
  M_Below_outcome : Meth K (He.ga K "Below") "outcome" (He.ma K (He.ga K "Below") "outcome")
  F_Sets_outcome_at : ∃ fd, FunD K "outcome_at" "Sets.outcome_at" (defArgs s_Sets_outcome_at) (defBody s_Sets_outcome_at) (defScope s_Sets_outcome_at) [] [] (He.ma K (He.ga K "Sets") "outcome_at") fd
  M_Sets_outcome_at : Meth K (He.ga K "Sets") "outcome_at" (He.ma K (He.ga K "Sets") "outcome_at")
  F_Sets_outcome : ∃ fd, FunD K "outcome" "Shape.outcome" (defArgs s_Sets_outcome) (defBody s_Sets_outcome) (defScope s_Sets_outcome) [] [] (He.ma K (He.ga K "Sets") "outcome") fd
  M_Sets_outcome : Meth K (He.ga K "Sets") "outcome" (He.ma K (He.ga K "Sets") "outcome")
  F_Pair_outcome_at_1 : ∃ fd, FunD K "outcome_at" "Pair.outcome_at" (defArgs s_Pair_outcome_at_1) (defBody s_Pair_outcome_at_1) (defScope s_Pair_outcome_at_1) [] [] (He.ma K (He.ga K "Pair") "outcome_at") fd
  M_Pair_outcome_at_1 : Meth K (He.ga K "Pair") "outcome_at" (He.ma K (He.ga K "Pair") "outcome_at")
  F_Pair_outcome_1 : ∃ fd, FunD K "outcome" "Shape.outcome" (defArgs s_Pair_outcome_1) (defBody s_Pair_outcome_1) (defScope s_Pair_outcome_1) [] [] (He.ma K (He.ga K "Pair") "outcome") fd
  M_Pair_outcome_1 : Meth K (He.ga K "Pair") "outcome" (He.ma K (He.ga K "Pair") "outcome")
  F_Rows_outcome_at_1 : ∃ fd, FunD K "outcome_at" "Rows.outcome_at" (defArgs s_Rows_outcome_at_1) (defBody s_Rows_outcome_at_1) (defScope s_Rows_outcome_at_1) [] [] (He.ma K (He.ga K "Rows") "outcome_at") fd
  M_Rows_outcome_at_1 : Meth K (He.ga K "Rows") "outcome_at" (He.ma K (He.ga K "Rows") "outcome_at")
  F_Rows_outcome_1 : ∃ fd, FunD K "outcome" "Shape.outcome" (defArgs s_Rows_outcome_1) (defBody s_Rows_outcome_1) (defScope s_Rows_outcome_1) [] [] (He.ma K (He.ga K "Rows") "outcome") fd
  M_Rows_outcome_1 : Meth K (He.ga K "Rows") "outcome" (He.ma K (He.ga K "Rows") "outcome")
  F_Pair_outcome_at_2 : ∃ fd, FunD K "outcome_at" "Pair.outcome_at" (defArgs s_Pair_outcome_at_2) (defBody s_Pair_outcome_at_2) (defScope s_Pair_outcome_at_2) [] [] (He.ma K (He.ga K "Pair") "outcome_at") fd
  M_Pair_outcome_at_2 : Meth K (He.ga K "Pair") "outcome_at" (He.ma K (He.ga K "Pair") "outcome_at")
  F_Pair_outcome_2 : ∃ fd, FunD K "outcome" "Shape.outcome" (defArgs s_Pair_outcome_2) (defBody s_Pair_outcome_2) (defScope s_Pair_outcome_2) [] [] (He.ma K (He.ga K "Pair") "outcome") fd
  M_Pair_outcome_2 : Meth K (He.ga K "Pair") "outcome" (He.ma K (He.ga K "Pair") "outcome")
  F_Rows_outcome_at_2 : ∃ fd, FunD K "outcome_at" "Rows.outcome_at" (defArgs s_Rows_outcome_at_2) (defBody s_Rows_outcome_at_2) (defScope s_Rows_outcome_at_2) [] [] (He.ma K (He.ga K "Rows") "outcome_at") fd
  M_Rows_outcome_at_2 : Meth K (He.ga K "Rows") "outcome_at" (He.ma K (He.ga K "Rows") "outcome_at")
  F_Rows_outcome_2 : ∃ fd, FunD K "outcome" "Shape.outcome" (defArgs s_Rows_outcome_2) (defBody s_Rows_outcome_2) (defScope s_Rows_outcome_2) [] [] (He.ma K (He.ga K "Rows") "outcome") fd
  M_Rows_outcome_2 : Meth K (He.ga K "Rows") "outcome" (He.ma K (He.ga K "Rows") "outcome")
  F_Pair_outcome_at_3 : ∃ fd, FunD K "outcome_at" "Pair.outcome_at" (defArgs s_Pair_outcome_at_3) (defBody s_Pair_outcome_at_3) (defScope s_Pair_outcome_at_3) [] [] (He.ma K (He.ga K "Pair") "outcome_at") fd
  M_Pair_outcome_at_3 : Meth K (He.ga K "Pair") "outcome_at" (He.ma K (He.ga K "Pair") "outcome_at")
  F_Pair_outcome_3 : ∃ fd, FunD K "outcome" "Shape.outcome" (defArgs s_Pair_outcome_3) (defBody s_Pair_outcome_3) (defScope s_Pair_outcome_3) [] [] (He.ma K (He.ga K "Pair") "outcome") fd
  M_Pair_outcome_3 : Meth K (He.ga K "Pair") "outcome" (He.ma K (He.ga K "Pair") "outcome")
  F_Rows_outcome_at_3 : ∃ fd, FunD K "outcome_at" "Rows.outcome_at" (defArgs s_Rows_outcome_at_3) (defBody s_Rows_outcome_at_3) (defScope s_Rows_outcome_at_3) [] [] (He.ma K (He.ga K "Rows") "outcome_at") fd
  M_Rows_outcome_at_3 : Meth K (He.ga K "Rows") "outcome_at" (He.ma K (He.ga K "Rows") "outcome_at")
  F_Rows_outcome_3 : ∃ fd, FunD K "outcome" "Shape.outcome" (defArgs s_Rows_outcome_3) (defBody s_Rows_outcome_3) (defScope s_Rows_outcome_3) [] [] (He.ma K (He.ga K "Rows") "outcome") fd
  M_Rows_outcome_3 : Meth K (He.ga K "Rows") "outcome" (He.ma K (He.ga K "Rows") "outcome")
  g__law_right : mg "_law_right" = some (.ref (He.ga K "_law_right"))
  F__law_right : ∃ fd, FunD K "_law_right" "_law_right" (defArgs s__law_right) (defBody s__law_right) (defScope s__law_right) [] [] (He.ga K "_law_right") fd
  F_ref_Orders : ∃ fd, FunD K "outcome" "Shape.outcome" (defArgs s_ref_Orders) (defBody s_ref_Orders) (defScope s_ref_Orders) [] [] (He.ma K (He.ga K "Orders") "outcome") fd
  M_ref_Orders : Meth K (He.ga K "Orders") "outcome" (He.ma K (He.ga K "Orders") "outcome")
  F_ref_Shares : ∃ fd, FunD K "outcome" "Shape.outcome" (defArgs s_ref_Shares) (defBody s_ref_Shares) (defScope s_ref_Shares) [] [] (He.ma K (He.ga K "Shares") "outcome") fd
  M_ref_Shares : Meth K (He.ga K "Shares") "outcome" (He.ma K (He.ga K "Shares") "outcome")
  F_ref_Sets : ∃ fd, FunD K "outcome" "Shape.outcome" (defArgs s_ref_Sets) (defBody s_ref_Sets) (defScope s_ref_Sets) [] [] (He.ma K (He.ga K "Sets") "outcome") fd
  M_ref_Sets : Meth K (He.ga K "Sets") "outcome" (He.ma K (He.ga K "Sets") "outcome")
  F_ref_Rows : ∃ fd, FunD K "outcome" "Shape.outcome" (defArgs s_ref_Rows) (defBody s_ref_Rows) (defScope s_ref_Rows) [] [] (He.ma K (He.ga K "Rows") "outcome") fd
  M_ref_Rows : Meth K (He.ga K "Rows") "outcome" (He.ma K (He.ga K "Rows") "outcome")
  F_ref_Below : ∃ fd, FunD K "outcome" "Shape.outcome" (defArgs s_ref_Below) (defBody s_ref_Below) (defScope s_ref_Below) [] [] (He.ma K (He.ga K "Below") "outcome") fd
  M_ref_Below : Meth K (He.ga K "Below") "outcome" (He.ma K (He.ga K "Below") "outcome")
  F_ref_Pair : ∃ fd, FunD K "outcome" "Shape.outcome" (defArgs s_ref_Pair) (defBody s_ref_Pair) (defScope s_ref_Pair) [] [] (He.ma K (He.ga K "Pair") "outcome") fd
  M_ref_Pair : Meth K (He.ga K "Pair") "outcome" (He.ma K (He.ga K "Pair") "outcome")
  g__law_refused : mg "_law_refused" = some (.ref (He.ga K "_law_refused"))
  F__law_refused : ∃ fd, FunD K "_law_refused" "_law_refused" (defArgs s__law_refused) (defBody s__law_refused) (defScope s__law_refused) [] [] (He.ga K "_law_refused") fd
  g__law_refused_right : mg "_law_refused_right" = some (.ref (He.ga K "_law_refused_right"))
  F__law_refused_right : ∃ fd, FunD K "_law_refused_right" "_law_refused_right" (defArgs s__law_refused_right) (defBody s__law_refused_right) (defScope s__law_refused_right) [] [] (He.ga K "_law_refused_right") fd
  g__law_made : mg "_law_made" = some (.ref (He.ga K "_law_made"))
  F__law_made : ∃ fd, FunD K "_law_made" "_law_made" (defArgs s__law_made) (defBody s__law_made) (defScope s__law_made) [] [] (He.ga K "_law_made") fd
  g_law : mg "law" = some (.ref (He.ga K "law"))
  F_law : ∃ fd, FunD K "law" "law" (defArgs s_law) (defBody s_law) (defScope s_law) [] [] (He.ga K "law") fd
  g_SeedError : mg "SeedError" = some (.ref (He.ga K "SeedError"))
  g_NoNumber : mg "NoNumber" = some (.ref (He.ga K "NoNumber"))
  g_NoWidth : mg "NoWidth" = some (.ref (He.ga K "NoWidth"))
  g_NoShares : mg "NoShares" = some (.ref (He.ga K "NoShares"))
  g_NoShape : mg "NoShape" = some (.ref (He.ga K "NoShape"))
  g_TooWide : mg "TooWide" = some (.ref (He.ga K "TooWide"))
  g_Shape : mg "Shape" = some (.ref (He.ga K "Shape"))
  g_Below : mg "Below" = some (.ref (He.ga K "Below"))
  g_Shares : mg "Shares" = some (.ref (He.ga K "Shares"))
  g_Orders : mg "Orders" = some (.ref (He.ga K "Orders"))
  g_Sets : mg "Sets" = some (.ref (He.ga K "Sets"))
  g_Pair : mg "Pair" = some (.ref (He.ga K "Pair"))
  g_Rows : mg "Rows" = some (.ref (He.ga K "Rows"))
  n_all : mg "all" = none
  n_bool : mg "bool" = none
  n_divmod : mg "divmod" = none
  n_int : mg "int" = none
  n_isinstance : mg "isinstance" = none
  n_len : mg "len" = none
  n_list : mg "list" = none
  n_max : mg "max" = none
  n_min : mg "min" = none
  n_range : mg "range" = none
  n_repr : mg "repr" = none
  n_reversed : mg "reversed" = none
  n_str : mg "str" = none
  n_sum : mg "sum" = none
  n_tuple : mg "tuple" = none
  cls_Below : Cls K (He.ga K "Below")
  mk_Below : Mk K (He.ga K "Below") (He.ma K (He.ga K "Below") "__init__")
  cls_Orders : Cls K (He.ga K "Orders")
  mk_Orders : Mk K (He.ga K "Orders") (He.ma K (He.ga K "Orders") "__init__")
  cls_Pair : Cls K (He.ga K "Pair")
  mk_Pair : Mk K (He.ga K "Pair") (He.ma K (He.ga K "Pair") "__init__")
  cls_Rows : Cls K (He.ga K "Rows")
  mk_Rows : Mk K (He.ga K "Rows") (He.ma K (He.ga K "Rows") "__init__")
  cls_Sets : Cls K (He.ga K "Sets")
  mk_Sets : Mk K (He.ga K "Sets") (He.ma K (He.ga K "Sets") "__init__")
  cls_Shape : Cls K (He.ga K "Shape")
  cls_Shares : Cls K (He.ga K "Shares")
  mk_Shares : Mk K (He.ga K "Shares") (He.ma K (He.ga K "Shares") "__init__")
  na_Below_tallness : NoAttr K (He.ga K "Below") "tallness"
  na_Below_whole : NoAttr K (He.ga K "Below") "whole"
  na_Orders_tallness : NoAttr K (He.ga K "Orders") "tallness"
  na_Orders_things : NoAttr K (He.ga K "Orders") "things"
  na_Orders_whole : NoAttr K (He.ga K "Orders") "whole"
  na_Pair_fast : NoAttr K (He.ga K "Pair") "fast"
  na_Pair_slow : NoAttr K (He.ga K "Pair") "slow"
  na_Pair_tallness : NoAttr K (He.ga K "Pair") "tallness"
  na_Pair_whole : NoAttr K (He.ga K "Pair") "whole"
  na_Rows_bases : NoAttr K (He.ga K "Rows") "bases"
  na_Rows_single : NoAttr K (He.ga K "Rows") "single"
  na_Rows_tallness : NoAttr K (He.ga K "Rows") "tallness"
  na_Rows_whole : NoAttr K (He.ga K "Rows") "whole"
  na_Sets_chosen : NoAttr K (He.ga K "Sets") "chosen"
  na_Sets_tallness : NoAttr K (He.ga K "Sets") "tallness"
  na_Sets_things : NoAttr K (He.ga K "Sets") "things"
  na_Sets_whole : NoAttr K (He.ga K "Sets") "whole"
  na_Shares_portions : NoAttr K (He.ga K "Shares") "portions"
  na_Shares_tallness : NoAttr K (He.ga K "Shares") "tallness"
  na_Shares_whole : NoAttr K (He.ga K "Shares") "whole"
  k_MOST_HEIGHT : ∃ t, mg "MOST_HEIGHT" = some (.int 3 t)
  k_MOST_NUMBERS : ∃ t, mg "MOST_NUMBERS" = some (.int 18446744073709551616 t)
  k_MOST_ORDERED : ∃ t, mg "MOST_ORDERED" = some (.int 20 t)
  k_MOST_OUT_OF : ∃ t, mg "MOST_OUT_OF" = some (.int 60 t)
  k_MOST_RANKED : ∃ t, mg "MOST_RANKED" = some (.int 20 t)
  k_MOST_SHARE : ∃ t, mg "MOST_SHARE" = some (.int 1000000 t)
  k_MOST_SHARES : ∃ t, mg "MOST_SHARES" = some (.int 60 t)
  k_MOST_THINGS : ∃ t, mg "MOST_THINGS" = some (.int 60 t)
  k_MOST_TIMES : ∃ t, mg "MOST_TIMES" = some (.int 12 t)
  x_NoNumber : ExC K (He.ga K "NoNumber")
  a_NoNumber_found : PySem.W.findIn K (.ref (He.ga K "NoNumber")) "found" = some none
  m_NoNumber : Meth K (He.ga K "NoNumber") "__init__" (He.ma K (He.ga K "NoNumber") "__init__")
  I_NoNumber : ∃ fd, FunD K "__init__" "NoNumber.__init__" (defArgs s_NoNumber_init) (defBody s_NoNumber_init) (defScope s_NoNumber_init) [] [] (He.ma K (He.ga K "NoNumber") "__init__") fd
  x_NoWidth : ExC K (He.ga K "NoWidth")
  a_NoWidth_found : PySem.W.findIn K (.ref (He.ga K "NoWidth")) "found" = some none
  m_NoWidth : Meth K (He.ga K "NoWidth") "__init__" (He.ma K (He.ga K "NoWidth") "__init__")
  I_NoWidth : ∃ fd, FunD K "__init__" "NoWidth.__init__" (defArgs s_NoWidth_init) (defBody s_NoWidth_init) (defScope s_NoWidth_init) [] [] (He.ma K (He.ga K "NoWidth") "__init__") fd
  x_NoShares : ExC K (He.ga K "NoShares")
  a_NoShares_found : PySem.W.findIn K (.ref (He.ga K "NoShares")) "found" = some none
  m_NoShares : Meth K (He.ga K "NoShares") "__init__" (He.ma K (He.ga K "NoShares") "__init__")
  I_NoShares : ∃ fd, FunD K "__init__" "NoShares.__init__" (defArgs s_NoShares_init) (defBody s_NoShares_init) (defScope s_NoShares_init) [] [] (He.ma K (He.ga K "NoShares") "__init__") fd
  x_NoShape : ExC K (He.ga K "NoShape")
  a_NoShape_found : PySem.W.findIn K (.ref (He.ga K "NoShape")) "found" = some none
  m_NoShape : Meth K (He.ga K "NoShape") "__init__" (He.ma K (He.ga K "NoShape") "__init__")
  I_NoShape : ∃ fd, FunD K "__init__" "NoShape.__init__" (defArgs s_NoShape_init) (defBody s_NoShape_init) (defScope s_NoShape_init) [] [] (He.ma K (He.ga K "NoShape") "__init__") fd
  x_TooWide : ExC K (He.ga K "TooWide")
  a_TooWide_total : PySem.W.findIn K (.ref (He.ga K "TooWide")) "total" = some none
  m_TooWide : Meth K (He.ga K "TooWide") "__init__" (He.ma K (He.ga K "TooWide") "__init__")
  I_TooWide : ∃ fd, FunD K "__init__" "TooWide.__init__" (defArgs s_TooWide_init) (defBody s_TooWide_init) (defScope s_TooWide_init) [] [] (He.ma K (He.ga K "TooWide") "__init__") fd
  i0 : IniC K (He.ga K "SeedError")
  cf_Shape_init : ClF K (He.ga K "Shape") "__init__"
  ins_Below : InsC K (He.ga K "Below")
  ins_Shares : InsC K (He.ga K "Shares")
  ins_Orders : InsC K (He.ga K "Orders")
  ins_Sets : InsC K (He.ga K "Sets")
  ins_Pair : InsC K (He.ga K "Pair")
  ins_Rows : InsC K (He.ga K "Rows")
  sm : (K.lookup PySem.sysModules).isSome = true
  kit_Below_Shape : PySem.W.kitOne K (.ref (He.ga K "Below")) (.ref (He.ga K "Shape")) = some true
  kit_Shares_Shape : PySem.W.kitOne K (.ref (He.ga K "Shares")) (.ref (He.ga K "Shape")) = some true
  kit_Orders_Shape : PySem.W.kitOne K (.ref (He.ga K "Orders")) (.ref (He.ga K "Shape")) = some true
  kit_Sets_Shape : PySem.W.kitOne K (.ref (He.ga K "Sets")) (.ref (He.ga K "Shape")) = some true
  kit_Pair_Shape : PySem.W.kitOne K (.ref (He.ga K "Pair")) (.ref (He.ga K "Shape")) = some true
  kit_Rows_Shape : PySem.W.kitOne K (.ref (He.ga K "Rows")) (.ref (He.ga K "Shape")) = some true
  exm_NoNumber_NoNumber : PySem.W.exmOne K (.ref (He.ga K "NoNumber")) (.ref (He.ga K "NoNumber")) = some true
theorem tx_mk {K : Fg} {h : Heap} {mg : Str → Option Value} {w : World} (X : K.In h) (G : h.Ns mainGlobals mg) (ct : sayT fp fn ts w K) : Tx K mg w := by
  have c := ct.bas
  obtain ⟨p1, p2⟩ := He.ba (show ((fa.all fun f => f.ok K) && allB [exB K (He.ga K "NoNumber"), exB K (He.ga K "NoWidth"), exB K (He.ga K "NoShares"), exB K (He.ga K "NoShape"), exB K (He.ga K "TooWide"), iniB K (He.ga K "SeedError"), clfB K (He.ga K "Shape") "__init__", decide (He.ma K (He.ga K "Sets") "height" = He.ma K (He.ga K "Shape") "height"), decide (He.ma K (He.ga K "Shares") "height" = He.ma K (He.ga K "Shape") "height"), decide (He.ma K (He.ga K "Pair") "height" = He.ma K (He.ga K "Shape") "height"), decide (He.ma K (He.ga K "Orders") "height" = He.ma K (He.ga K "Shape") "height"), decide (He.ma K (He.ga K "Rows") "height" = He.ma K (He.ga K "Shape") "height"), decide (He.ma K (He.ga K "Below") "height" = He.ma K (He.ga K "Shape") "height"), decide (He.ma K (He.ga K "Pair") "numbers" = He.ma K (He.ga K "Shape") "numbers"), decide (He.ma K (He.ga K "Shares") "numbers" = He.ma K (He.ga K "Shape") "numbers"), decide (He.ma K (He.ga K "Sets") "numbers" = He.ma K (He.ga K "Shape") "numbers"), decide (He.ma K (He.ga K "Rows") "numbers" = He.ma K (He.ga K "Shape") "numbers"), decide (He.ma K (He.ga K "Orders") "numbers" = He.ma K (He.ga K "Shape") "numbers"), decide (He.ma K (He.ga K "Below") "numbers" = He.ma K (He.ga K "Shape") "numbers"), decide (He.ma K (He.ga K "Shares") "outcome" = He.ma K (He.ga K "Shape") "outcome"), decide (He.ma K (He.ga K "Orders") "outcome" = He.ma K (He.ga K "Shape") "outcome"), decide (He.ma K (He.ga K "Below") "outcome_at" = He.ma K (He.ga K "Shape") "outcome_at"), decide (He.ma K (He.ga K "Below") "outcome" = He.ma K (He.ga K "Shape") "outcome"), decide (He.ma K (He.ga K "Sets") "outcome" = He.ma K (He.ga K "Shape") "outcome"), decide (He.ma K (He.ga K "Pair") "outcome" = He.ma K (He.ga K "Shape") "outcome"), decide (He.ma K (He.ga K "Rows") "outcome" = He.ma K (He.ga K "Shape") "outcome"), insB K (He.ga K "Below"), insB K (He.ga K "Shares"), insB K (He.ga K "Orders"), insB K (He.ga K "Sets"), insB K (He.ga K "Pair"), insB K (He.ga K "Rows"), (K.lookup PySem.sysModules).isSome, decide (PySem.W.kitOne K (.ref (He.ga K "Below")) (.ref (He.ga K "Shape")) = some true), decide (PySem.W.kitOne K (.ref (He.ga K "Shares")) (.ref (He.ga K "Shape")) = some true), decide (PySem.W.kitOne K (.ref (He.ga K "Orders")) (.ref (He.ga K "Shape")) = some true), decide (PySem.W.kitOne K (.ref (He.ga K "Sets")) (.ref (He.ga K "Shape")) = some true), decide (PySem.W.kitOne K (.ref (He.ga K "Pair")) (.ref (He.ga K "Shape")) = some true), decide (PySem.W.kitOne K (.ref (He.ga K "Rows")) (.ref (He.ga K "Shape")) = some true), decide (PySem.W.exmOne K (.ref (He.ga K "NoNumber")) (.ref (He.ga K "NoNumber")) = some true)]) = true from c.p)
  have fc : ∀ (i : Nat) {f : He.Fa}, fa[i]? = some f → f.ok K = true := fun i f e => List.all_eq_true.mp p1 f (List.mem_of_getElem? e)
  have ec : ∀ (i : Nat) {b : Bool}, ([exB K (He.ga K "NoNumber"), exB K (He.ga K "NoWidth"), exB K (He.ga K "NoShares"), exB K (He.ga K "NoShape"), exB K (He.ga K "TooWide"), iniB K (He.ga K "SeedError"), clfB K (He.ga K "Shape") "__init__", decide (He.ma K (He.ga K "Sets") "height" = He.ma K (He.ga K "Shape") "height"), decide (He.ma K (He.ga K "Shares") "height" = He.ma K (He.ga K "Shape") "height"), decide (He.ma K (He.ga K "Pair") "height" = He.ma K (He.ga K "Shape") "height"), decide (He.ma K (He.ga K "Orders") "height" = He.ma K (He.ga K "Shape") "height"), decide (He.ma K (He.ga K "Rows") "height" = He.ma K (He.ga K "Shape") "height"), decide (He.ma K (He.ga K "Below") "height" = He.ma K (He.ga K "Shape") "height"), decide (He.ma K (He.ga K "Pair") "numbers" = He.ma K (He.ga K "Shape") "numbers"), decide (He.ma K (He.ga K "Shares") "numbers" = He.ma K (He.ga K "Shape") "numbers"), decide (He.ma K (He.ga K "Sets") "numbers" = He.ma K (He.ga K "Shape") "numbers"), decide (He.ma K (He.ga K "Rows") "numbers" = He.ma K (He.ga K "Shape") "numbers"), decide (He.ma K (He.ga K "Orders") "numbers" = He.ma K (He.ga K "Shape") "numbers"), decide (He.ma K (He.ga K "Below") "numbers" = He.ma K (He.ga K "Shape") "numbers"), decide (He.ma K (He.ga K "Shares") "outcome" = He.ma K (He.ga K "Shape") "outcome"), decide (He.ma K (He.ga K "Orders") "outcome" = He.ma K (He.ga K "Shape") "outcome"), decide (He.ma K (He.ga K "Below") "outcome_at" = He.ma K (He.ga K "Shape") "outcome_at"), decide (He.ma K (He.ga K "Below") "outcome" = He.ma K (He.ga K "Shape") "outcome"), decide (He.ma K (He.ga K "Sets") "outcome" = He.ma K (He.ga K "Shape") "outcome"), decide (He.ma K (He.ga K "Pair") "outcome" = He.ma K (He.ga K "Shape") "outcome"), decide (He.ma K (He.ga K "Rows") "outcome" = He.ma K (He.ga K "Shape") "outcome"), insB K (He.ga K "Below"), insB K (He.ga K "Shares"), insB K (He.ga K "Orders"), insB K (He.ga K "Sets"), insB K (He.ga K "Pair"), insB K (He.ga K "Rows"), (K.lookup PySem.sysModules).isSome, decide (PySem.W.kitOne K (.ref (He.ga K "Below")) (.ref (He.ga K "Shape")) = some true), decide (PySem.W.kitOne K (.ref (He.ga K "Shares")) (.ref (He.ga K "Shape")) = some true), decide (PySem.W.kitOne K (.ref (He.ga K "Orders")) (.ref (He.ga K "Shape")) = some true), decide (PySem.W.kitOne K (.ref (He.ga K "Sets")) (.ref (He.ga K "Shape")) = some true), decide (PySem.W.kitOne K (.ref (He.ga K "Pair")) (.ref (He.ga K "Shape")) = some true), decide (PySem.W.kitOne K (.ref (He.ga K "Rows")) (.ref (He.ga K "Shape")) = some true), decide (PySem.W.exmOne K (.ref (He.ga K "NoNumber")) (.ref (He.ga K "NoNumber")) = some true)] : List Bool)[i]? = some b → b = true := fun i b e => allB_ok p2 i e
  exact {
    cls_Below := He.cls_ok (fc 79 rfl)
    mk_Below := He.mkr_ok (fc 86 rfl)
    cls_Orders := He.cls_ok (fc 80 rfl)
    mk_Orders := He.mkr_ok (fc 87 rfl)
    cls_Pair := He.cls_ok (fc 81 rfl)
    mk_Pair := He.mkr_ok (fc 88 rfl)
    cls_Rows := He.cls_ok (fc 82 rfl)
    mk_Rows := He.mkr_ok (fc 89 rfl)
    cls_Sets := He.cls_ok (fc 83 rfl)
    mk_Sets := He.mkr_ok (fc 90 rfl)
    cls_Shape := He.cls_ok (fc 84 rfl)
    cls_Shares := He.cls_ok (fc 85 rfl)
    mk_Shares := He.mkr_ok (fc 91 rfl)
    na_Below_tallness := He.noat_ok (fc 92 rfl)
    na_Below_whole := He.noat_ok (fc 93 rfl)
    na_Orders_tallness := He.noat_ok (fc 94 rfl)
    na_Orders_things := He.noat_ok (fc 95 rfl)
    na_Orders_whole := He.noat_ok (fc 96 rfl)
    na_Pair_fast := He.noat_ok (fc 97 rfl)
    na_Pair_slow := He.noat_ok (fc 98 rfl)
    na_Pair_tallness := He.noat_ok (fc 99 rfl)
    na_Pair_whole := He.noat_ok (fc 100 rfl)
    na_Rows_bases := He.noat_ok (fc 101 rfl)
    na_Rows_single := He.noat_ok (fc 102 rfl)
    na_Rows_tallness := He.noat_ok (fc 103 rfl)
    na_Rows_whole := He.noat_ok (fc 104 rfl)
    na_Sets_chosen := He.noat_ok (fc 105 rfl)
    na_Sets_tallness := He.noat_ok (fc 106 rfl)
    na_Sets_things := He.noat_ok (fc 107 rfl)
    na_Sets_whole := He.noat_ok (fc 108 rfl)
    na_Shares_portions := He.noat_ok (fc 109 rfl)
    na_Shares_tallness := He.noat_ok (fc 110 rfl)
    na_Shares_whole := He.noat_ok (fc 111 rfl)
    k_MOST_HEIGHT := He.int_ok X G (fc 162 rfl)
    k_MOST_NUMBERS := He.int_ok X G (fc 163 rfl)
    k_MOST_ORDERED := He.int_ok X G (fc 164 rfl)
    k_MOST_OUT_OF := He.int_ok X G (fc 165 rfl)
    k_MOST_RANKED := He.int_ok X G (fc 166 rfl)
    k_MOST_SHARE := He.int_ok X G (fc 167 rfl)
    k_MOST_SHARES := He.int_ok X G (fc 168 rfl)
    k_MOST_THINGS := He.int_ok X G (fc 169 rfl)
    k_MOST_TIMES := He.int_ok X G (fc 170 rfl)
    g_is_whole := He.glo_ok X G (fc 0 rfl)
    F_is_whole := c.def_ 0 rfl
    g_is_within := He.glo_ok X G (fc 1 rfl)
    F_is_within := c.def_ 1 rfl
    g_product := He.glo_ok X G (fc 2 rfl)
    F_product := c.def_ 2 rfl
    g_unmixed := He.glo_ok X G (fc 3 rfl)
    F_unmixed := c.def_ 3 rfl
    g_products_to := He.glo_ok X G (fc 4 rfl)
    F_products_to := c.def_ 4 rfl
    g_orders_many := He.glo_ok X G (fc 5 rfl)
    F_orders_many := c.def_ 5 rfl
    g_order_at := He.glo_ok X G (fc 6 rfl)
    F_order_at := c.def_ 6 rfl
    g_need_many := He.glo_ok X G (fc 7 rfl)
    F_need_many := c.def_ 7 rfl
    g_ways := He.glo_ok X G (fc 8 rfl)
    F_ways := c.def_ 8 rfl
    g_sets_many := He.glo_ok X G (fc 9 rfl)
    F_sets_many := c.def_ 9 rfl
    g_set_at := He.glo_ok X G (fc 10 rfl)
    F_set_at := c.def_ 10 rfl
    g_need_shares := He.glo_ok X G (fc 11 rfl)
    F_need_shares := c.def_ 11 rfl
    g_shares_many := He.glo_ok X G (fc 12 rfl)
    F_shares_many := c.def_ 12 rfl
    g_parted_at := He.glo_ok X G (fc 13 rfl)
    F_parted_at := c.def_ 13 rfl
    g_share_at := He.glo_ok X G (fc 14 rfl)
    F_share_at := c.def_ 14 rfl
    g_need_number := He.glo_ok X G (fc 15 rfl)
    F_need_number := c.def_ 15 rfl
    F_Sets_height := by
      have e : He.ma K (He.ga K "Sets") "height" = He.ma K (He.ga K "Shape") "height" := of_decide_eq_true (ec 7 rfl)
      rw [e]
      exact c.def_ 16 rfl
    M_Sets_height := He.meth_ok (fc 112 rfl)
    F_Shares_height := by
      have e : He.ma K (He.ga K "Shares") "height" = He.ma K (He.ga K "Shape") "height" := of_decide_eq_true (ec 8 rfl)
      rw [e]
      exact c.def_ 16 rfl
    M_Shares_height := He.meth_ok (fc 113 rfl)
    F_Pair_height := by
      have e : He.ma K (He.ga K "Pair") "height" = He.ma K (He.ga K "Shape") "height" := of_decide_eq_true (ec 9 rfl)
      rw [e]
      exact c.def_ 16 rfl
    M_Pair_height := He.meth_ok (fc 114 rfl)
    F_Orders_height := by
      have e : He.ma K (He.ga K "Orders") "height" = He.ma K (He.ga K "Shape") "height" := of_decide_eq_true (ec 10 rfl)
      rw [e]
      exact c.def_ 16 rfl
    M_Orders_height := He.meth_ok (fc 115 rfl)
    F_Rows_height := by
      have e : He.ma K (He.ga K "Rows") "height" = He.ma K (He.ga K "Shape") "height" := of_decide_eq_true (ec 11 rfl)
      rw [e]
      exact c.def_ 16 rfl
    M_Rows_height := He.meth_ok (fc 116 rfl)
    F_Below_height := by
      have e : He.ma K (He.ga K "Below") "height" = He.ma K (He.ga K "Shape") "height" := of_decide_eq_true (ec 12 rfl)
      rw [e]
      exact c.def_ 16 rfl
    M_Below_height := He.meth_ok (fc 117 rfl)
    g_need_shape := He.glo_ok X G (fc 16 rfl)
    F_need_shape := c.def_ 17 rfl
    g__law_cell_at := He.glo_ok X G (fc 17 rfl)
    F__law_cell_at := c.def_ 18 rfl
    g__law_box := He.glo_ok X G (fc 18 rfl)
    F__law_box := c.def_ 19 rfl
    g__law_take := He.glo_ok X G (fc 19 rfl)
    F__law_take := c.def_ 20 rfl
    g__law_is_whole := He.glo_ok X G (fc 20 rfl)
    F__law_is_whole := c.def_ 21 rfl
    g__law_orders := He.glo_ok X G (fc 21 rfl)
    F__law_orders := c.def_ 22 rfl
    g__law_sets := He.glo_ok X G (fc 22 rfl)
    F__law_sets := c.def_ 23 rfl
    g__law_total := He.glo_ok X G (fc 23 rfl)
    F__law_total := c.def_ 24 rfl
    F_sinit_Below := c.def_ 25 rfl
    M_sinit_Below := He.meth_ok (fc 134 rfl)
    F_Below_init := c.def_ 26 rfl
    M_Below_init := He.meth_ok (fc 119 rfl)
    F_sinit_Shares := c.def_ 25 rfl
    M_sinit_Shares := He.meth_ok (fc 134 rfl)
    F_Shares_init := c.def_ 27 rfl
    M_Shares_init := He.meth_ok (fc 121 rfl)
    F_sinit_Orders := c.def_ 25 rfl
    M_sinit_Orders := He.meth_ok (fc 134 rfl)
    F_Orders_init := c.def_ 28 rfl
    M_Orders_init := He.meth_ok (fc 123 rfl)
    F_sinit_Sets := c.def_ 25 rfl
    M_sinit_Sets := He.meth_ok (fc 134 rfl)
    F_Sets_init := c.def_ 29 rfl
    M_Sets_init := He.meth_ok (fc 125 rfl)
    F_Pair_numbers := by
      have e : He.ma K (He.ga K "Pair") "numbers" = He.ma K (He.ga K "Shape") "numbers" := of_decide_eq_true (ec 13 rfl)
      rw [e]
      exact c.def_ 30 rfl
    M_Pair_numbers := He.meth_ok (fc 126 rfl)
    F_Shares_numbers := by
      have e : He.ma K (He.ga K "Shares") "numbers" = He.ma K (He.ga K "Shape") "numbers" := of_decide_eq_true (ec 14 rfl)
      rw [e]
      exact c.def_ 30 rfl
    M_Shares_numbers := He.meth_ok (fc 127 rfl)
    F_Sets_numbers := by
      have e : He.ma K (He.ga K "Sets") "numbers" = He.ma K (He.ga K "Shape") "numbers" := of_decide_eq_true (ec 15 rfl)
      rw [e]
      exact c.def_ 30 rfl
    M_Sets_numbers := He.meth_ok (fc 128 rfl)
    F_Rows_numbers := by
      have e : He.ma K (He.ga K "Rows") "numbers" = He.ma K (He.ga K "Shape") "numbers" := of_decide_eq_true (ec 16 rfl)
      rw [e]
      exact c.def_ 30 rfl
    M_Rows_numbers := He.meth_ok (fc 129 rfl)
    F_Orders_numbers := by
      have e : He.ma K (He.ga K "Orders") "numbers" = He.ma K (He.ga K "Shape") "numbers" := of_decide_eq_true (ec 17 rfl)
      rw [e]
      exact c.def_ 30 rfl
    M_Orders_numbers := He.meth_ok (fc 130 rfl)
    F_Below_numbers := by
      have e : He.ma K (He.ga K "Below") "numbers" = He.ma K (He.ga K "Shape") "numbers" := of_decide_eq_true (ec 18 rfl)
      rw [e]
      exact c.def_ 30 rfl
    M_Below_numbers := He.meth_ok (fc 131 rfl)
    F_sinit_Pair := c.def_ 25 rfl
    M_sinit_Pair := He.meth_ok (fc 134 rfl)
    F_Pair_init := c.def_ 31 rfl
    M_Pair_init := He.meth_ok (fc 133 rfl)
    F_sinit_Rows := c.def_ 25 rfl
    M_sinit_Rows := He.meth_ok (fc 134 rfl)
    F_Rows_init := c.def_ 32 rfl
    M_Rows_init := He.meth_ok (fc 135 rfl)
    g__law_shape := He.glo_ok X G (fc 24 rfl)
    F__law_shape := c.def_ 33 rfl
    g__law_portions := He.glo_ok X G (fc 25 rfl)
    F__law_portions := c.def_ 34 rfl
    g__law_simple := He.glo_ok X G (fc 26 rfl)
    F__law_simple := c.def_ 35 rfl
    g__law_weight := He.glo_ok X G (fc 27 rfl)
    F__law_weight := c.def_ 36 rfl
    g__law_told := He.glo_ok X G (fc 28 rfl)
    F__law_told := c.def_ 37 rfl
    g__law_order := He.glo_ok X G (fc 29 rfl)
    F__law_order := c.def_ 38 rfl
    g__law_set := He.glo_ok X G (fc 30 rfl)
    F__law_set := c.def_ 39 rfl
    g__law_share := He.glo_ok X G (fc 31 rfl)
    F__law_share := c.def_ 40 rfl
    g__law_outcome := He.glo_ok X G (fc 32 rfl)
    F__law_outcome := c.def_ 41 rfl
    g__law_same := He.glo_ok X G (fc 33 rfl)
    F__law_same := c.def_ 42 rfl
    g__law_height := He.glo_ok X G (fc 34 rfl)
    F__law_height := c.def_ 43 rfl
    g__law_numbers := He.glo_ok X G (fc 35 rfl)
    F__law_numbers := c.def_ 44 rfl
    F_Shares_outcome_at := c.def_ 45 rfl
    M_Shares_outcome_at := He.meth_ok (fc 136 rfl)
    F_Shares_outcome := by
      have e : He.ma K (He.ga K "Shares") "outcome" = He.ma K (He.ga K "Shape") "outcome" := of_decide_eq_true (ec 19 rfl)
      rw [e]
      exact c.def_ 46 rfl
    M_Shares_outcome := He.meth_ok (fc 157 rfl)
    F_Orders_outcome_at := c.def_ 47 rfl
    M_Orders_outcome_at := He.meth_ok (fc 138 rfl)
    F_Orders_outcome := by
      have e : He.ma K (He.ga K "Orders") "outcome" = He.ma K (He.ga K "Shape") "outcome" := of_decide_eq_true (ec 20 rfl)
      rw [e]
      exact c.def_ 46 rfl
    M_Orders_outcome := He.meth_ok (fc 156 rfl)
    F_Below_outcome_at := by
      have e : He.ma K (He.ga K "Below") "outcome_at" = He.ma K (He.ga K "Shape") "outcome_at" := of_decide_eq_true (ec 21 rfl)
      rw [e]
      exact c.def_ 48 rfl
    M_Below_outcome_at := He.meth_ok (fc 140 rfl)
    F_Below_outcome := by
      have e : He.ma K (He.ga K "Below") "outcome" = He.ma K (He.ga K "Shape") "outcome" := of_decide_eq_true (ec 22 rfl)
      rw [e]
      exact c.def_ 46 rfl
    M_Below_outcome := He.meth_ok (fc 160 rfl)
    F_Sets_outcome_at := c.def_ 49 rfl
    M_Sets_outcome_at := He.meth_ok (fc 142 rfl)
    F_Sets_outcome := by
      have e : He.ma K (He.ga K "Sets") "outcome" = He.ma K (He.ga K "Shape") "outcome" := of_decide_eq_true (ec 23 rfl)
      rw [e]
      exact c.def_ 46 rfl
    M_Sets_outcome := He.meth_ok (fc 158 rfl)
    F_Pair_outcome_at_1 := c.def_ 50 rfl
    M_Pair_outcome_at_1 := He.meth_ok (fc 152 rfl)
    F_Pair_outcome_1 := by
      have e : He.ma K (He.ga K "Pair") "outcome" = He.ma K (He.ga K "Shape") "outcome" := of_decide_eq_true (ec 24 rfl)
      rw [e]
      exact c.def_ 46 rfl
    M_Pair_outcome_1 := He.meth_ok (fc 161 rfl)
    F_Rows_outcome_at_1 := c.def_ 51 rfl
    M_Rows_outcome_at_1 := He.meth_ok (fc 154 rfl)
    F_Rows_outcome_1 := by
      have e : He.ma K (He.ga K "Rows") "outcome" = He.ma K (He.ga K "Shape") "outcome" := of_decide_eq_true (ec 25 rfl)
      rw [e]
      exact c.def_ 46 rfl
    M_Rows_outcome_1 := He.meth_ok (fc 159 rfl)
    F_Pair_outcome_at_2 := c.def_ 50 rfl
    M_Pair_outcome_at_2 := He.meth_ok (fc 152 rfl)
    F_Pair_outcome_2 := by
      have e : He.ma K (He.ga K "Pair") "outcome" = He.ma K (He.ga K "Shape") "outcome" := of_decide_eq_true (ec 24 rfl)
      rw [e]
      exact c.def_ 46 rfl
    M_Pair_outcome_2 := He.meth_ok (fc 161 rfl)
    F_Rows_outcome_at_2 := c.def_ 51 rfl
    M_Rows_outcome_at_2 := He.meth_ok (fc 154 rfl)
    F_Rows_outcome_2 := by
      have e : He.ma K (He.ga K "Rows") "outcome" = He.ma K (He.ga K "Shape") "outcome" := of_decide_eq_true (ec 25 rfl)
      rw [e]
      exact c.def_ 46 rfl
    M_Rows_outcome_2 := He.meth_ok (fc 159 rfl)
    F_Pair_outcome_at_3 := c.def_ 50 rfl
    M_Pair_outcome_at_3 := He.meth_ok (fc 152 rfl)
    F_Pair_outcome_3 := by
      have e : He.ma K (He.ga K "Pair") "outcome" = He.ma K (He.ga K "Shape") "outcome" := of_decide_eq_true (ec 24 rfl)
      rw [e]
      exact c.def_ 46 rfl
    M_Pair_outcome_3 := He.meth_ok (fc 161 rfl)
    F_Rows_outcome_at_3 := c.def_ 51 rfl
    M_Rows_outcome_at_3 := He.meth_ok (fc 154 rfl)
    F_Rows_outcome_3 := by
      have e : He.ma K (He.ga K "Rows") "outcome" = He.ma K (He.ga K "Shape") "outcome" := of_decide_eq_true (ec 25 rfl)
      rw [e]
      exact c.def_ 46 rfl
    M_Rows_outcome_3 := He.meth_ok (fc 159 rfl)
    g__law_right := He.glo_ok X G (fc 36 rfl)
    F__law_right := c.def_ 52 rfl
    F_ref_Orders := by
      have e : He.ma K (He.ga K "Orders") "outcome" = He.ma K (He.ga K "Shape") "outcome" := of_decide_eq_true (ec 20 rfl)
      rw [e]
      exact c.def_ 46 rfl
    M_ref_Orders := He.meth_ok (fc 156 rfl)
    F_ref_Shares := by
      have e : He.ma K (He.ga K "Shares") "outcome" = He.ma K (He.ga K "Shape") "outcome" := of_decide_eq_true (ec 19 rfl)
      rw [e]
      exact c.def_ 46 rfl
    M_ref_Shares := He.meth_ok (fc 157 rfl)
    F_ref_Sets := by
      have e : He.ma K (He.ga K "Sets") "outcome" = He.ma K (He.ga K "Shape") "outcome" := of_decide_eq_true (ec 23 rfl)
      rw [e]
      exact c.def_ 46 rfl
    M_ref_Sets := He.meth_ok (fc 158 rfl)
    F_ref_Rows := by
      have e : He.ma K (He.ga K "Rows") "outcome" = He.ma K (He.ga K "Shape") "outcome" := of_decide_eq_true (ec 25 rfl)
      rw [e]
      exact c.def_ 46 rfl
    M_ref_Rows := He.meth_ok (fc 159 rfl)
    F_ref_Below := by
      have e : He.ma K (He.ga K "Below") "outcome" = He.ma K (He.ga K "Shape") "outcome" := of_decide_eq_true (ec 22 rfl)
      rw [e]
      exact c.def_ 46 rfl
    M_ref_Below := He.meth_ok (fc 160 rfl)
    F_ref_Pair := by
      have e : He.ma K (He.ga K "Pair") "outcome" = He.ma K (He.ga K "Shape") "outcome" := of_decide_eq_true (ec 24 rfl)
      rw [e]
      exact c.def_ 46 rfl
    M_ref_Pair := He.meth_ok (fc 161 rfl)
    g__law_refused := He.glo_ok X G (fc 37 rfl)
    F__law_refused := c.def_ 53 rfl
    g__law_refused_right := He.glo_ok X G (fc 38 rfl)
    F__law_refused_right := c.def_ 54 rfl
    g__law_made := He.glo_ok X G (fc 39 rfl)
    F__law_made := c.def_ 55 rfl
    g_law := He.glo_ok X G (fc 40 rfl)
    F_law := c.def_ 56 rfl
    g_SeedError := He.glo_ok X G (fc 41 rfl)
    g_NoNumber := He.glo_ok X G (fc 42 rfl)
    g_NoWidth := He.glo_ok X G (fc 43 rfl)
    g_NoShares := He.glo_ok X G (fc 44 rfl)
    g_NoShape := He.glo_ok X G (fc 45 rfl)
    g_TooWide := He.glo_ok X G (fc 46 rfl)
    g_Shape := He.glo_ok X G (fc 47 rfl)
    g_Below := He.glo_ok X G (fc 48 rfl)
    g_Shares := He.glo_ok X G (fc 49 rfl)
    g_Orders := He.glo_ok X G (fc 50 rfl)
    g_Sets := He.glo_ok X G (fc 51 rfl)
    g_Pair := He.glo_ok X G (fc 52 rfl)
    g_Rows := He.glo_ok X G (fc 53 rfl)
    n_all := He.free_ok X G (fc 54 rfl)
    n_bool := He.free_ok X G (fc 55 rfl)
    n_divmod := He.free_ok X G (fc 56 rfl)
    n_int := He.free_ok X G (fc 57 rfl)
    n_isinstance := He.free_ok X G (fc 58 rfl)
    n_len := He.free_ok X G (fc 59 rfl)
    n_list := He.free_ok X G (fc 60 rfl)
    n_max := He.free_ok X G (fc 61 rfl)
    n_min := He.free_ok X G (fc 62 rfl)
    n_range := He.free_ok X G (fc 63 rfl)
    n_repr := He.free_ok X G (fc 64 rfl)
    n_reversed := He.free_ok X G (fc 65 rfl)
    n_str := He.free_ok X G (fc 66 rfl)
    n_sum := He.free_ok X G (fc 67 rfl)
    n_tuple := He.free_ok X G (fc 68 rfl)
    x_NoNumber := exB_ok (ec 0 rfl)
    a_NoNumber_found := He.noat_ok (fc 69 rfl)
    m_NoNumber := He.meth_ok (fc 74 rfl)
    I_NoNumber := c.def_ 57 rfl
    x_NoWidth := exB_ok (ec 1 rfl)
    a_NoWidth_found := He.noat_ok (fc 70 rfl)
    m_NoWidth := He.meth_ok (fc 75 rfl)
    I_NoWidth := c.def_ 58 rfl
    x_NoShares := exB_ok (ec 2 rfl)
    a_NoShares_found := He.noat_ok (fc 71 rfl)
    m_NoShares := He.meth_ok (fc 76 rfl)
    I_NoShares := c.def_ 59 rfl
    x_NoShape := exB_ok (ec 3 rfl)
    a_NoShape_found := He.noat_ok (fc 72 rfl)
    m_NoShape := He.meth_ok (fc 77 rfl)
    I_NoShape := c.def_ 60 rfl
    x_TooWide := exB_ok (ec 4 rfl)
    a_TooWide_total := He.noat_ok (fc 73 rfl)
    m_TooWide := He.meth_ok (fc 78 rfl)
    I_TooWide := c.def_ 61 rfl
    i0 := iniB_ok (ec 5 rfl)
    cf_Shape_init := clfB_ok (ec 6 rfl)
    ins_Below := insB_ok (ec 26 rfl)
    ins_Shares := insB_ok (ec 27 rfl)
    ins_Orders := insB_ok (ec 28 rfl)
    ins_Sets := insB_ok (ec 29 rfl)
    ins_Pair := insB_ok (ec 30 rfl)
    ins_Rows := insB_ok (ec 31 rfl)
    sm := ec 32 rfl
    kit_Below_Shape := of_decide_eq_true (ec 33 rfl)
    kit_Shares_Shape := of_decide_eq_true (ec 34 rfl)
    kit_Orders_Shape := of_decide_eq_true (ec 35 rfl)
    kit_Sets_Shape := of_decide_eq_true (ec 36 rfl)
    kit_Pair_Shape := of_decide_eq_true (ec 37 rfl)
    kit_Rows_Shape := of_decide_eq_true (ec 38 rfl)
    exm_NoNumber_NoNumber := of_decide_eq_true (ec 39 rfl)
  }
theorem ex_NoNumber {P : Program} {w : World} {K : Fg} {mg : Str → Option Value} {base : Heap} (T : Tx K mg w) : Exn P w K mg base "NoNumber" "found" := by
  obtain ⟨fd, F⟩ := T.I_NoNumber
  exact exn_mk T.g_NoNumber T.x_NoNumber T.a_NoNumber_found T.m_NoNumber F ⟨rfl, rfl, rfl, by decide +kernel, rfl, by decide +kernel, by decide +kernel⟩ rfl rfl rfl rfl (by decide) (by decide) rfl T.i0 T.g_SeedError (fun _ _ _ _ _ _ us hl => match us, hl with | [_, _], _ => rfl)
theorem ex_NoWidth {P : Program} {w : World} {K : Fg} {mg : Str → Option Value} {base : Heap} (T : Tx K mg w) : Exn P w K mg base "NoWidth" "found" := by
  obtain ⟨fd, F⟩ := T.I_NoWidth
  exact exn_mk T.g_NoWidth T.x_NoWidth T.a_NoWidth_found T.m_NoWidth F ⟨rfl, rfl, rfl, by decide +kernel, rfl, by decide +kernel, by decide +kernel⟩ rfl rfl rfl rfl (by decide) (by decide) rfl T.i0 T.g_SeedError (fun _ _ _ _ _ _ us hl => match us, hl with | [_, _], _ => rfl)
theorem ex_NoShares {P : Program} {w : World} {K : Fg} {mg : Str → Option Value} {base : Heap} (T : Tx K mg w) : Exn P w K mg base "NoShares" "found" := by
  obtain ⟨fd, F⟩ := T.I_NoShares
  exact exn_mk T.g_NoShares T.x_NoShares T.a_NoShares_found T.m_NoShares F ⟨rfl, rfl, rfl, by decide +kernel, rfl, by decide +kernel, by decide +kernel⟩ rfl rfl rfl rfl (by decide) (by decide) rfl T.i0 T.g_SeedError (fun _ _ _ _ _ _ us hl => match us, hl with | [_, _], _ => rfl)
theorem ex_NoShape {P : Program} {w : World} {K : Fg} {mg : Str → Option Value} {base : Heap} (T : Tx K mg w) : Exn P w K mg base "NoShape" "found" := by
  obtain ⟨fd, F⟩ := T.I_NoShape
  exact exn_mk T.g_NoShape T.x_NoShape T.a_NoShape_found T.m_NoShape F ⟨rfl, rfl, rfl, by decide +kernel, rfl, by decide +kernel, by decide +kernel⟩ rfl rfl rfl rfl (by decide) (by decide) rfl T.i0 T.g_SeedError (fun _ _ _ _ _ _ us hl => match us, hl with | [_, _], _ => rfl)
theorem ex_TooWide {P : Program} {w : World} {K : Fg} {mg : Str → Option Value} {base : Heap} (T : Tx K mg w) : Exn P w K mg base "TooWide" "total" := by
  obtain ⟨fd, F⟩ := T.I_TooWide
  exact exn_mk T.g_TooWide T.x_TooWide T.a_TooWide_total T.m_TooWide F ⟨rfl, rfl, rfl, by decide +kernel, rfl, by decide +kernel, by decide +kernel⟩ rfl rfl rfl rfl (by decide) (by decide) rfl T.i0 T.g_SeedError (fun _ _ _ _ _ _ us hl => match us, hl with | [_, _], _ => rfl)
/-! ### the box, the heap without it -/
def Well (H : Hp) (p : Addr) : Prop := ∃ x0 x1 x2 : Int, H p = some (.lst [.int x0, .int x1, .int x2])
def wo (p : Addr) (H : Hp) : Hp := fun a => if a = p then none else H a
theorem wo_same {p : Addr} {H : Hp} : Same (wo p H) H := fun a o e => by
  unfold wo at e
  split at e
  · cases e
  · exact e
theorem wo_at {p a : Addr} {H : Hp} (n : a ≠ p) : wo p H a = H a := by
  unfold wo
  rw [if_neg n]
def Wl (p : Addr) (H H' : Hp) : Prop := Well H' p ∧ Same (wo p H) (wo p H')
theorem Wl.refl {p : Addr} {H : Hp} (h : Well H p) : Wl p H H := ⟨h, fun _ _ e => e⟩
theorem Wl.trans {p : Addr} {H H1 H2 : Hp} (a : Wl p H H1) (b : Wl p H1 H2) : Wl p H H2 := ⟨b.1, Same.trans a.2 b.2⟩
theorem Well.same {H H' : Hp} {p : Addr} (s : Same H H') (h : Well H p) : Well H' p := by
  obtain ⟨x0, x1, x2, e⟩ := h
  exact ⟨x0, x1, x2, s _ _ e⟩
theorem Wl.of_same {p : Addr} {H H' : Hp} (h : Well H p) (s : Same H H') : Wl p H H' := by
  refine ⟨Well.same s h, fun a o z => ?_⟩
  unfold wo at z ⊢
  split at z
  · cases z
  · rename_i n
    rw [if_neg n]
    exact s _ _ z
theorem Wl.at {p a : Addr} {H H' : Hp} {o : HO} (w : Wl p H H') (n : a ≠ p) (e : H a = some o) : H' a = some o := wo_same _ _ (w.2 a o (by rw [wo_at n]; exact e))
theorem Wl.mut {p q : Addr} {H H1 : Hp} {o : HO} (w : Wl p H H1) (n : q ≠ p) (f : H q = none) : Wl p H (upd H1 q o) := by
  obtain ⟨⟨x0, x1, x2, e⟩, s⟩ := w
  refine ⟨⟨x0, x1, x2, by rw [upd_ne n.symm]; exact e⟩, fun a u h => ?_⟩
  have h2 := s a u h
  unfold wo at h h2 ⊢
  split at h
  · cases h
  · rename_i k
    rw [if_neg k] at h2 ⊢
    rw [upd_ne (ne_of_none h f)]
    exact h2
theorem Wl.draw {p : Addr} {H1 H2 : Hp} (h : Well H2 p) (e : ∀ a, a ≠ p → H2 a = H1 a) : Wl p H1 H2 := ⟨h, fun a o k => by
  unfold wo at k ⊢
  split at k
  · cases k
  · rename_i n
    rw [if_neg n, e a n]
    exact k⟩
/-- a list or a tuple at a place -/
def Sq (H : Hp) (v : V) (xs : List V) : Prop := ∃ p o, v = .ref p ∧ H p = some o ∧ seqO o = some xs
theorem Sq.same {H H' : Hp} (s : Same H H') {v : V} {xs : List V} (h : Sq H v xs) : Sq H' v xs := by
  obtain ⟨p, o, e, h, k⟩ := h
  exact ⟨p, o, e, s _ _ h, k⟩
def TyA (H : Hp) (x : V) : Prop := ∃ n, tyN H x = some n
theorem TyA.same {H H' : Hp} (s : Same H H') {v : V} (h : TyA H v) : TyA H' v := h.imp fun _ e => tyN_same s e
/-! ### numbers -/
def fac : Nat → Int
  | 0 => 1
  | n + 1 => fac n * ((n : Int) + 1)
def wl (n : Nat) : Nat → Int
  | 0 => 1
  | k + 1 => wl n k * ((n : Int) - k) / ((k : Int) + 1)
def wys (n k : Nat) : Int := if n < k then 0 else wl n k
def sumI (ps : List Int) : Int := ps.sum
def dig (t : Int) : Nat → Int → List Int
  | 0, _ => []
  | n + 1, z => dig t n (z / t) ++ [z % t]
def ordGo : Nat → Int → List Int → List Int
  | 0, _, _ => []
  | k + 1, z, left => left.getD (z / fac k).toNat 0 :: ordGo k (z % fac k) (left.eraseIdx (z / fac k).toNat)
def ordAt (n : Nat) (z : Int) : List Int := ordGo n z ((List.range n).map fun j : Nat => (j : Int))
def setStep (n k : Nat) (s : Int × List Int) (one : Nat) : Int × List Int :=
  if s.2.length < k then (if s.1 < wys (n - one - 1) (k - s.2.length - 1) then (s.1, s.2 ++ [(one : Int)]) else (s.1 - wys (n - one - 1) (k - s.2.length - 1), s.2)) else s
def setTo (n k : Nat) (z : Int) : Nat → Int × List Int
  | 0 => (z, [])
  | i + 1 => setStep n k (setTo n k z i) i
def setAt (n k : Nat) (z : Int) : List Int := (setTo n k z n).2
def shGo : List Int → Int → Nat
  | [], _ => 0
  | p :: r, z => if p ≤ z then shGo r (z - p) + 1 else 0
/-! ### shapes -/
inductive Sh
  | bound (b : Int)
  | shares (ps : List Int)
  | orders (n : Nat)
  | sets (n k : Nat)
  | pair (a b : Sh)
  | rows (a : Sh) (n : Nat)
def Sh.tot : Sh → Int
  | .bound b => b
  | .shares ps => ps.sum
  | .orders n => fac n
  | .sets n k => wys n k
  | .pair a b => a.tot * b.tot
  | .rows a n => a.tot ^ n
def Sh.ht : Sh → Nat
  | .pair a b => 1 + max a.ht b.ht
  | .rows a _ => 1 + a.ht
  | _ => 0
def Sh.ok : Sh → Prop
  | .bound b => 1 ≤ b ∧ b ≤ 2 ^ 64
  | .shares ps => 1 ≤ ps.length ∧ ps.length ≤ 60 ∧ (∀ p ∈ ps, 0 ≤ p ∧ p ≤ 1000000) ∧ 1 ≤ ps.sum
  | .orders n => n ≤ 20
  | .sets n k => n ≤ 60 ∧ k ≤ n
  | .pair a b => a.ok ∧ b.ok ∧ a.tot * b.tot ≤ 2 ^ 64
  | .rows a n => a.ok ∧ n ≤ 12 ∧ a.tot ^ n ≤ 2 ^ 64
def kindOf : Sh → Str
  | .bound _ => "Below"
  | .shares _ => "Shares"
  | .orders _ => "Orders"
  | .sets _ _ => "Sets"
  | .pair _ _ => "Pair"
  | .rows _ _ => "Rows"
def All2 {α β : Type} (R : α → β → Prop) : List α → List β → Prop
  | [], [] => True
  | a :: r, b :: s => R a b ∧ All2 R r s
  | _, _ => False
/-- v is the outcome of the number z -/
def Rp (H : Hp) : Sh → Int → V → Prop
  | .bound _, z, v => v = .int z
  | .shares ps, z, v => v = .int (shGo ps z : Nat)
  | .orders n, z, v => ∃ p, v = .ref p ∧ H p = some (.tup ((ordAt n z).map V.int))
  | .sets n k, z, v => ∃ p, v = .ref p ∧ H p = some (.tup ((setAt n k z).map V.int))
  | .pair a b, z, v => ∃ p x y, v = .ref p ∧ H p = some (.tup [x, y]) ∧ Rp H a (z / b.tot) x ∧ Rp H b (z % b.tot) y
  | .rows a n, z, v => ∃ p xs, v = .ref p ∧ H p = some (.tup xs) ∧ All2 (Rp H a) (dig a.tot n z) xs
/-- v tells the shape, as the law tells it -/
def Td (H : Hp) : Sh → V → Prop
  | .bound b, v => ∃ p, v = .ref p ∧ H p = some (.tup [.str "below", .int b])
  | .shares ps, v => ∃ p q, v = .ref p ∧ H p = some (.tup [.str "shares", .ref q]) ∧ H q = some (.tup (ps.map V.int))
  | .orders n, v => ∃ p, v = .ref p ∧ H p = some (.tup [.str "orders", .int (n : Nat)])
  | .sets n k, v => ∃ p, v = .ref p ∧ H p = some (.tup [.str "sets", .int (n : Nat), .int (k : Nat)])
  | .pair a b, v => ∃ p x y, v = .ref p ∧ H p = some (.tup [.str "pair", x, y]) ∧ Td H a x ∧ Td H b y
  | .rows a n, v => ∃ p x, v = .ref p ∧ H p = some (.tup [.str "rows", x, .int (n : Nat)]) ∧ Td H a x
/-- v is the object of the shape -/
def Ob (K : Fg) (H : Hp) : Sh → V → Prop
  | .bound b, v => ∃ a dx, v = .ref a ∧ H a = some (.ins (He.ga K "Below") dx [("whole", .int b), ("tallness", .int 0)])
  | .shares ps, v => ∃ a dx q, v = .ref a ∧ H a = some (.ins (He.ga K "Shares") dx [("whole", .int ps.sum), ("tallness", .int 0), ("portions", .ref q)]) ∧ H q = some (.tup (ps.map V.int))
  | .orders n, v => ∃ a dx, v = .ref a ∧ H a = some (.ins (He.ga K "Orders") dx [("whole", .int (fac n)), ("tallness", .int 0), ("things", .int (n : Nat))])
  | .sets n k, v => ∃ a dx, v = .ref a ∧ H a = some (.ins (He.ga K "Sets") dx [("whole", .int (wys n k)), ("tallness", .int 0), ("things", .int (n : Nat)), ("chosen", .int (k : Nat))])
  | .pair s t, v => ∃ a dx x y, v = .ref a ∧ H a = some (.ins (He.ga K "Pair") dx [("slow", x), ("fast", y), ("whole", .int (s.tot * t.tot)), ("tallness", .int ((Sh.pair s t).ht : Nat))]) ∧ Ob K H s x ∧ Ob K H t y
  | .rows s n, v => ∃ a dx x q, v = .ref a ∧ H a = some (.ins (He.ga K "Rows") dx [("single", x), ("bases", .ref q), ("whole", .int (s.tot ^ n)), ("tallness", .int ((Sh.rows s n).ht : Nat))]) ∧ Ob K H s x ∧ H q = some (.lst (List.replicate n (.int s.tot)))
theorem All2.imp {α β : Type} {R S : α → β → Prop} (h : ∀ a b, R a b → S a b) : ∀ {l : List α} {m : List β}, All2 R l m → All2 S l m
  | [], [], _ => True.intro
  | _ :: _, _ :: _, ⟨x, y⟩ => ⟨h _ _ x, All2.imp h y⟩
  | [], _ :: _, x => x
  | _ :: _, [], x => x
theorem Rp.same {H H' : Hp} (s : Same H H') : ∀ {sh : Sh} {z : Int} {v : V}, Rp H sh z v → Rp H' sh z v
  | .bound _, _, _, h => h
  | .shares _, _, _, h => h
  | .orders _, _, _, ⟨p, e, h⟩ => ⟨p, e, s _ _ h⟩
  | .sets _ _, _, _, ⟨p, e, h⟩ => ⟨p, e, s _ _ h⟩
  | .pair a b, _, _, ⟨p, x, y, e, h, h1, h2⟩ => ⟨p, x, y, e, s _ _ h, Rp.same s (sh := a) h1, Rp.same s (sh := b) h2⟩
  | .rows a n, _, _, ⟨p, xs, e, h, h1⟩ => ⟨p, xs, e, s _ _ h, All2.imp (fun _ _ k => Rp.same s (sh := a) k) h1⟩
theorem Td.same {H H' : Hp} (s : Same H H') : ∀ {sh : Sh} {v : V}, Td H sh v → Td H' sh v
  | .bound _, _, ⟨p, e, h⟩ => ⟨p, e, s _ _ h⟩
  | .shares _, _, ⟨p, q, e, h, h2⟩ => ⟨p, q, e, s _ _ h, s _ _ h2⟩
  | .orders _, _, ⟨p, e, h⟩ => ⟨p, e, s _ _ h⟩
  | .sets _ _, _, ⟨p, e, h⟩ => ⟨p, e, s _ _ h⟩
  | .pair a b, _, ⟨p, x, y, e, h, h1, h2⟩ => ⟨p, x, y, e, s _ _ h, Td.same s (sh := a) h1, Td.same s (sh := b) h2⟩
  | .rows a n, _, ⟨p, x, e, h, h1⟩ => ⟨p, x, e, s _ _ h, Td.same s (sh := a) h1⟩
theorem Ob.same {K : Fg} {H H' : Hp} (s : Same H H') : ∀ {sh : Sh} {v : V}, Ob K H sh v → Ob K H' sh v
  | .bound _, _, ⟨a, dx, e, h⟩ => ⟨a, dx, e, s _ _ h⟩
  | .shares _, _, ⟨a, dx, q, e, h, h2⟩ => ⟨a, dx, q, e, s _ _ h, s _ _ h2⟩
  | .orders _, _, ⟨a, dx, e, h⟩ => ⟨a, dx, e, s _ _ h⟩
  | .sets _ _, _, ⟨a, dx, e, h⟩ => ⟨a, dx, e, s _ _ h⟩
  | .pair x y, _, ⟨a, dx, u, v, e, h, h1, h2⟩ => ⟨a, dx, u, v, e, s _ _ h, Ob.same s (sh := x) h1, Ob.same s (sh := y) h2⟩
  | .rows x n, _, ⟨a, dx, u, q, e, h, h1, h2⟩ => ⟨a, dx, u, q, e, s _ _ h, Ob.same s (sh := x) h1, s _ _ h2⟩
/-- what every object of a shape has -/
theorem Ob.any {K : Fg} {H : Hp} {sh : Sh} {v : V} (h : Ob K H sh v) : ∃ a dx fs, v = .ref a ∧ H a = some (.ins (He.ga K (kindOf sh)) dx fs) ∧ fs.lookup ("whole" : Str) = some (.int sh.tot) ∧ fs.lookup ("tallness" : Str) = some (.int (sh.ht : Nat)) ∧
    fs.lookup ("numbers" : Str) = none ∧ fs.lookup ("height" : Str) = none ∧ fs.lookup ("outcome" : Str) = none ∧ fs.lookup ("outcome_at" : Str) = none ∧ fs.lookup ("of" : Str) = none := by
  cases sh with
  | bound b =>
    obtain ⟨a, dx, e, h⟩ := h
    exact ⟨a, dx, _, e, h, rfl, rfl, rfl, rfl, rfl, rfl, rfl⟩
  | shares ps =>
    obtain ⟨a, dx, q, e, h, h2⟩ := h
    exact ⟨a, dx, _, e, h, rfl, rfl, rfl, rfl, rfl, rfl, rfl⟩
  | orders n =>
    obtain ⟨a, dx, e, h⟩ := h
    exact ⟨a, dx, _, e, h, rfl, rfl, rfl, rfl, rfl, rfl, rfl⟩
  | sets n k =>
    obtain ⟨a, dx, e, h⟩ := h
    exact ⟨a, dx, _, e, h, rfl, rfl, rfl, rfl, rfl, rfl, rfl⟩
  | pair x y =>
    obtain ⟨a, dx, u, v, e, h, h1, h2⟩ := h
    exact ⟨a, dx, _, e, h, rfl, rfl, rfl, rfl, rfl, rfl, rfl⟩
  | rows x n =>
    obtain ⟨a, dx, u, q, e, h, h1, h2⟩ := h
    exact ⟨a, dx, _, e, h, rfl, rfl, rfl, rfl, rfl, rfl, rfl⟩
end Law

namespace Law
open PySem PySem.Spec PyProof.Rows L2 Sw
/-! ### the promises -/
def RefE (K : Fg) (H : Hp) (c f : Str) (x : V) (E : XK) : Prop := ∀ H' d, Same H H' → H' d = none → E (.ref (He.ga K c)) (some d) (upd H' d (.xd [(f, x)]))
theorem RefE.same {K : Fg} {H H' : Hp} {c f : Str} {x : V} {E : XK} (s : Same H H') (h : RefE K H c f x E) : RefE K H' c f x E := fun H2 d t n => h H2 d (Same.trans s t) n
def sp_is_whole (_ : Fg) : Sp := sp1 fun x H Q _ => TyA H x ∧ Q (.bl (whole x)) H
def sp_is_within (_ : Fg) : Sp := sp3 fun x lo hi H Q _ => ∃ l h, lo = .int l ∧ hi = .int h ∧ TyA H x ∧ Q (.bl (within x l h)) H
def sp_need_number (K : Fg) : Sp := sp3 fun x lo hi H Q E => ∃ l h, lo = .int l ∧ hi = .int h ∧ TyA H x ∧ (within x l h = true → Q .non H) ∧ (within x l h = false → RefE K H "NoNumber" "found" x E)
def sp_products_to (_ : Fg) : Sp := sp1 fun m H Q _ => ∃ n : Nat, m = .int (n : Int) ∧ n ≤ 60 ∧ ∀ p H', Same H H' → H p = none → H' p = some (.lst ((List.range (n + 1)).map fun j => V.int (fac j))) → Q (.ref p) H'
def sp_orders_many (_ : Fg) : Sp := sp1 fun m H Q _ => ∃ k : Nat, m = .int (k : Int) ∧ k ≤ 20 ∧ ∀ H', Same H H' → Q (.int (fac k)) H'
def sp_order_at (_ : Fg) : Sp := sp2 fun m x H Q _ => ∃ (k : Nat) (z : Int), m = .int (k : Int) ∧ x = .int z ∧ k ≤ 20 ∧ 0 ≤ z ∧ z < fac k ∧ ∀ p H', Same H H' → H' p = some (.tup ((ordAt k z).map V.int)) → Q (.ref p) H'
def sp_need_many (_ : Fg) : Sp := sp1 fun m H Q _ => ∃ n : Nat, m = .int (n : Int) ∧ n ≤ 60 ∧ Q .non H
def sp_ways (_ : Fg) : Sp := sp2 fun a b H Q _ => ∃ n k : Nat, a = .int (n : Int) ∧ b = .int (k : Int) ∧ n ≤ 60 ∧ k ≤ 60 ∧ Q (.int (wys n k)) H
def sp_sets_many (_ : Fg) : Sp := sp2 fun a b H Q _ => ∃ n k : Nat, a = .int (n : Int) ∧ b = .int (k : Int) ∧ n ≤ 60 ∧ k ≤ 60 ∧ Q (.int (wys n k)) H
def sp_set_at (_ : Fg) : Sp := sp3 fun a b x H Q _ => ∃ (n k : Nat) (z : Int), a = .int (n : Int) ∧ b = .int (k : Int) ∧ x = .int z ∧ n ≤ 60 ∧ k ≤ n ∧ 0 ≤ z ∧ z < wys n k ∧ ∀ p H', Same H H' → H' p = some (.tup ((setAt n k z).map V.int)) → Q (.ref p) H'
def shOk (ps : List Int) : Prop := 1 ≤ ps.length ∧ ps.length ≤ 60 ∧ (∀ p ∈ ps, 0 ≤ p ∧ p ≤ 1000000) ∧ 1 ≤ ps.sum
def sp_need_shares (_ : Fg) : Sp := sp1 fun x H Q _ => ∃ ps : List Int, Sq H x (ps.map V.int) ∧ shOk ps ∧ ∀ H', Same H H' → Q .non H'
def sp_shares_many (_ : Fg) : Sp := sp1 fun x H Q _ => ∃ ps : List Int, Sq H x (ps.map V.int) ∧ shOk ps ∧ ∀ H', Same H H' → Q (.int ps.sum) H'
def sp_parted_at (_ : Fg) : Sp := sp2 fun x y H Q _ => ∃ (ps : List Int) (z : Int), Sq H x (ps.map V.int) ∧ shOk ps ∧ y = .int z ∧ 0 ≤ z ∧ z < ps.sum ∧ ∀ p r H', Same H H' → H' p = some (.tup [.int (shGo ps z : Nat), .int r]) → Q (.ref p) H'
def sp_share_at (_ : Fg) : Sp := sp2 fun x y H Q _ => ∃ (ps : List Int) (z : Int), Sq H x (ps.map V.int) ∧ shOk ps ∧ y = .int z ∧ 0 ≤ z ∧ z < ps.sum ∧ ∀ H', Same H H' → Q (.int (shGo ps z : Nat)) H'
def sp_product (_ : Fg) : Sp := sp1 fun x H Q _ => ∃ (p : Addr) (n : Nat) (t : Int), x = .ref p ∧ H p = some (.lst (List.replicate n (.int t))) ∧ n ≤ 12 ∧ 0 ≤ t ∧ t ≤ 2 ^ 64 ∧ Q (.int (t ^ n)) H
def sp_unmixed (_ : Fg) : Sp := sp2 fun y x H Q _ => ∃ (p : Addr) (n : Nat) (t z : Int), x = .ref p ∧ H p = some (.lst (List.replicate n (.int t))) ∧ y = .int z ∧ n ≤ 12 ∧ 1 ≤ t ∧ t ≤ 2 ^ 64 ∧ t ^ n ≤ 2 ^ 64 ∧ 0 ≤ z ∧ z < t ^ n ∧ ∀ q H', Same H H' → H' q = some (.lst ((dig t n z).map V.int)) → Q (.ref q) H'
/-! objects -/
def spNum (C : Str) (K : Fg) : Sp := sp1 fun x H Q _ => ∃ sh, kindOf sh = C ∧ Ob K H sh x ∧ Q (.int sh.tot) H
def spHt (C : Str) (K : Fg) : Sp := sp1 fun x H Q _ => ∃ sh, kindOf sh = C ∧ Ob K H sh x ∧ Q (.int (sh.ht : Nat)) H
def spOut (C : Str) (h : Nat) (K : Fg) : Sp := sp2 fun x y H Q _ => ∃ sh z, kindOf sh = C ∧ sh.ht ≤ h ∧ sh.ok ∧ Ob K H sh x ∧ y = .int z ∧ 0 ≤ z ∧ z < sh.tot ∧ ∀ v H', Same H H' → Rp H' sh z v → Q v H'
def spRef (C : Str) (K : Fg) : Sp := sp2 fun x y H _ E => ∃ sh, kindOf sh = C ∧ Ob K H sh x ∧ TyA H y ∧ within y 0 (sh.tot - 1) = false ∧ RefE K H "NoNumber" "found" y E
def spSin (C : Str) (K : Fg) : Sp := sp3 fun x wh tl H Q _ => ∃ (a dx : Addr) (fs : List (Str × V)) (t l : Int), x = .ref a ∧ H a = some (.ins (He.ga K C) dx fs) ∧ fs.length ≤ 10 ∧ wh = .int t ∧ tl = .int l ∧ t ≤ 2 ^ 64 ∧ Q .non (upd H a (.ins (He.ga K C) dx (putF "tallness" (.int l) (putF "whole" (.int t) fs))))
/-- an init: of a bare object, the heap of all others stays -/
def Bare (K : Fg) (C : Str) (H : Hp) (x : V) (a : Addr) : Prop := x = .ref a ∧ ∃ dx, H a = some (.ins (He.ga K C) dx [])
def Made (K : Fg) (sh : Sh) (H : Hp) (a : Addr) (Q : VK) : Prop := ∀ H', (∀ b o, b ≠ a → H b = some o → H' b = some o) → Ob K H' sh (.ref a) → Q .non H'
def sp_Below_init (K : Fg) : Sp := sp2 fun x b H Q _ => ∃ a t, Bare K "Below" H x a ∧ b = .int t ∧ (Sh.bound t).ok ∧ Made K (.bound t) H a Q
def sp_Shares_init (K : Fg) : Sp := sp2 fun x b H Q _ => ∃ a q ps, Bare K "Shares" H x a ∧ b = .ref q ∧ q ≠ a ∧ H q = some (.lst (ps.map V.int)) ∧ (Sh.shares ps).ok ∧ Made K (.shares ps) H a Q
def sp_Orders_init (K : Fg) : Sp := sp2 fun x b H Q _ => ∃ (a : Addr) (n : Nat), Bare K "Orders" H x a ∧ b = .int (n : Int) ∧ (Sh.orders n).ok ∧ Made K (.orders n) H a Q
def sp_Sets_init (K : Fg) : Sp := sp3 fun x b c H Q _ => ∃ (a : Addr) (n k : Nat), Bare K "Sets" H x a ∧ b = .int (n : Int) ∧ c = .int (k : Int) ∧ (Sh.sets n k).ok ∧ Made K (.sets n k) H a Q
def away (a : Addr) (H : Hp) : Hp := fun b => if b = a then none else H b
/-- the made object has nothing to do with the place p -/
def MadeW (K : Fg) (p : Addr) (sh : Sh) (H : Hp) (a : Addr) (Q : VK) : Prop := ∀ H', (∀ b o, b ≠ a → H b = some o → H' b = some o) → Ob K (wo p H') sh (.ref a) → Q .non H'
def sp_Pair_init (K : Fg) : Sp := sp3 fun x b c H Q _ => ∃ a s t pf, Bare K "Pair" H x a ∧ (Sh.pair s t).ok ∧ s.ht < 3 ∧ t.ht < 3 ∧ pf ≠ a ∧ H pf ≠ none ∧ Ob K (wo pf (away a H)) s b ∧ Ob K (wo pf (away a H)) t c ∧ MadeW K pf (.pair s t) H a Q
def sp_Rows_init (K : Fg) : Sp := sp3 fun x b c H Q _ => ∃ (a : Addr) (s : Sh) (n : Nat) (pf : Addr), Bare K "Rows" H x a ∧ (Sh.rows s n).ok ∧ s.ht < 3 ∧ pf ≠ a ∧ H pf ≠ none ∧ Ob K (wo pf (away a H)) s b ∧ c = .int (n : Int) ∧ MadeW K pf (.rows s n) H a Q
def sp_need_shape (K : Fg) : Sp := sp1 fun x H Q _ => ∃ sh, Ob K H sh x ∧ sh.ht < 3 ∧ Q x H
def sp_Below_numbers (K : Fg) : Sp := spNum "Below" K
def sp_Below_height (K : Fg) : Sp := spHt "Below" K
def sp_sinit_Below (K : Fg) : Sp := spSin "Below" K
def sp_Shares_numbers (K : Fg) : Sp := spNum "Shares" K
def sp_Shares_height (K : Fg) : Sp := spHt "Shares" K
def sp_sinit_Shares (K : Fg) : Sp := spSin "Shares" K
def sp_Orders_numbers (K : Fg) : Sp := spNum "Orders" K
def sp_Orders_height (K : Fg) : Sp := spHt "Orders" K
def sp_sinit_Orders (K : Fg) : Sp := spSin "Orders" K
def sp_Sets_numbers (K : Fg) : Sp := spNum "Sets" K
def sp_Sets_height (K : Fg) : Sp := spHt "Sets" K
def sp_sinit_Sets (K : Fg) : Sp := spSin "Sets" K
def sp_Pair_numbers (K : Fg) : Sp := spNum "Pair" K
def sp_Pair_height (K : Fg) : Sp := spHt "Pair" K
def sp_sinit_Pair (K : Fg) : Sp := spSin "Pair" K
def sp_Rows_numbers (K : Fg) : Sp := spNum "Rows" K
def sp_Rows_height (K : Fg) : Sp := spHt "Rows" K
def sp_sinit_Rows (K : Fg) : Sp := spSin "Rows" K
def sp_ref_Below (K : Fg) : Sp := spRef "Below" K
def sp_ref_Shares (K : Fg) : Sp := spRef "Shares" K
def sp_ref_Orders (K : Fg) : Sp := spRef "Orders" K
def sp_ref_Sets (K : Fg) : Sp := spRef "Sets" K
def sp_ref_Pair (K : Fg) : Sp := spRef "Pair" K
def sp_ref_Rows (K : Fg) : Sp := spRef "Rows" K
def sp_Below_outcome (K : Fg) : Sp := spOut "Below" 0 K
def sp_Below_outcome_at (K : Fg) : Sp := spOut "Below" 0 K
def sp_Shares_outcome (K : Fg) : Sp := spOut "Shares" 0 K
def sp_Shares_outcome_at (K : Fg) : Sp := spOut "Shares" 0 K
def sp_Orders_outcome (K : Fg) : Sp := spOut "Orders" 0 K
def sp_Orders_outcome_at (K : Fg) : Sp := spOut "Orders" 0 K
def sp_Sets_outcome (K : Fg) : Sp := spOut "Sets" 0 K
def sp_Sets_outcome_at (K : Fg) : Sp := spOut "Sets" 0 K
def sp_Pair_outcome_2 (K : Fg) : Sp := spOut "Pair" 2 K
def sp_Pair_outcome_3 (K : Fg) : Sp := spOut "Pair" 3 K
def sp_Pair_outcome_at_3 (K : Fg) : Sp := spOut "Pair" 3 K
def sp_Pair_outcome_1 (K : Fg) : Sp := spOut "Pair" 1 K
def sp_Pair_outcome_at_1 (K : Fg) : Sp := spOut "Pair" 1 K
def sp_Pair_outcome_at_2 (K : Fg) : Sp := spOut "Pair" 2 K
def sp_Rows_outcome_2 (K : Fg) : Sp := spOut "Rows" 2 K
def sp_Rows_outcome_3 (K : Fg) : Sp := spOut "Rows" 3 K
def sp_Rows_outcome_at_3 (K : Fg) : Sp := spOut "Rows" 3 K
def sp_Rows_outcome_1 (K : Fg) : Sp := spOut "Rows" 1 K
def sp_Rows_outcome_at_1 (K : Fg) : Sp := spOut "Rows" 1 K
def sp_Rows_outcome_at_2 (K : Fg) : Sp := spOut "Rows" 2 K
/-! the law's own -/
def sp__law_cell_at (K : Fg) : Sp := sp2 fun s k H Q _ => ∃ (a : Addr) (ns : List Int) (i : Nat), s = .ref a ∧ SqL K H a (ns.map V.int) ∧ k = .int (i : Int) ∧ ns.length ≤ 1000 ∧ ∀ z, Q (.int z) H
def sp__law_box (_ : Fg) : Sp := sp1 fun c H Q _ => ∃ z : Int, c = .int z ∧ ∀ p H', Same H H' → H p = none → Well H' p → Q (.ref p) H'
def sp__law_take (_ : Fg) : Sp := sp2 fun b m H Q _ => ∃ (p : Addr) (n : Int), b = .ref p ∧ Well H p ∧ m = .int n ∧ 0 < n ∧ n ≤ 2 ^ 64 ∧ ∀ r H', 0 ≤ r → r < n → Well H' p → (∀ a, a ≠ p → H' a = H a) → Q (.int r) H'
def sp__law_is_whole (_ : Fg) : Sp := sp1 fun x H Q _ => TyA H x ∧ Q (.bl (whole x)) H
def sp__law_orders (_ : Fg) : Sp := sp1 fun m H Q _ => ∃ k : Nat, m = .int (k : Int) ∧ k ≤ 20 ∧ Q (.int (fac k)) H
def sp__law_sets (_ : Fg) : Sp := sp2 fun a b H Q _ => ∃ n k : Nat, a = .int (n : Int) ∧ b = .int (k : Int) ∧ n ≤ 60 ∧ k ≤ 60 ∧ Q (.int (wys n k)) H
/-- a told shape without the bound on its total -/
def okS : Sh → Prop
  | .bound b => 1 ≤ b ∧ b ≤ 2 ^ 64
  | .shares ps => shOk ps
  | .orders n => n ≤ 20
  | .sets n k => n ≤ 60 ∧ k ≤ n
  | .pair a b => a.ok ∧ b.ok
  | .rows a n => a.ok ∧ n ≤ 12
def spn__law_total (_ : Fg) (h : Nat) : Sp := sp1 fun x H Q _ => ∃ sh, sh.ht < h ∧ okS sh ∧ Td H sh x ∧ Q (.int sh.tot) H
def wgt : Sh → Int
  | .bound _ => 1
  | .shares _ => 1
  | .orders n => 1 + (n : Int) / 4
  | .sets n k => 1 + (n : Int) * (k : Int) / 100
  | .pair a b => wgt a + wgt b
  | .rows a n => 1 + wgt a * (n : Int)
def spn__law_weight (_ : Fg) (h : Nat) : Sp := sp1 fun x H Q _ => ∃ sh, sh.ht < h ∧ okS sh ∧ Td H sh x ∧ Q (.int (wgt sh)) H
def spn__law_shape (K : Fg) (h : Nat) : Sp := sp1 fun x H Q _ => ∃ sh p, (∃ l, H p = some (.lst l)) ∧ sh.ht < h ∧ sh.ht ≤ 3 ∧ sh.ok ∧ Td H sh x ∧ ∀ v H', Same H H' → Ob K (wo p H') sh v → Q v H'
def sp__law_portions (_ : Fg) : Sp := sp2 fun b m H Q _ => ∃ (p : Addr) (n : Int), b = .ref p ∧ Well H p ∧ m = .int n ∧ 1 ≤ n ∧ n ≤ 2 ^ 64 ∧ ∀ q ps H', Wl p H H' → wo p H' q = some (.tup (ps.map V.int)) → shOk ps → ps.sum ≤ n → Q (.ref q) H'
def sp__law_simple (_ : Fg) : Sp := sp2 fun b m H Q _ => ∃ (p : Addr) (n : Int), b = .ref p ∧ Well H p ∧ m = .int n ∧ 1 ≤ n ∧ n ≤ 2 ^ 64 ∧ ∀ v sh H', Wl p H H' → sh.ht = 0 → sh.ok → sh.tot ≤ n → Td (wo p H') sh v → Q v H'
def spn__law_told (_ : Fg) (h : Nat) : Sp := sp3 fun b r m H Q _ => ∃ (p : Addr) (n : Int) (k : Nat), b = .ref p ∧ Well H p ∧ r = .int (k : Int) ∧ k < h ∧ k ≤ 3 ∧ m = .int n ∧ 1 ≤ n ∧ n ≤ 2 ^ 64 ∧ ∀ v sh H', Wl p H H' → sh.ht ≤ k → sh.ok → sh.tot ≤ n → Td (wo p H') sh v → Q v H'
def sp__law_order (_ : Fg) : Sp := sp2 fun m x H Q _ => ∃ (k : Nat) (z : Int), m = .int (k : Int) ∧ x = .int z ∧ k ≤ 20 ∧ 0 ≤ z ∧ z < fac k ∧ ∀ p H', Same H H' → H' p = some (.tup ((ordAt k z).map V.int)) → Q (.ref p) H'
def sp__law_set (_ : Fg) : Sp := sp3 fun a b x H Q _ => ∃ (n k : Nat) (z : Int), a = .int (n : Int) ∧ b = .int (k : Int) ∧ x = .int z ∧ n ≤ 60 ∧ k ≤ n ∧ 0 ≤ z ∧ z < wys n k ∧ ∀ p H', Same H H' → H' p = some (.tup ((setAt n k z).map V.int)) → Q (.ref p) H'
def sp__law_share (_ : Fg) : Sp := sp2 fun x y H Q _ => ∃ (ps : List Int) (z : Int), Sq H x (ps.map V.int) ∧ shOk ps ∧ y = .int z ∧ 0 ≤ z ∧ z < ps.sum ∧ Q (.int (shGo ps z : Nat)) H
def spn__law_outcome (_ : Fg) (h : Nat) : Sp := sp2 fun x y H Q _ => ∃ sh z, sh.ht < h ∧ sh.ht ≤ 3 ∧ sh.ok ∧ Td H sh x ∧ y = .int z ∧ 0 ≤ z ∧ z < sh.tot ∧ ∀ v H', Same H H' → Rp H' sh z v → Q v H'
/-- alike: the same whole number, or tuples of alike things -/
def Li (H : Hp) : Nat → V → V → Prop
  | 0, _, _ => False
  | n + 1, v, u => (∃ z : Int, v = .int z ∧ u = .int z) ∨ ∃ p q xs ys, v = .ref p ∧ u = .ref q ∧ H p = some (.tup xs) ∧ H q = some (.tup ys) ∧ xs.length ≤ 60 ∧ All2 (Li H n) xs ys
def spn__law_same (_ : Fg) (h : Nat) : Sp := sp2 fun v u H Q _ => Li H h v u ∧ ∀ H', Same H H' → Q (.bl true) H'
/-- a thing that is no number, and how it is shown -/
def Bd (K : Fg) (H : Hp) (x : V) : Prop := TyA H x ∧ ∃ d n, Dq K H x d 3 n ∧ n ≤ 2 ^ 20
def spn__law_height (_ : Fg) (h : Nat) : Sp := sp1 fun x H Q _ => ∃ sh, sh.ht < h ∧ Td H sh x ∧ Q (.int (sh.ht : Nat)) H
def sp__law_height (K : Fg) : Sp := spn__law_height K 4
def sp__law_numbers (_ : Fg) : Sp := sp2 fun b t H Q _ => ∃ (p : Addr) (n : Int), b = .ref p ∧ Well H p ∧ t = .int n ∧ 1 ≤ n ∧ n ≤ 2 ^ 64 ∧ ∀ (q : Addr) (zs : List Int) H', Wl p H H' → wo p H' q = some (.lst (zs.map V.int)) → (∀ z ∈ zs, 0 ≤ z ∧ z < n) → zs.length ≤ 10 → Q (.ref q) H'
def sp__law_right (K : Fg) : Sp := sp3 fun x t y H Q _ => ∃ (sh : Sh) (q : Addr) (zs : List Int), sh.ht ≤ 3 ∧ sh.ok ∧ Ob K H sh x ∧ Td H sh t ∧ y = .ref q ∧ H q = some (.lst (zs.map V.int)) ∧ (∀ z ∈ zs, 0 ≤ z ∧ z < sh.tot) ∧ ∀ H', Same H H' → Q (.bl true) H'
def sp__law_refused (K : Fg) : Sp := sp2 fun x y H Q _ => ∃ sh, Ob K H sh x ∧ TyA H y ∧ within y 0 (sh.tot - 1) = false ∧ ∀ q H', Same H H' → H q = none → H' q = some (.lst [.str "number", y]) → Q (.ref q) H'
def sp__law_refused_right (K : Fg) : Sp := sp3 fun b x t H Q _ => ∃ (p : Addr) (sh : Sh), b = .ref p ∧ Well H p ∧ Ob K (wo p H) sh x ∧ sh.ok ∧ t = .int sh.tot ∧ ∀ H', Wl p H H' → Q (.bl true) H'
def big : Sh → Prop
  | .pair _ _ => True
  | .rows _ _ => True
  | _ => False
def sp__law_made (_ : Fg) : Sp := sp2 fun b m H Q _ => ∃ (p : Addr) (n : Int), b = .ref p ∧ Well H p ∧ m = .int n ∧ 1 ≤ n ∧ n ≤ 2 ^ 64 ∧ ∀ v sh H', Wl p H H' → sh.ht ≤ 3 → big sh → sh.ok → Td (wo p H') sh v → Q v H'
def sp__law_total (K : Fg) : Sp := spn__law_total K 4
def sp__law_weight (K : Fg) : Sp := spn__law_weight K 4
def sp__law_shape (K : Fg) : Sp := spn__law_shape K 4
def sp__law_told (K : Fg) : Sp := spn__law_told K 4
def sp__law_outcome (K : Fg) : Sp := spn__law_outcome K 4
def sp__law_same (K : Fg) : Sp := spn__law_same K 5
def sp_law (K : Fg) : Sp := sp1 fun s H Q _ => ∃ (a : Addr) (ns : List Int), s = .ref a ∧ SqL K H a (ns.map V.int) ∧ ns.length ≤ 63 ∧ ∀ H', Q (.bl true) H'
end Law

-- RDX rsq, rlu, rdp, Bool.true_or, Bool.false_or, Bool.or_false, Bool.or_true
namespace Law
open PySem PySem.Spec PyProof.Rows L2 Sw
theorem atI_last {xs : List V} {x : V} : atI (xs ++ [x]) (-1) = some x := by
  unfold atI ixN
  rw [if_neg (by decide), if_pos (by rw [List.length_append, List.length_singleton]; omega)]
  show (xs ++ [x])[((-1 : Int) + ((xs ++ [x]).length : Int)).toNat]? = _
  rw [List.length_append, List.length_singleton, show ((-1 : Int) + ((xs.length + 1 : Nat) : Int)).toNat = xs.length by omega]
  simp
theorem fac_succ (j : Nat) : (List.range (j + 1)).map (fun j => V.int (fac j)) = (List.range j).map (fun j => V.int (fac j)) ++ [.int (fac j)] := by rw [List.range_succ, List.map_append] <;> rfl
theorem fac_pos : ∀ k, 1 ≤ fac k
  | 0 => by decide
  | k + 1 => by
    have h := fac_pos k
    show 1 ≤ fac k * ((k : Int) + 1)
    exact Int.le_trans h (by have := Int.mul_le_mul_of_nonneg_left (a := 1) (b := (k : Int) + 1) (c := fac k) (by omega) (by omega); omega)
theorem fac_small : ∀ k, k ≤ 20 → fac k < 2 ^ 62 := by decide +kernel
theorem fac_at {n k : Nat} (h : k ≤ n) : atI ((List.range (n + 1)).map fun j => V.int (fac j)) (k : Int) = some (.int (fac k)) := atI_nat (by rw [List.getElem?_map, List.getElem?_range (by omega)]; rfl)
theorem w60 {n : Nat} (h : n ≤ 60) : within (.int (n : Int)) 0 60 = true := decide_eq_true (by omega)
theorem wl_ok : ∀ n, n ≤ 60 → ∀ k, k ≤ n → 1 ≤ wl n k ∧ wl n k ≤ 10 ^ 18 := by decide +kernel
theorem seq_nat {k n : Nat} (h : k < n) : seqIndex? (k : Int) n = some k := by
  have h0 : ¬ ((k : Int) < 0) := by omega
  simp [seqIndex?, h0, h]
theorem divm {i b : Int} (i0 : 0 ≤ i) (i1 : i ≤ 2 ^ 70) (b0 : 0 < b) : CDivP i b := by
  have h5 : i.natAbs < 2 ^ 71 := by omega
  have h6 := PySem.Flt.log2_lt_of (k := 71) (by decide) h5
  refine divp_ok b0 ?_
  have h7 : Builtin.Int.intBits i ≤ i.natAbs.log2 + 1 := by
    unfold Builtin.Int.intBits
    split <;> omega
  omega
theorem div_lt {z f : Int} {j : Nat} (f0 : 0 < f) (z0 : 0 ≤ z) (z1 : z < f * ((j : Int) + 1)) : ∃ a : Nat, z / f = (a : Int) ∧ a ≤ j := by
  have h1 : 0 ≤ z / f := Int.ediv_nonneg z0 (by omega)
  have h2 : z / f < (j : Int) + 1 := Int.ediv_lt_of_lt_mul f0 (by rw [Int.mul_comm]; exact z1)
  exact ⟨(z / f).toNat, by omega, by omega⟩
theorem erase_map {ms : List Int} {k : Nat} : (ms.map V.int).eraseIdx k = (ms.eraseIdx k).map V.int := by
  rw [List.eraseIdx_eq_take_drop_succ, List.eraseIdx_eq_take_drop_succ, List.map_append, List.map_take, List.map_drop]
section
variable {P : Program} {w : World} {K : Fg} {mg : Str → Option Value} {base : Heap}
theorem ok_is_whole (T : Tx K mg w)   : Cal P w K mg base 1 "is_whole" ["thing"] (sp_is_whole K) := by
  refine cal_mk T.F_is_whole T.g_is_whole sc_is_whole (len1 _) (fun _ _ _ _ _ _ us hl => match us, hl with | [_], _ => rfl) (fun cdv A outer s H vs Q E hr h => ?_)
  obtain ⟨v0, rfl, h⟩ := h
  have hu := hu_of hr.r
  refine ⟨_, (pss_one (ps_ret (pe_and (pe_callB is_q (by rfl) T.n_isinstance (by decide +kernel) (pa_cons (pv 0) (pa_cons (pe_bltn (v := .ty "int") (by rfl) T.n_int (by decide +kernel) rfl) pa_nil))) (pe_one (pe_not (pe_callB is_q (by rfl) T.n_isinstance (by decide +kernel) (pa_cons (pv 0) (pa_cons (pe_bltn (v := .ty "bool") (by rfl) T.n_bool (by decide +kernel) rfl) pa_nil)))))))), ?_⟩
  obtain ⟨⟨n, hn⟩, q⟩ := h
  have h1 := isB_int hn
  have h2 := isB_bool hn
  simp only [and_assoc, rst, rs, re, ra, rq, rx, ro, rl, rl2, rsp, rz, rix, rln, rg, rd, ri, rv, rk, rdd, rwi, at0, at1, at2, at3, upd_at, List.getElem?_cons_zero, List.getElem?_cons_succ, Option.some.injEq, exists_eq_left', exists_eq_left, List.set_cons_zero, List.set_cons_succ, true_and, and_true, HO.lst.injEq, HO.tup.injEq, exists_and_left, exists_eq, exists_eq', Br.t, Br.f, Be.t, Be.f, List.cons.injEq, List.append_nil, scal, if_true, if_false, ite_true, ite_false, eq_self_iff_true, decide_true, decide_false, Bool.not_true, Bool.not_false, reduceIte, List.nil_append, List.cons_append, reduceCtorEq, false_and, exists_false, false_or, or_false, Int.reduceLT, rsq, rlu, rdp, Bool.true_or, Bool.false_or, Bool.or_false, Bool.or_true, h1]
  refine Be.of (fun e => ?_) fun e => ?_
  · simp only [and_assoc, rst, rs, re, ra, rq, rx, ro, rl, rl2, rsp, rz, rix, rln, rg, rd, ri, rv, rk, rdd, rwi, at0, at1, at2, at3, upd_at, List.getElem?_cons_zero, List.getElem?_cons_succ, Option.some.injEq, exists_eq_left', exists_eq_left, List.set_cons_zero, List.set_cons_succ, true_and, and_true, HO.lst.injEq, HO.tup.injEq, exists_and_left, exists_eq, exists_eq', Br.t, Br.f, Be.t, Be.f, List.cons.injEq, List.append_nil, scal, if_true, if_false, ite_true, ite_false, eq_self_iff_true, decide_true, decide_false, Bool.not_true, Bool.not_false, reduceIte, List.nil_append, List.cons_append, reduceCtorEq, false_and, exists_false, false_or, or_false, Int.reduceLT, rsq, rlu, rdp, Bool.true_or, Bool.false_or, Bool.or_false, Bool.or_true, h2]
    rw [← whole_is, e] at q
    exact q
  · rw [← whole_is, e] at q
    exact q
theorem ok__law_is_whole (T : Tx K mg w)   : Cal P w K mg base 1 "_law_is_whole" ["thing"] (sp__law_is_whole K) := by
  refine cal_mk T.F__law_is_whole T.g__law_is_whole sc__law_is_whole (len1 _) (fun _ _ _ _ _ _ us hl => match us, hl with | [_], _ => rfl) (fun cdv A outer s H vs Q E hr h => ?_)
  obtain ⟨v0, rfl, h⟩ := h
  have hu := hu_of hr.r
  refine ⟨_, (pss_one (ps_ret (pe_and (pe_callB is_q (by rfl) T.n_isinstance (by decide +kernel) (pa_cons (pv 0) (pa_cons (pe_bltn (v := .ty "int") (by rfl) T.n_int (by decide +kernel) rfl) pa_nil))) (pe_one (pe_not (pe_callB is_q (by rfl) T.n_isinstance (by decide +kernel) (pa_cons (pv 0) (pa_cons (pe_bltn (v := .ty "bool") (by rfl) T.n_bool (by decide +kernel) rfl) pa_nil)))))))), ?_⟩
  obtain ⟨⟨n, hn⟩, q⟩ := h
  have h1 := isB_int hn
  have h2 := isB_bool hn
  simp only [and_assoc, rst, rs, re, ra, rq, rx, ro, rl, rl2, rsp, rz, rix, rln, rg, rd, ri, rv, rk, rdd, rwi, at0, at1, at2, at3, upd_at, List.getElem?_cons_zero, List.getElem?_cons_succ, Option.some.injEq, exists_eq_left', exists_eq_left, List.set_cons_zero, List.set_cons_succ, true_and, and_true, HO.lst.injEq, HO.tup.injEq, exists_and_left, exists_eq, exists_eq', Br.t, Br.f, Be.t, Be.f, List.cons.injEq, List.append_nil, scal, if_true, if_false, ite_true, ite_false, eq_self_iff_true, decide_true, decide_false, Bool.not_true, Bool.not_false, reduceIte, List.nil_append, List.cons_append, reduceCtorEq, false_and, exists_false, false_or, or_false, Int.reduceLT, rsq, rlu, rdp, Bool.true_or, Bool.false_or, Bool.or_false, Bool.or_true, h1]
  refine Be.of (fun e => ?_) fun e => ?_
  · simp only [and_assoc, rst, rs, re, ra, rq, rx, ro, rl, rl2, rsp, rz, rix, rln, rg, rd, ri, rv, rk, rdd, rwi, at0, at1, at2, at3, upd_at, List.getElem?_cons_zero, List.getElem?_cons_succ, Option.some.injEq, exists_eq_left', exists_eq_left, List.set_cons_zero, List.set_cons_succ, true_and, and_true, HO.lst.injEq, HO.tup.injEq, exists_and_left, exists_eq, exists_eq', Br.t, Br.f, Be.t, Be.f, List.cons.injEq, List.append_nil, scal, if_true, if_false, ite_true, ite_false, eq_self_iff_true, decide_true, decide_false, Bool.not_true, Bool.not_false, reduceIte, List.nil_append, List.cons_append, reduceCtorEq, false_and, exists_false, false_or, or_false, Int.reduceLT, rsq, rlu, rdp, Bool.true_or, Bool.false_or, Bool.or_false, Bool.or_true, h2]
    rw [← whole_is, e] at q
    exact q
  · rw [← whole_is, e] at q
    exact q
theorem ok_is_within (T : Tx K mg w) (c_is_whole : Cal P w K mg base 1 "is_whole" ["thing"] (sp_is_whole K))  : Cal P w K mg base 2 "is_within" ["thing", "low", "high"] (sp_is_within K) := by
  refine cal_mk T.F_is_within T.g_is_within sc_is_within (len3 _) (fun _ _ _ _ _ _ us hl => match us, hl with | [_, _, _], _ => rfl) (fun cdv A outer s H vs Q E hr h => ?_)
  obtain ⟨v0, v1, v2, rfl, h⟩ := h
  have hu := hu_of hr.r
  refine ⟨_, (pss_one (ps_ret (pe_and (pe_cal c_is_whole hr (by decide) passL rfl (pa_cons (pv 0) pa_nil)) (pe_one (pe_chain op_le op_le (pv 1) (pv 0) (pv 2)))))), ?_⟩
  obtain ⟨l, h, rfl, rfl, hn, q⟩ := h
  simp only [and_assoc, rst, rs, re, ra, rq, rx, ro, rl, rl2, rsp, rz, rix, rln, rg, rd, ri, rv, rk, rdd, rwi, at0, at1, at2, at3, upd_at, List.getElem?_cons_zero, List.getElem?_cons_succ, Option.some.injEq, exists_eq_left', exists_eq_left, List.set_cons_zero, List.set_cons_succ, true_and, and_true, HO.lst.injEq, HO.tup.injEq, exists_and_left, exists_eq, exists_eq', Br.t, Br.f, Be.t, Be.f, List.cons.injEq, List.append_nil, scal, if_true, if_false, ite_true, ite_false, eq_self_iff_true, decide_true, decide_false, Bool.not_true, Bool.not_false, reduceIte, List.nil_append, List.cons_append, reduceCtorEq, false_and, exists_false, false_or, or_false, Int.reduceLT, rsq, rlu, rdp, Bool.true_or, Bool.false_or, Bool.or_false, Bool.or_true]
  refine ⟨_, rfl, hn, ?_⟩
  simp only [and_assoc, rst, rs, re, ra, rq, rx, ro, rl, rl2, rsp, rz, rix, rln, rg, rd, ri, rv, rk, rdd, rwi, at0, at1, at2, at3, upd_at, List.getElem?_cons_zero, List.getElem?_cons_succ, Option.some.injEq, exists_eq_left', exists_eq_left, List.set_cons_zero, List.set_cons_succ, true_and, and_true, HO.lst.injEq, HO.tup.injEq, exists_and_left, exists_eq, exists_eq', Br.t, Br.f, Be.t, Be.f, List.cons.injEq, List.append_nil, scal, if_true, if_false, ite_true, ite_false, eq_self_iff_true, decide_true, decide_false, Bool.not_true, Bool.not_false, reduceIte, List.nil_append, List.cons_append, reduceCtorEq, false_and, exists_false, false_or, or_false, Int.reduceLT, rsq, rlu, rdp, Bool.true_or, Bool.false_or, Bool.or_false, Bool.or_true]
  cases v0 with
  | int i =>
    refine Be.of (fun _ => ?_) fun e => (by simp [whole] at e)
    refine ⟨i, rfl, Be.d (fun c => ⟨i, rfl, ?_⟩) fun c => ?_⟩
    · rw [show decide (i ≤ h) = decide (l ≤ i ∧ i ≤ h) by simp [c]]
      exact q
    · rw [show within (.int i) l h = false from decide_eq_false fun z => c z.1] at q
      exact q
  | _ => exact Be.of (fun e => (by simp [whole] at e)) fun _ => q
theorem ok_need_number (T : Tx K mg w) (c_is_within : Cal P w K mg base 2 "is_within" ["thing", "low", "high"] (sp_is_within K)) (c_NoNumber : Exn P w K mg base "NoNumber" "found") : Cal P w K mg base 4 "need_number" ["thing", "low", "high"] (sp_need_number K) := by
  refine cal_mk T.F_need_number T.g_need_number sc_need_number (len3 _) (fun _ _ _ _ _ _ us hl => match us, hl with | [_, _, _], _ => rfl) (fun cdv A outer s H vs Q E hr h => ?_)
  obtain ⟨v0, v1, v2, rfl, h⟩ := h
  have hu := hu_of hr.r
  refine ⟨_, (pss_one (ps_if (pt_not (pt_val (pe_cal c_is_within hr (by decide) (passes_call (takes_of rfl rfl rfl rfl) fun _ _ _ _ h => h) rfl (pa_cons (pv 0) (pa_cons (pv 1) (pa_cons (pv 2) pa_nil)))))) (pss_one (ps_rs1 c_NoNumber rfl (takes_of rfl rfl rfl rfl) hr.r (by decide) rfl (pa_cons (pv 0) pa_nil))) pss_nil)), ?_⟩
  obtain ⟨l, h, rfl, rfl, ht, q, e⟩ := h
  simp only [and_assoc, rst, rs, re, ra, rq, rx, ro, rl, rl2, rsp, rz, rix, rln, rg, rd, ri, rv, rk, rdd, rwi, at0, at1, at2, at3, upd_at, List.getElem?_cons_zero, List.getElem?_cons_succ, Option.some.injEq, exists_eq_left', exists_eq_left, List.set_cons_zero, List.set_cons_succ, true_and, and_true, HO.lst.injEq, HO.tup.injEq, exists_and_left, exists_eq, exists_eq', Br.t, Br.f, Be.t, Be.f, List.cons.injEq, List.append_nil, scal, if_true, if_false, ite_true, ite_false, eq_self_iff_true, decide_true, decide_false, Bool.not_true, Bool.not_false, reduceIte, List.nil_append, List.cons_append, reduceCtorEq, false_and, exists_false, false_or, or_false, Int.reduceLT, rsq, rlu, rdp, Bool.true_or, Bool.false_or, Bool.or_false, Bool.or_true]
  refine ⟨_, _, _, rfl, _, _, rfl, rfl, ht, ?_⟩
  cases hw : within v0 l h with
  | false =>
    simp only [and_assoc, rst, rs, re, ra, rq, rx, ro, rl, rl2, rsp, rz, rix, rln, rg, rd, ri, rv, rk, rdd, rwi, at0, at1, at2, at3, upd_at, List.getElem?_cons_zero, List.getElem?_cons_succ, Option.some.injEq, exists_eq_left', exists_eq_left, List.set_cons_zero, List.set_cons_succ, true_and, and_true, HO.lst.injEq, HO.tup.injEq, exists_and_left, exists_eq, exists_eq', Br.t, Br.f, Be.t, Be.f, List.cons.injEq, List.append_nil, scal, if_true, if_false, ite_true, ite_false, eq_self_iff_true, decide_true, decide_false, Bool.not_true, Bool.not_false, reduceIte, List.nil_append, List.cons_append, reduceCtorEq, false_and, exists_false, false_or, or_false, Int.reduceLT, rsq, rlu, rdp, Bool.true_or, Bool.false_or, Bool.or_false, Bool.or_true, hw]
    exact fun d hd => e hw _ d (fun _ _ e => e) hd
  | true =>
    simp only [and_assoc, rst, rs, re, ra, rq, rx, ro, rl, rl2, rsp, rz, rix, rln, rg, rd, ri, rv, rk, rdd, rwi, at0, at1, at2, at3, upd_at, List.getElem?_cons_zero, List.getElem?_cons_succ, Option.some.injEq, exists_eq_left', exists_eq_left, List.set_cons_zero, List.set_cons_succ, true_and, and_true, HO.lst.injEq, HO.tup.injEq, exists_and_left, exists_eq, exists_eq', Br.t, Br.f, Be.t, Be.f, List.cons.injEq, List.append_nil, scal, if_true, if_false, ite_true, ite_false, eq_self_iff_true, decide_true, decide_false, Bool.not_true, Bool.not_false, reduceIte, List.nil_append, List.cons_append, reduceCtorEq, false_and, exists_false, false_or, or_false, Int.reduceLT, rsq, rlu, rdp, Bool.true_or, Bool.false_or, Bool.or_false, Bool.or_true, hw]
    exact q hw
theorem ok_products_to (T : Tx K mg w)   : Cal P w K mg base 1 "products_to" ["many"] (sp_products_to K) := by
  refine cal_mk T.F_products_to T.g_products_to sc_products_to (len1 _) (fun _ _ _ _ _ _ us hl => match us, hl with | [_], _ => rfl) (fun cdv A outer s H vs Q E hr h => ?_)
  obtain ⟨v0, rfl, h⟩ := h
  have hu := hu_of hr.r
  refine ⟨_, (pss_cons (ps_set (i := 1) sc_products_to.nd rfl (Or.inl rfl) (pe_lst (pa_cons pe_int pa_nil)))
      (pss_cons (ps_for (passes_of rfl) rfl (pi_range2 (by rfl) T.n_range (pa_cons pe_int (pa_cons (pe_op op_add (pv 0) pe_int) pa_nil))) (pg_name (i := 2) sc_products_to.nd rfl (Or.inl rfl)) (pss_one (ps_expr (pe_ml PySem.F.slot_list_append PySem.F.type_list_append mt_append (pv 1) (pa_cons (pe_op op_mulA (pe_ix ix_q (pv 1) (pe_un un_neg pe_int) (fun _ _ => rfl)) (pv 2)) pa_nil)))))
      (pss_one (ps_ret (pv 1))))), ?_⟩
  obtain ⟨n, rfl, hn, q⟩ := h
  simp only [and_assoc, rst, rs, re, ra, rq, rx, ro, rl, rl2, rsp, rz, rix, rln, rg, rd, ri, rv, rk, rdd, rwi, at0, at1, at2, at3, upd_at, List.getElem?_cons_zero, List.getElem?_cons_succ, Option.some.injEq, exists_eq_left', exists_eq_left, List.set_cons_zero, List.set_cons_succ, true_and, and_true, HO.lst.injEq, HO.tup.injEq, exists_and_left, exists_eq, exists_eq', Br.t, Br.f, Be.t, Be.f, List.cons.injEq, List.append_nil, scal, if_true, if_false, ite_true, ite_false, eq_self_iff_true, decide_true, decide_false, Bool.not_true, Bool.not_false, reduceIte, List.nil_append, List.cons_append, reduceCtorEq, false_and, exists_false, false_or, or_false, Int.reduceLT, rsq, rlu, rdp, Bool.true_or, Bool.false_or, Bool.or_false, Bool.or_true]
  intro p hp
  refine ⟨by decide, by decide, by omega, by omega, ?_⟩
  rw [show ((n : Int) + 1 - 1).toNat = n by omega]
  refine FI.rng (fun i σ H' => ∃ v2, Same H H' ∧ H' p = some (.lst ((List.range (i + 1)).map fun j => V.int (fac j))) ∧ σ = [some (.int n), some (.ref p), v2]) ⟨none, Same.new hp, upd_same, rfl⟩ ?_ ?_
  · rintro i σ H' hi ⟨v2, s, hz, rfl⟩
    simp only [and_assoc, rst, rs, re, ra, rq, rx, ro, rl, rl2, rsp, rz, rix, rln, rg, rd, ri, rv, rk, rdd, rwi, at0, at1, at2, at3, upd_at, List.getElem?_cons_zero, List.getElem?_cons_succ, Option.some.injEq, exists_eq_left', exists_eq_left, List.set_cons_zero, List.set_cons_succ, true_and, and_true, HO.lst.injEq, HO.tup.injEq, exists_and_left, exists_eq, exists_eq', Br.t, Br.f, Be.t, Be.f, List.cons.injEq, List.append_nil, scal, if_true, if_false, ite_true, ite_false, eq_self_iff_true, decide_true, decide_false, Bool.not_true, Bool.not_false, reduceIte, List.nil_append, List.cons_append, reduceCtorEq, false_and, exists_false, false_or, or_false, Int.reduceLT, rsq, rlu, rdp, Bool.true_or, Bool.false_or, Bool.or_false, Bool.or_true, hz]
    have h9 : atI ((List.range (i + 1)).map fun j => V.int (fac j)) (-1) = some (.int (fac i)) := by
      rw [fac_succ]
      exact atI_last
    refine ⟨_, h9, _, rfl, small_mul (by omega) (by omega), by rw [sizeLine_eq, List.length_map, List.length_range]; omega, Same.mut s hp, ?_⟩
    rw [fac_succ (i + 1)]
    rw [show (1 : Int) + (i : Int) = (i : Int) + 1 by omega]
    rfl
  · rintro σ H' ⟨v2, s, hz, rfl⟩
    simp only [and_assoc, rst, rs, re, ra, rq, rx, ro, rl, rl2, rsp, rz, rix, rln, rg, rd, ri, rv, rk, rdd, rwi, at0, at1, at2, at3, upd_at, List.getElem?_cons_zero, List.getElem?_cons_succ, Option.some.injEq, exists_eq_left', exists_eq_left, List.set_cons_zero, List.set_cons_succ, true_and, and_true, HO.lst.injEq, HO.tup.injEq, exists_and_left, exists_eq, exists_eq', Br.t, Br.f, Be.t, Be.f, List.cons.injEq, List.append_nil, scal, if_true, if_false, ite_true, ite_false, eq_self_iff_true, decide_true, decide_false, Bool.not_true, Bool.not_false, reduceIte, List.nil_append, List.cons_append, reduceCtorEq, false_and, exists_false, false_or, or_false, Int.reduceLT, rsq, rlu, rdp, Bool.true_or, Bool.false_or, Bool.or_false, Bool.or_true]
    exact q _ _ s hp hz
theorem ok_orders_many (T : Tx K mg w) (c_is_within : Cal P w K mg base 2 "is_within" ["thing", "low", "high"] (sp_is_within K)) (c_products_to : Cal P w K mg base 1 "products_to" ["many"] (sp_products_to K)) (c_NoNumber : Exn P w K mg base "NoNumber" "found") : Cal P w K mg base 4 "orders_many" ["many"] (sp_orders_many K) := by
  refine cal_mk T.F_orders_many T.g_orders_many sc_orders_many (len1 _) (fun _ _ _ _ _ _ us hl => match us, hl with | [_], _ => rfl) (fun cdv A outer s H vs Q E hr h => ?_)
  obtain ⟨v0, rfl, h⟩ := h
  have hu := hu_of hr.r
  refine ⟨_, (pss_cons (ps_if (pt_not (pt_val (pe_cal c_is_within hr (by decide) (passes_call (takes_of rfl rfl rfl rfl) fun _ _ _ _ h => h) rfl (pa_cons (pv 0) (pa_cons pe_int (pa_cons (pe_gint rfl T.k_MOST_RANKED) pa_nil)))))) (pss_one (ps_rs1 c_NoNumber rfl (takes_of rfl rfl rfl rfl) hr.r (by decide) rfl (pa_cons (pv 0) pa_nil))) pss_nil)
      (pss_one (ps_ret (pe_ix ix_q (pe_cal c_products_to hr (by decide) (passes_call (takes_of rfl rfl rfl rfl) fun _ _ _ _ h => h) rfl (pa_cons (pv 0) pa_nil)) (pv 0) (fun _ _ => rfl))))), ?_⟩
  obtain ⟨k, rfl, hk, q⟩ := h
  simp only [and_assoc, rst, rs, re, ra, rq, rx, ro, rl, rl2, rsp, rz, rix, rln, rg, rd, ri, rv, rk, rdd, rwi, at0, at1, at2, at3, upd_at, List.getElem?_cons_zero, List.getElem?_cons_succ, Option.some.injEq, exists_eq_left', exists_eq_left, List.set_cons_zero, List.set_cons_succ, true_and, and_true, HO.lst.injEq, HO.tup.injEq, exists_and_left, exists_eq, exists_eq', Br.t, Br.f, Be.t, Be.f, List.cons.injEq, List.append_nil, scal, if_true, if_false, ite_true, ite_false, eq_self_iff_true, decide_true, decide_false, Bool.not_true, Bool.not_false, reduceIte, List.nil_append, List.cons_append, reduceCtorEq, false_and, exists_false, false_or, or_false, Int.reduceLT, rsq, rlu, rdp, Bool.true_or, Bool.false_or, Bool.or_false, Bool.or_true]
  refine ⟨_, _, _, rfl, _, _, rfl, rfl, ⟨"int", rfl⟩, ?_⟩
  have hw : within (.int (k : Int)) 0 20 = true := decide_eq_true (by omega)
  simp only [and_assoc, rst, rs, re, ra, rq, rx, ro, rl, rl2, rsp, rz, rix, rln, rg, rd, ri, rv, rk, rdd, rwi, at0, at1, at2, at3, upd_at, List.getElem?_cons_zero, List.getElem?_cons_succ, Option.some.injEq, exists_eq_left', exists_eq_left, List.set_cons_zero, List.set_cons_succ, true_and, and_true, HO.lst.injEq, HO.tup.injEq, exists_and_left, exists_eq, exists_eq', Br.t, Br.f, Be.t, Be.f, List.cons.injEq, List.append_nil, scal, if_true, if_false, ite_true, ite_false, eq_self_iff_true, decide_true, decide_false, Bool.not_true, Bool.not_false, reduceIte, List.nil_append, List.cons_append, reduceCtorEq, false_and, exists_false, false_or, or_false, Int.reduceLT, rsq, rlu, rdp, Bool.true_or, Bool.false_or, Bool.or_false, Bool.or_true, hw]
  refine ⟨_, rfl, k, rfl, by omega, fun p H1 s1 hp hz => ?_⟩
  simp only [and_assoc, rst, rs, re, ra, rq, rx, ro, rl, rl2, rsp, rz, rix, rln, rg, rd, ri, rv, rk, rdd, rwi, at0, at1, at2, at3, upd_at, List.getElem?_cons_zero, List.getElem?_cons_succ, Option.some.injEq, exists_eq_left', exists_eq_left, List.set_cons_zero, List.set_cons_succ, true_and, and_true, HO.lst.injEq, HO.tup.injEq, exists_and_left, exists_eq, exists_eq', Br.t, Br.f, Be.t, Be.f, List.cons.injEq, List.append_nil, scal, if_true, if_false, ite_true, ite_false, eq_self_iff_true, decide_true, decide_false, Bool.not_true, Bool.not_false, reduceIte, List.nil_append, List.cons_append, reduceCtorEq, false_and, exists_false, false_or, or_false, Int.reduceLT, rsq, rlu, rdp, Bool.true_or, Bool.false_or, Bool.or_false, Bool.or_true, hz]
  exact ⟨_, fac_at (Nat.le_refl _), q _ s1⟩
theorem ok_order_at (T : Tx K mg w) (c_is_within : Cal P w K mg base 2 "is_within" ["thing", "low", "high"] (sp_is_within K)) (c_products_to : Cal P w K mg base 1 "products_to" ["many"] (sp_products_to K)) (c_orders_many : Cal P w K mg base 4 "orders_many" ["many"] (sp_orders_many K)) (c_NoNumber : Exn P w K mg base "NoNumber" "found") : Cal P w K mg base 5 "order_at" ["many", "rank"] (sp_order_at K) := by
  refine cal_mk T.F_order_at T.g_order_at sc_order_at (len2 _) (fun _ _ _ _ _ _ us hl => match us, hl with | [_, _], _ => rfl) (fun cdv A outer s H vs Q E hr h => ?_)
  obtain ⟨v0, v1, rfl, h⟩ := h
  have hu := hu_of hr.r
  refine ⟨_, (pss_cons (ps_if (pt_not (pt_val (pe_cal c_is_within hr (by decide) (passes_call (takes_of rfl rfl rfl rfl) fun _ _ _ _ h => h) rfl (pa_cons (pv 1) (pa_cons pe_int (pa_cons (pe_op op_sub (pe_cal c_orders_many hr (by decide) (passes_call (takes_of rfl rfl rfl rfl) fun _ _ _ _ h => h) rfl (pa_cons (pv 0) pa_nil)) pe_int) pa_nil)))))) (pss_one (ps_rs1 c_NoNumber rfl (takes_of rfl rfl rfl rfl) hr.r (by decide) rfl (pa_cons (pv 1) pa_nil))) pss_nil)
      (pss_cons (ps_set (i := 2) sc_order_at.nd rfl (Or.inl rfl) (pe_cal c_products_to hr (by decide) (passes_call (takes_of rfl rfl rfl rfl) fun _ _ _ _ h => h) rfl (pa_cons (pv 0) pa_nil)))
      (pss_cons (ps_set (i := 3) sc_order_at.nd rfl (Or.inl rfl) (pe_listRg rfl (by rfl) T.n_list (prg_1 (by rfl) T.n_range (pv 0))))
      (pss_cons (ps_set (i := 4) sc_order_at.nd rfl (Or.inl rfl) (pe_lst pa_nil))
      (pss_cons (ps_for (passes_of rfl) rfl (pi_revR (by rfl) T.n_reversed (prg_1 (by rfl) T.n_range (pv 0))) (pg_name (i := 5) sc_order_at.nd rfl (Or.inl rfl)) (pss_cons (ps_asg (pe_callB call_divmodW (by rfl) T.n_divmod (by decide +kernel) (pa_cons (pv 1) (pa_cons (pe_ix ix_q (pv 2) (pv 5) (fun _ _ => rfl)) pa_nil))) (pg_tupQ rfl (pgs_cons (pg_name (i := 6) sc_order_at.nd rfl (Or.inl rfl)) (pgs_cons (pg_name (i := 1) sc_order_at.nd rfl (Or.inl rfl)) pgs_nil)) (gname_len (gname_len (fun _ _ _ _ h => gnil_len h)))))
      (pss_one (ps_expr (pe_ml PySem.F.slot_list_append PySem.F.type_list_append mt_append (pv 4) (pa_cons (pe_ml PySem.F.slot_list_pop PySem.F.type_list_pop mt_popAt (pv 3) (pa_cons (pv 6) pa_nil)) pa_nil))))))
      (pss_one (ps_ret (pe_callTy tup_q (by rfl) T.n_tuple (by decide +kernel) (pa_cons (pv 4) pa_nil))))))))), ?_⟩
  obtain ⟨k, zz, rfl, rfl, hk, z0, z1, q⟩ := h
  simp only [and_assoc, rst, rs, re, ra, rq, rx, ro, rl, rl2, rsp, rz, rix, rln, rg, rd, ri, rv, rk, rdd, rwi, at0, at1, at2, at3, upd_at, List.getElem?_cons_zero, List.getElem?_cons_succ, Option.some.injEq, exists_eq_left', exists_eq_left, List.set_cons_zero, List.set_cons_succ, true_and, and_true, HO.lst.injEq, HO.tup.injEq, exists_and_left, exists_eq, exists_eq', Br.t, Br.f, Be.t, Be.f, List.cons.injEq, List.append_nil, scal, if_true, if_false, ite_true, ite_false, eq_self_iff_true, decide_true, decide_false, Bool.not_true, Bool.not_false, reduceIte, List.nil_append, List.cons_append, reduceCtorEq, false_and, exists_false, false_or, or_false, Int.reduceLT, rsq, rlu, rdp, Bool.true_or, Bool.false_or, Bool.or_false, Bool.or_true]
  refine ⟨_, rfl, k, rfl, hk, fun H1 s1 => ?_⟩
  simp only [and_assoc, rst, rs, re, ra, rq, rx, ro, rl, rl2, rsp, rz, rix, rln, rg, rd, ri, rv, rk, rdd, rwi, at0, at1, at2, at3, upd_at, List.getElem?_cons_zero, List.getElem?_cons_succ, Option.some.injEq, exists_eq_left', exists_eq_left, List.set_cons_zero, List.set_cons_succ, true_and, and_true, HO.lst.injEq, HO.tup.injEq, exists_and_left, exists_eq, exists_eq', Br.t, Br.f, Be.t, Be.f, List.cons.injEq, List.append_nil, scal, if_true, if_false, ite_true, ite_false, eq_self_iff_true, decide_true, decide_false, Bool.not_true, Bool.not_false, reduceIte, List.nil_append, List.cons_append, reduceCtorEq, false_and, exists_false, false_or, or_false, Int.reduceLT, rsq, rlu, rdp, Bool.true_or, Bool.false_or, Bool.or_false, Bool.or_true]
  refine ⟨_, _, _, rfl, _, _, rfl, rfl, ⟨"int", rfl⟩, ?_⟩
  have hw : within (.int zz) 0 (fac k - 1) = true := decide_eq_true ⟨by omega, by omega⟩
  simp only [and_assoc, rst, rs, re, ra, rq, rx, ro, rl, rl2, rsp, rz, rix, rln, rg, rd, ri, rv, rk, rdd, rwi, at0, at1, at2, at3, upd_at, List.getElem?_cons_zero, List.getElem?_cons_succ, Option.some.injEq, exists_eq_left', exists_eq_left, List.set_cons_zero, List.set_cons_succ, true_and, and_true, HO.lst.injEq, HO.tup.injEq, exists_and_left, exists_eq, exists_eq', Br.t, Br.f, Be.t, Be.f, List.cons.injEq, List.append_nil, scal, if_true, if_false, ite_true, ite_false, eq_self_iff_true, decide_true, decide_false, Bool.not_true, Bool.not_false, reduceIte, List.nil_append, List.cons_append, reduceCtorEq, false_and, exists_false, false_or, or_false, Int.reduceLT, rsq, rlu, rdp, Bool.true_or, Bool.false_or, Bool.or_false, Bool.or_true, hw]
  refine ⟨_, rfl, k, rfl, by omega, fun p H2 s2 hp hz => ?_⟩
  simp only [and_assoc, rst, rs, re, ra, rq, rx, ro, rl, rl2, rsp, rz, rix, rln, rg, rd, ri, rv, rk, rdd, rwi, at0, at1, at2, at3, upd_at, List.getElem?_cons_zero, List.getElem?_cons_succ, Option.some.injEq, exists_eq_left', exists_eq_left, List.set_cons_zero, List.set_cons_succ, true_and, and_true, HO.lst.injEq, HO.tup.injEq, exists_and_left, exists_eq, exists_eq', Br.t, Br.f, Be.t, Be.f, List.cons.injEq, List.append_nil, scal, if_true, if_false, ite_true, ite_false, eq_self_iff_true, decide_true, decide_false, Bool.not_true, Bool.not_false, reduceIte, List.nil_append, List.cons_append, reduceCtorEq, false_and, exists_false, false_or, or_false, Int.reduceLT, rsq, rlu, rdp, Bool.true_or, Bool.false_or, Bool.or_false, Bool.or_true]
  refine ⟨⟨by decide, by decide, by omega, by omega, by omega⟩, fun l hl f hf => ⟨by decide, by decide, by omega, by omega, ?_⟩⟩
  have n1 := ne_of_none hz hl
  have hz1 : upd H2 l (.lst (rgV 0 k)) p = some (.lst ((List.range (k + 1)).map fun j => V.int (fac j))) := by rw [upd_ne n1]; exact hz
  have n2 := ne_of_none hz1 hf
  have n3 := ne_of_none (upd_same (H := H2) (a := l) (o := .lst (rgV 0 k))) hf
  have fl : H1 l = none := Same.free s2 hl
  have sl : Same H1 (upd H2 l (.lst (rgV 0 k))) := Same.trans s2 (Same.new hl)
  have ff : H1 f = none := Same.free sl hf
  rw [show ((k : Int) - 0).toNat = k by omega]
  refine FI.rngC (fun i σ H' => ∃ v5 v6 z xs ys, Same H1 H' ∧ H' p = some (.lst ((List.range (k + 1)).map fun j => V.int (fac j))) ∧ H' l = some (.lst (xs.map V.int)) ∧ xs.length + i = k ∧ H' f = some (.lst (ys.map V.int)) ∧ ys.length = i ∧ 0 ≤ z ∧ z < fac (k - i) ∧ ys ++ ordGo (k - i) z xs = ordAt k zz ∧ σ = [some (.int k), some (.int z), some (.ref p), some (.ref l), some (.ref f), v5, v6])
    ⟨none, none, zz, (List.range k).map fun j : Nat => (j : Int), [], Same.trans sl (Same.new hf), by rw [upd_ne n2]; exact hz1, ?_, by simp, upd_same, rfl, z0, z1, rfl, rfl⟩ ?_ ?_
  · rw [upd_ne n3, upd_same, rgV, List.map_map]
    simp [Function.comp_def]
  · rintro i σ H' hi ⟨v5, v6, z, xs, ys, s, h1, h2, h3, h4, h5, z0, z1, hg, rfl⟩
    obtain ⟨j, hj⟩ : ∃ j, k - i = j + 1 := ⟨k - i - 1, by omega⟩
    rw [hj] at z1 hg
    have f0 := fac_pos j
    have f1 := fac_small j (by omega)
    obtain ⟨a, ea, al⟩ := div_lt (f := fac j) (by omega) z0 z1
    simp only [and_assoc, rst, rs, re, ra, rq, rx, ro, rl, rl2, rsp, rz, rix, rln, rg, rd, ri, rv, rk, rdd, rwi, at0, at1, at2, at3, upd_at, List.getElem?_cons_zero, List.getElem?_cons_succ, Option.some.injEq, exists_eq_left', exists_eq_left, List.set_cons_zero, List.set_cons_succ, true_and, and_true, HO.lst.injEq, HO.tup.injEq, exists_and_left, exists_eq, exists_eq', Br.t, Br.f, Be.t, Be.f, List.cons.injEq, List.append_nil, scal, if_true, if_false, ite_true, ite_false, eq_self_iff_true, decide_true, decide_false, Bool.not_true, Bool.not_false, reduceIte, List.nil_append, List.cons_append, reduceCtorEq, false_and, exists_false, false_or, or_false, Int.reduceLT, rsq, rlu, rdp, Bool.true_or, Bool.false_or, Bool.or_false, Bool.or_true, h1]
    have e1 : (0 : Int) + (k : Int) - 1 + (i : Int) * -1 = (j : Int) := by omega
    rw [e1]
    have zs := fac_small (j + 1) (by omega)
    refine ⟨_, fac_at (by omega), _, rfl, divm z0 (by omega) (by omega), fun T hT => ?_⟩
    have a1 := eq_false (ne_of_none h1 hT)
    have a2 := eq_false (ne_of_none h2 hT)
    have a3 := eq_false (ne_of_none h4 hT)
    have a4 : (f = l) = False := eq_false fun z => n3 z.symm
    have a5 : (l = f) = False := eq_false n3
    have a6 : (p = l) = False := eq_false n1
    have a7 : (p = f) = False := eq_false n2
    rw [ea]
    have ax : a < xs.length := by omega
    have gx : (xs.map V.int)[a]? = some (V.int xs[a]) := by rw [List.getElem?_map, List.getElem?_eq_getElem ax]; rfl
    simp only [and_assoc, rst, rs, re, ra, rq, rx, ro, rl, rl2, rsp, rz, rix, rln, rg, rd, ri, rv, rk, rdd, rwi, at0, at1, at2, at3, upd_at, List.getElem?_cons_zero, List.getElem?_cons_succ, Option.some.injEq, exists_eq_left', exists_eq_left, List.set_cons_zero, List.set_cons_succ, true_and, and_true, HO.lst.injEq, HO.tup.injEq, exists_and_left, exists_eq, exists_eq', Br.t, Br.f, Be.t, Be.f, List.cons.injEq, List.append_nil, scal, if_true, if_false, ite_true, ite_false, eq_self_iff_true, decide_true, decide_false, Bool.not_true, Bool.not_false, reduceIte, List.nil_append, List.cons_append, reduceCtorEq, false_and, exists_false, false_or, or_false, Int.reduceLT, rsq, rlu, rdp, Bool.true_or, Bool.false_or, Bool.or_false, Bool.or_true, a1, a2, a3, a4, a5, a6, a7, h2, h4]
    refine ⟨by omega, by omega, a, by rw [List.length_map]; exact seq_nat ax, _, gx, by rw [sizeLine_eq, List.length_map]; omega, Same.mut (Same.mut (Same.trans s (Same.new hT)) fl) ff, _, _, z % fac j, xs.eraseIdx a, erase_map, ?_, ys ++ [xs[a]], by rw [List.map_append]; rfl, ?_, Int.emod_nonneg _ (by omega), ?_, ?_, rfl, rfl, rfl⟩
    · rw [List.length_eraseIdx_of_lt ax]
      omega
    · rw [List.length_append, h5]
      rfl
    · rw [show k - (i + 1) = j by omega]
      exact Int.emod_lt_of_pos _ (by omega)
    · rw [show k - (i + 1) = j by omega, ← hg]
      show ys ++ [xs[a]] ++ ordGo j (z % fac j) (xs.eraseIdx a) = ys ++ (xs.getD (z / fac j).toNat 0 :: ordGo j (z % fac j) (xs.eraseIdx (z / fac j).toNat))
      rw [ea, Int.toNat_natCast, List.append_assoc, List.getD_eq_getElem?_getD, List.getElem?_eq_getElem ax]
      rfl
  · rintro σ H' ⟨v5, v6, z, xs, ys, s, h1, h2, h3, h4, h5, z0, z1, hg, rfl⟩
    simp only [and_assoc, rst, rs, re, ra, rq, rx, ro, rl, rl2, rsp, rz, rix, rln, rg, rd, ri, rv, rk, rdd, rwi, at0, at1, at2, at3, upd_at, List.getElem?_cons_zero, List.getElem?_cons_succ, Option.some.injEq, exists_eq_left', exists_eq_left, List.set_cons_zero, List.set_cons_succ, true_and, and_true, HO.lst.injEq, HO.tup.injEq, exists_and_left, exists_eq, exists_eq', Br.t, Br.f, Be.t, Be.f, List.cons.injEq, List.append_nil, scal, if_true, if_false, ite_true, ite_false, eq_self_iff_true, decide_true, decide_false, Bool.not_true, Bool.not_false, reduceIte, List.nil_append, List.cons_append, reduceCtorEq, false_and, exists_false, false_or, or_false, Int.reduceLT, rsq, rlu, rdp, Bool.true_or, Bool.false_or, Bool.or_false, Bool.or_true, h4]
    refine fun q1 hq => q _ _ (Same.trans s1 (Same.trans s (Same.new hq))) ?_
    rw [upd_same, ← hg, Nat.sub_self]
    show _ = some (HO.tup ((ys ++ []).map V.int))
    rw [List.append_nil]
theorem ok_need_many (T : Tx K mg w) (c_is_within : Cal P w K mg base 2 "is_within" ["thing", "low", "high"] (sp_is_within K)) (c_NoNumber : Exn P w K mg base "NoNumber" "found") : Cal P w K mg base 4 "need_many" ["many"] (sp_need_many K) := by
  refine cal_mk T.F_need_many T.g_need_many sc_need_many (len1 _) (fun _ _ _ _ _ _ us hl => match us, hl with | [_], _ => rfl) (fun cdv A outer s H vs Q E hr h => ?_)
  obtain ⟨v0, rfl, h⟩ := h
  have hu := hu_of hr.r
  refine ⟨_, (pss_one (ps_if (pt_not (pt_val (pe_cal c_is_within hr (by decide) (passes_call (takes_of rfl rfl rfl rfl) fun _ _ _ _ h => h) rfl (pa_cons (pv 0) (pa_cons pe_int (pa_cons (pe_gint rfl T.k_MOST_OUT_OF) pa_nil)))))) (pss_one (ps_rs1 c_NoNumber rfl (takes_of rfl rfl rfl rfl) hr.r (by decide) rfl (pa_cons (pv 0) pa_nil))) pss_nil)), ?_⟩
  obtain ⟨n, rfl, hn, q⟩ := h
  simp only [and_assoc, rst, rs, re, ra, rq, rx, ro, rl, rl2, rsp, rz, rix, rln, rg, rd, ri, rv, rk, rdd, rwi, at0, at1, at2, at3, upd_at, List.getElem?_cons_zero, List.getElem?_cons_succ, Option.some.injEq, exists_eq_left', exists_eq_left, List.set_cons_zero, List.set_cons_succ, true_and, and_true, HO.lst.injEq, HO.tup.injEq, exists_and_left, exists_eq, exists_eq', Br.t, Br.f, Be.t, Be.f, List.cons.injEq, List.append_nil, scal, if_true, if_false, ite_true, ite_false, eq_self_iff_true, decide_true, decide_false, Bool.not_true, Bool.not_false, reduceIte, List.nil_append, List.cons_append, reduceCtorEq, false_and, exists_false, false_or, or_false, Int.reduceLT, rsq, rlu, rdp, Bool.true_or, Bool.false_or, Bool.or_false, Bool.or_true]
  refine ⟨_, _, _, rfl, _, _, rfl, rfl, ⟨"int", rfl⟩, ?_⟩
  simp only [and_assoc, rst, rs, re, ra, rq, rx, ro, rl, rl2, rsp, rz, rix, rln, rg, rd, ri, rv, rk, rdd, rwi, at0, at1, at2, at3, upd_at, List.getElem?_cons_zero, List.getElem?_cons_succ, Option.some.injEq, exists_eq_left', exists_eq_left, List.set_cons_zero, List.set_cons_succ, true_and, and_true, HO.lst.injEq, HO.tup.injEq, exists_and_left, exists_eq, exists_eq', Br.t, Br.f, Be.t, Be.f, List.cons.injEq, List.append_nil, scal, if_true, if_false, ite_true, ite_false, eq_self_iff_true, decide_true, decide_false, Bool.not_true, Bool.not_false, reduceIte, List.nil_append, List.cons_append, reduceCtorEq, false_and, exists_false, false_or, or_false, Int.reduceLT, rsq, rlu, rdp, Bool.true_or, Bool.false_or, Bool.or_false, Bool.or_true, w60 hn]
  exact q
theorem ok_ways (T : Tx K mg w)   : Cal P w K mg base 1 "ways" ["many", "size"] (sp_ways K) := by
  refine cal_mk T.F_ways T.g_ways sc_ways (len2 _) (fun _ _ _ _ _ _ us hl => match us, hl with | [_, _], _ => rfl) (fun cdv A outer s H vs Q E hr h => ?_)
  obtain ⟨v0, v1, rfl, h⟩ := h
  have hu := hu_of hr.r
  refine ⟨_, (pss_cons (ps_if (pt_cmpR op_gt (pv 1) (pv 0) (nomark _)) (pss_one (ps_ret pe_int)) pss_nil)
      (pss_cons (ps_set (i := 2) sc_ways.nd rfl (Or.inl rfl) pe_int)
      (pss_cons (ps_for (passes_of rfl) rfl (pi_range1 (by rfl) T.n_range (pa_cons (pv 1) pa_nil)) (pg_name (i := 3) sc_ways.nd rfl (Or.inl rfl)) (pss_one (ps_set (i := 2) sc_ways.nd rfl (Or.inl rfl) (pe_op op_fdivW (pe_op op_mulA (pv 2) (pe_op op_sub (pv 0) (pv 3))) (pe_op op_add (pv 3) pe_int)))))
      (pss_one (ps_ret (pv 2)))))), ?_⟩
  obtain ⟨n, k, rfl, rfl, hn, hk, q⟩ := h
  simp only [and_assoc, rst, rs, re, ra, rq, rx, ro, rl, rl2, rsp, rz, rix, rln, rg, rd, ri, rv, rk, rdd, rwi, at0, at1, at2, at3, upd_at, List.getElem?_cons_zero, List.getElem?_cons_succ, Option.some.injEq, exists_eq_left', exists_eq_left, List.set_cons_zero, List.set_cons_succ, true_and, and_true, HO.lst.injEq, HO.tup.injEq, exists_and_left, exists_eq, exists_eq', Br.t, Br.f, Be.t, Be.f, List.cons.injEq, List.append_nil, scal, if_true, if_false, ite_true, ite_false, eq_self_iff_true, decide_true, decide_false, Bool.not_true, Bool.not_false, reduceIte, List.nil_append, List.cons_append, reduceCtorEq, false_and, exists_false, false_or, or_false, Int.reduceLT, rsq, rlu, rdp, Bool.true_or, Bool.false_or, Bool.or_false, Bool.or_true]
  refine Br.d (fun c => ?_) fun c => ?_
  · simp only [and_assoc, rst, rs, re, ra, rq, rx, ro, rl, rl2, rsp, rz, rix, rln, rg, rd, ri, rv, rk, rdd, rwi, at0, at1, at2, at3, upd_at, List.getElem?_cons_zero, List.getElem?_cons_succ, Option.some.injEq, exists_eq_left', exists_eq_left, List.set_cons_zero, List.set_cons_succ, true_and, and_true, HO.lst.injEq, HO.tup.injEq, exists_and_left, exists_eq, exists_eq', Br.t, Br.f, Be.t, Be.f, List.cons.injEq, List.append_nil, scal, if_true, if_false, ite_true, ite_false, eq_self_iff_true, decide_true, decide_false, Bool.not_true, Bool.not_false, reduceIte, List.nil_append, List.cons_append, reduceCtorEq, false_and, exists_false, false_or, or_false, Int.reduceLT, rsq, rlu, rdp, Bool.true_or, Bool.false_or, Bool.or_false, Bool.or_true]
    rw [wys, if_pos (by omega)] at q
    exact q
  · simp only [and_assoc, rst, rs, re, ra, rq, rx, ro, rl, rl2, rsp, rz, rix, rln, rg, rd, ri, rv, rk, rdd, rwi, at0, at1, at2, at3, upd_at, List.getElem?_cons_zero, List.getElem?_cons_succ, Option.some.injEq, exists_eq_left', exists_eq_left, List.set_cons_zero, List.set_cons_succ, true_and, and_true, HO.lst.injEq, HO.tup.injEq, exists_and_left, exists_eq, exists_eq', Br.t, Br.f, Be.t, Be.f, List.cons.injEq, List.append_nil, scal, if_true, if_false, ite_true, ite_false, eq_self_iff_true, decide_true, decide_false, Bool.not_true, Bool.not_false, reduceIte, List.nil_append, List.cons_append, reduceCtorEq, false_and, exists_false, false_or, or_false, Int.reduceLT, rsq, rlu, rdp, Bool.true_or, Bool.false_or, Bool.or_false, Bool.or_true]
    rw [wys, if_neg (by omega)] at q
    refine ⟨by omega, by omega, ?_⟩
    rw [Int.toNat_natCast]
    refine FI.rng (fun i σ H' => ∃ v3, H' = H ∧ σ = [some (.int n), some (.int k), some (.int (wl n i)), v3]) ⟨none, rfl, rfl⟩ ?_ ?_
    · rintro i σ H' hi ⟨v3, rfl, rfl⟩
      simp only [and_assoc, rst, rs, re, ra, rq, rx, ro, rl, rl2, rsp, rz, rix, rln, rg, rd, ri, rv, rk, rdd, rwi, at0, at1, at2, at3, upd_at, List.getElem?_cons_zero, List.getElem?_cons_succ, Option.some.injEq, exists_eq_left', exists_eq_left, List.set_cons_zero, List.set_cons_succ, true_and, and_true, HO.lst.injEq, HO.tup.injEq, exists_and_left, exists_eq, exists_eq', Br.t, Br.f, Be.t, Be.f, List.cons.injEq, List.append_nil, scal, if_true, if_false, ite_true, ite_false, eq_self_iff_true, decide_true, decide_false, Bool.not_true, Bool.not_false, reduceIte, List.nil_append, List.cons_append, reduceCtorEq, false_and, exists_false, false_or, or_false, Int.reduceLT, rsq, rlu, rdp, Bool.true_or, Bool.false_or, Bool.or_false, Bool.or_true]
      rw [Int.zero_add]
      exact ⟨small_mul (by omega) (by omega), wide_div (by omega) (b := 64) (by omega) (by decide) (by decide), rfl⟩
    · rintro σ H' ⟨v3, rfl, rfl⟩
      simp only [and_assoc, rst, rs, re, ra, rq, rx, ro, rl, rl2, rsp, rz, rix, rln, rg, rd, ri, rv, rk, rdd, rwi, at0, at1, at2, at3, upd_at, List.getElem?_cons_zero, List.getElem?_cons_succ, Option.some.injEq, exists_eq_left', exists_eq_left, List.set_cons_zero, List.set_cons_succ, true_and, and_true, HO.lst.injEq, HO.tup.injEq, exists_and_left, exists_eq, exists_eq', Br.t, Br.f, Be.t, Be.f, List.cons.injEq, List.append_nil, scal, if_true, if_false, ite_true, ite_false, eq_self_iff_true, decide_true, decide_false, Bool.not_true, Bool.not_false, reduceIte, List.nil_append, List.cons_append, reduceCtorEq, false_and, exists_false, false_or, or_false, Int.reduceLT, rsq, rlu, rdp, Bool.true_or, Bool.false_or, Bool.or_false, Bool.or_true]
      exact q
theorem ok_sets_many (T : Tx K mg w) (c_need_many : Cal P w K mg base 4 "need_many" ["many"] (sp_need_many K)) (c_ways : Cal P w K mg base 1 "ways" ["many", "size"] (sp_ways K))  : Cal P w K mg base 5 "sets_many" ["many", "size"] (sp_sets_many K) := by
  refine cal_mk T.F_sets_many T.g_sets_many sc_sets_many (len2 _) (fun _ _ _ _ _ _ us hl => match us, hl with | [_, _], _ => rfl) (fun cdv A outer s H vs Q E hr h => ?_)
  obtain ⟨v0, v1, rfl, h⟩ := h
  have hu := hu_of hr.r
  refine ⟨_, (pss_cons (ps_expr (pe_cal c_need_many hr (by decide) (passes_call (takes_of rfl rfl rfl rfl) fun _ _ _ _ h => h) rfl (pa_cons (pv 0) pa_nil)))
      (pss_cons (ps_expr (pe_cal c_need_many hr (by decide) (passes_call (takes_of rfl rfl rfl rfl) fun _ _ _ _ h => h) rfl (pa_cons (pv 1) pa_nil)))
      (pss_one (ps_ret (pe_cal c_ways hr (by decide) (passes_call (takes_of rfl rfl rfl rfl) fun _ _ _ _ h => h) rfl (pa_cons (pv 0) (pa_cons (pv 1) pa_nil))))))), ?_⟩
  obtain ⟨n, k, rfl, rfl, hn, hk, q⟩ := h
  simp only [and_assoc, rst, rs, re, ra, rq, rx, ro, rl, rl2, rsp, rz, rix, rln, rg, rd, ri, rv, rk, rdd, rwi, at0, at1, at2, at3, upd_at, List.getElem?_cons_zero, List.getElem?_cons_succ, Option.some.injEq, exists_eq_left', exists_eq_left, List.set_cons_zero, List.set_cons_succ, true_and, and_true, HO.lst.injEq, HO.tup.injEq, exists_and_left, exists_eq, exists_eq', Br.t, Br.f, Be.t, Be.f, List.cons.injEq, List.append_nil, scal, if_true, if_false, ite_true, ite_false, eq_self_iff_true, decide_true, decide_false, Bool.not_true, Bool.not_false, reduceIte, List.nil_append, List.cons_append, reduceCtorEq, false_and, exists_false, false_or, or_false, Int.reduceLT, rsq, rlu, rdp, Bool.true_or, Bool.false_or, Bool.or_false, Bool.or_true]
  refine ⟨_, rfl, n, rfl, hn, ?_⟩
  simp only [and_assoc, rst, rs, re, ra, rq, rx, ro, rl, rl2, rsp, rz, rix, rln, rg, rd, ri, rv, rk, rdd, rwi, at0, at1, at2, at3, upd_at, List.getElem?_cons_zero, List.getElem?_cons_succ, Option.some.injEq, exists_eq_left', exists_eq_left, List.set_cons_zero, List.set_cons_succ, true_and, and_true, HO.lst.injEq, HO.tup.injEq, exists_and_left, exists_eq, exists_eq', Br.t, Br.f, Be.t, Be.f, List.cons.injEq, List.append_nil, scal, if_true, if_false, ite_true, ite_false, eq_self_iff_true, decide_true, decide_false, Bool.not_true, Bool.not_false, reduceIte, List.nil_append, List.cons_append, reduceCtorEq, false_and, exists_false, false_or, or_false, Int.reduceLT, rsq, rlu, rdp, Bool.true_or, Bool.false_or, Bool.or_false, Bool.or_true]
  refine ⟨_, rfl, k, rfl, hk, ?_⟩
  simp only [and_assoc, rst, rs, re, ra, rq, rx, ro, rl, rl2, rsp, rz, rix, rln, rg, rd, ri, rv, rk, rdd, rwi, at0, at1, at2, at3, upd_at, List.getElem?_cons_zero, List.getElem?_cons_succ, Option.some.injEq, exists_eq_left', exists_eq_left, List.set_cons_zero, List.set_cons_succ, true_and, and_true, HO.lst.injEq, HO.tup.injEq, exists_and_left, exists_eq, exists_eq', Br.t, Br.f, Be.t, Be.f, List.cons.injEq, List.append_nil, scal, if_true, if_false, ite_true, ite_false, eq_self_iff_true, decide_true, decide_false, Bool.not_true, Bool.not_false, reduceIte, List.nil_append, List.cons_append, reduceCtorEq, false_and, exists_false, false_or, or_false, Int.reduceLT, rsq, rlu, rdp, Bool.true_or, Bool.false_or, Bool.or_false, Bool.or_true]
  exact ⟨_, _, rfl, n, k, rfl, rfl, hn, hk, q⟩
theorem setTo_ok {n k : Nat} {z : Int} (hn : n ≤ 60) (hk : k ≤ n) (z0 : 0 ≤ z) : ∀ i, 0 ≤ (setTo n k z i).1 ∧ (setTo n k z i).2.length ≤ i ∧ (setTo n k z i).2.length ≤ k
  | 0 => ⟨z0, Nat.le_refl _, Nat.zero_le _⟩
  | i + 1 => by
    obtain ⟨h1, h2, h3⟩ := setTo_ok hn hk z0 i
    rw [show setTo n k z (i + 1) = setStep n k (setTo n k z i) i from rfl]
    generalize setTo n k z i = st at h1 h2 h3 ⊢
    unfold setStep
    split
    · split
      · refine ⟨h1, ?_, ?_⟩ <;> (simp <;> omega)
      · refine ⟨?_, ?_, ?_⟩ <;> (simp <;> omega)
    · exact ⟨h1, by omega, h3⟩
theorem ok_set_at (T : Tx K mg w) (c_is_within : Cal P w K mg base 2 "is_within" ["thing", "low", "high"] (sp_is_within K)) (c_ways : Cal P w K mg base 1 "ways" ["many", "size"] (sp_ways K)) (c_sets_many : Cal P w K mg base 5 "sets_many" ["many", "size"] (sp_sets_many K)) (c_NoNumber : Exn P w K mg base "NoNumber" "found") : Cal P w K mg base 6 "set_at" ["many", "size", "rank"] (sp_set_at K) := by
  refine cal_mk T.F_set_at T.g_set_at sc_set_at (len3 _) (fun _ _ _ _ _ _ us hl => match us, hl with | [_, _, _], _ => rfl) (fun cdv A outer s H vs Q E hr h => ?_)
  obtain ⟨v0, v1, v2, rfl, h⟩ := h
  have hu := hu_of hr.r
  refine ⟨_, (pss_cons (ps_if (pt_not (pt_val (pe_cal c_is_within hr (by decide) (passes_call (takes_of rfl rfl rfl rfl) fun _ _ _ _ h => h) rfl (pa_cons (pv 2) (pa_cons pe_int (pa_cons (pe_op op_sub (pe_cal c_sets_many hr (by decide) (passes_call (takes_of rfl rfl rfl rfl) fun _ _ _ _ h => h) rfl (pa_cons (pv 0) (pa_cons (pv 1) pa_nil))) pe_int) pa_nil)))))) (pss_one (ps_rs1 c_NoNumber rfl (takes_of rfl rfl rfl rfl) hr.r (by decide) rfl (pa_cons (pv 2) pa_nil))) pss_nil)
      (pss_cons (ps_set (i := 3) sc_set_at.nd rfl (Or.inl rfl) (pe_lst pa_nil))
      (pss_cons (ps_for (passes_of rfl) rfl (pi_range1 (by rfl) T.n_range (pa_cons (pv 0) pa_nil)) (pg_name (i := 4) sc_set_at.nd rfl (Or.inl rfl)) (pss_cons (ps_set (i := 5) sc_set_at.nd rfl (Or.inl rfl) (pe_ifExp (pt_cmpR op_lt (pe_callB len_q (by rfl) T.n_len (by decide +kernel) (pa_cons (pv 3) pa_nil)) (pv 1) (nomark _)) (pe_cal c_ways hr (by decide) (passes_call (takes_of rfl rfl rfl rfl) fun _ _ _ _ h => h) rfl (pa_cons (pe_op op_sub (pe_op op_sub (pv 0) (pv 4)) pe_int) (pa_cons (pe_op op_sub (pe_op op_sub (pv 1) (pe_callB len_q (by rfl) T.n_len (by decide +kernel) (pa_cons (pv 3) pa_nil))) pe_int) pa_nil))) pe_int))
      (pss_one (ps_if (pt_cmpR op_lt (pv 2) (pv 5) (nomark _)) (pss_one (ps_expr (pe_ml PySem.F.slot_list_append PySem.F.type_list_append mt_append (pv 3) (pa_cons (pv 4) pa_nil)))) (pss_one (ps_aug (i := 2) sc_set_at.nd rfl (Or.inl rfl) (pv 5) ip_sub))))))
      (pss_one (ps_ret (pe_callTy tup_q (by rfl) T.n_tuple (by decide +kernel) (pa_cons (pv 3) pa_nil))))))), ?_⟩
  obtain ⟨n, k, z, rfl, rfl, rfl, hn, hk, z0, z1, q⟩ := h
  simp only [and_assoc, rst, rs, re, ra, rq, rx, ro, rl, rl2, rsp, rz, rix, rln, rg, rd, ri, rv, rk, rdd, rwi, at0, at1, at2, at3, upd_at, List.getElem?_cons_zero, List.getElem?_cons_succ, Option.some.injEq, exists_eq_left', exists_eq_left, List.set_cons_zero, List.set_cons_succ, true_and, and_true, HO.lst.injEq, HO.tup.injEq, exists_and_left, exists_eq, exists_eq', Br.t, Br.f, Be.t, Be.f, List.cons.injEq, List.append_nil, scal, if_true, if_false, ite_true, ite_false, eq_self_iff_true, decide_true, decide_false, Bool.not_true, Bool.not_false, reduceIte, List.nil_append, List.cons_append, reduceCtorEq, false_and, exists_false, false_or, or_false, Int.reduceLT, rsq, rlu, rdp, Bool.true_or, Bool.false_or, Bool.or_false, Bool.or_true]
  refine ⟨_, _, rfl, n, k, rfl, rfl, hn, by omega, ?_⟩
  simp only [and_assoc, rst, rs, re, ra, rq, rx, ro, rl, rl2, rsp, rz, rix, rln, rg, rd, ri, rv, rk, rdd, rwi, at0, at1, at2, at3, upd_at, List.getElem?_cons_zero, List.getElem?_cons_succ, Option.some.injEq, exists_eq_left', exists_eq_left, List.set_cons_zero, List.set_cons_succ, true_and, and_true, HO.lst.injEq, HO.tup.injEq, exists_and_left, exists_eq, exists_eq', Br.t, Br.f, Be.t, Be.f, List.cons.injEq, List.append_nil, scal, if_true, if_false, ite_true, ite_false, eq_self_iff_true, decide_true, decide_false, Bool.not_true, Bool.not_false, reduceIte, List.nil_append, List.cons_append, reduceCtorEq, false_and, exists_false, false_or, or_false, Int.reduceLT, rsq, rlu, rdp, Bool.true_or, Bool.false_or, Bool.or_false, Bool.or_true]
  refine ⟨_, _, _, rfl, _, _, rfl, rfl, ⟨"int", rfl⟩, ?_⟩
  have hw : within (.int z) 0 (wys n k - 1) = true := decide_eq_true ⟨by omega, by omega⟩
  simp only [and_assoc, rst, rs, re, ra, rq, rx, ro, rl, rl2, rsp, rz, rix, rln, rg, rd, ri, rv, rk, rdd, rwi, at0, at1, at2, at3, upd_at, List.getElem?_cons_zero, List.getElem?_cons_succ, Option.some.injEq, exists_eq_left', exists_eq_left, List.set_cons_zero, List.set_cons_succ, true_and, and_true, HO.lst.injEq, HO.tup.injEq, exists_and_left, exists_eq, exists_eq', Br.t, Br.f, Be.t, Be.f, List.cons.injEq, List.append_nil, scal, if_true, if_false, ite_true, ite_false, eq_self_iff_true, decide_true, decide_false, Bool.not_true, Bool.not_false, reduceIte, List.nil_append, List.cons_append, reduceCtorEq, false_and, exists_false, false_or, or_false, Int.reduceLT, rsq, rlu, rdp, Bool.true_or, Bool.false_or, Bool.or_false, Bool.or_true, hw]
  intro f hf
  refine ⟨by omega, by omega, ?_⟩
  rw [Int.toNat_natCast]
  refine FI.rng (fun i σ H' => ∃ v4 v5, Same H H' ∧ H' f = some (.lst ((setTo n k z i).2.map V.int)) ∧ σ = [some (.int n), some (.int k), some (.int (setTo n k z i).1), some (.ref f), v4, v5]) ⟨none, none, Same.new hf, upd_same, rfl⟩ ?_ ?_
  · rintro i σ H' hi ⟨v4, v5, s, h1, rfl⟩
    obtain ⟨r0, l1, l2⟩ := setTo_ok (z := z) hn hk z0 i
    have e3 : setTo n k z (i + 1) = setStep n k (setTo n k z i) i := rfl
    generalize setTo n k z i = st at h1 r0 l1 l2 e3 ⊢
    obtain ⟨rr, fs⟩ := st
    simp only [and_assoc, rst, rs, re, ra, rq, rx, ro, rl, rl2, rsp, rz, rix, rln, rg, rd, ri, rv, rk, rdd, rwi, at0, at1, at2, at3, upd_at, List.getElem?_cons_zero, List.getElem?_cons_succ, Option.some.injEq, exists_eq_left', exists_eq_left, List.set_cons_zero, List.set_cons_succ, true_and, and_true, HO.lst.injEq, HO.tup.injEq, exists_and_left, exists_eq, exists_eq', Br.t, Br.f, Be.t, Be.f, List.cons.injEq, List.append_nil, scal, if_true, if_false, ite_true, ite_false, eq_self_iff_true, decide_true, decide_false, Bool.not_true, Bool.not_false, reduceIte, List.nil_append, List.cons_append, reduceCtorEq, false_and, exists_false, false_or, or_false, Int.reduceLT, rsq, rlu, rdp, Bool.true_or, Bool.false_or, Bool.or_false, Bool.or_true, h1]
    rw [List.length_map, e3]
    refine Be.d (fun c => ?_) fun c => ?_
    · simp only [and_assoc, rst, rs, re, ra, rq, rx, ro, rl, rl2, rsp, rz, rix, rln, rg, rd, ri, rv, rk, rdd, rwi, at0, at1, at2, at3, upd_at, List.getElem?_cons_zero, List.getElem?_cons_succ, Option.some.injEq, exists_eq_left', exists_eq_left, List.set_cons_zero, List.set_cons_succ, true_and, and_true, HO.lst.injEq, HO.tup.injEq, exists_and_left, exists_eq, exists_eq', Br.t, Br.f, Be.t, Be.f, List.cons.injEq, List.append_nil, scal, if_true, if_false, ite_true, ite_false, eq_self_iff_true, decide_true, decide_false, Bool.not_true, Bool.not_false, reduceIte, List.nil_append, List.cons_append, reduceCtorEq, false_and, exists_false, false_or, or_false, Int.reduceLT, rsq, rlu, rdp, Bool.true_or, Bool.false_or, Bool.or_false, Bool.or_true, h1]
      rw [List.length_map]
      refine ⟨_, _, rfl, n - i - 1, k - fs.length - 1, by rw [show (n : Int) - (0 + (i : Int)) - 1 = ((n - i - 1 : Nat) : Int) by omega], by rw [show (k : Int) - (fs.length : Int) - 1 = ((k - fs.length - 1 : Nat) : Int) by omega], by omega, by omega, ?_⟩
      simp only [and_assoc, rst, rs, re, ra, rq, rx, ro, rl, rl2, rsp, rz, rix, rln, rg, rd, ri, rv, rk, rdd, rwi, at0, at1, at2, at3, upd_at, List.getElem?_cons_zero, List.getElem?_cons_succ, Option.some.injEq, exists_eq_left', exists_eq_left, List.set_cons_zero, List.set_cons_succ, true_and, and_true, HO.lst.injEq, HO.tup.injEq, exists_and_left, exists_eq, exists_eq', Br.t, Br.f, Be.t, Be.f, List.cons.injEq, List.append_nil, scal, if_true, if_false, ite_true, ite_false, eq_self_iff_true, decide_true, decide_false, Bool.not_true, Bool.not_false, reduceIte, List.nil_append, List.cons_append, reduceCtorEq, false_and, exists_false, false_or, or_false, Int.reduceLT, rsq, rlu, rdp, Bool.true_or, Bool.false_or, Bool.or_false, Bool.or_true]
      refine Br.d (fun c2 => ?_) fun c2 => ?_
      · have e4 : setStep n k (rr, fs) i = (rr, fs ++ [(i : Int)]) := by
          unfold setStep
          rw [if_pos (by show fs.length < k; omega), if_pos c2]
        rw [e4]
        simp only [and_assoc, rst, rs, re, ra, rq, rx, ro, rl, rl2, rsp, rz, rix, rln, rg, rd, ri, rv, rk, rdd, rwi, at0, at1, at2, at3, upd_at, List.getElem?_cons_zero, List.getElem?_cons_succ, Option.some.injEq, exists_eq_left', exists_eq_left, List.set_cons_zero, List.set_cons_succ, true_and, and_true, HO.lst.injEq, HO.tup.injEq, exists_and_left, exists_eq, exists_eq', Br.t, Br.f, Be.t, Be.f, List.cons.injEq, List.append_nil, scal, if_true, if_false, ite_true, ite_false, eq_self_iff_true, decide_true, decide_false, Bool.not_true, Bool.not_false, reduceIte, List.nil_append, List.cons_append, reduceCtorEq, false_and, exists_false, false_or, or_false, Int.reduceLT, rsq, rlu, rdp, Bool.true_or, Bool.false_or, Bool.or_false, Bool.or_true, h1]
        refine ⟨by rw [sizeLine_eq, List.length_map]; omega, Same.mut s hf, ?_⟩
        rw [List.map_append, Int.zero_add]
        rfl
      · have e4 : setStep n k (rr, fs) i = (rr - wys (n - i - 1) (k - fs.length - 1), fs) := by
          unfold setStep
          rw [if_pos (by show fs.length < k; omega), if_neg c2]
        rw [e4]
        simp only [and_assoc, rst, rs, re, ra, rq, rx, ro, rl, rl2, rsp, rz, rix, rln, rg, rd, ri, rv, rk, rdd, rwi, at0, at1, at2, at3, upd_at, List.getElem?_cons_zero, List.getElem?_cons_succ, Option.some.injEq, exists_eq_left', exists_eq_left, List.set_cons_zero, List.set_cons_succ, true_and, and_true, HO.lst.injEq, HO.tup.injEq, exists_and_left, exists_eq, exists_eq', Br.t, Br.f, Be.t, Be.f, List.cons.injEq, List.append_nil, scal, if_true, if_false, ite_true, ite_false, eq_self_iff_true, decide_true, decide_false, Bool.not_true, Bool.not_false, reduceIte, List.nil_append, List.cons_append, reduceCtorEq, false_and, exists_false, false_or, or_false, Int.reduceLT, rsq, rlu, rdp, Bool.true_or, Bool.false_or, Bool.or_false, Bool.or_true, h1]
        exact s
    · have e4 : setStep n k (rr, fs) i = (rr, fs) := by
        unfold setStep
        rw [if_neg (by show ¬ fs.length < k; omega)]
      rw [e4]
      refine Br.d (fun c2 => absurd c2 (by show ¬ rr < 0; omega)) fun c2 => ?_
      simp only [and_assoc, rst, rs, re, ra, rq, rx, ro, rl, rl2, rsp, rz, rix, rln, rg, rd, ri, rv, rk, rdd, rwi, at0, at1, at2, at3, upd_at, List.getElem?_cons_zero, List.getElem?_cons_succ, Option.some.injEq, exists_eq_left', exists_eq_left, List.set_cons_zero, List.set_cons_succ, true_and, and_true, HO.lst.injEq, HO.tup.injEq, exists_and_left, exists_eq, exists_eq', Br.t, Br.f, Be.t, Be.f, List.cons.injEq, List.append_nil, scal, if_true, if_false, ite_true, ite_false, eq_self_iff_true, decide_true, decide_false, Bool.not_true, Bool.not_false, reduceIte, List.nil_append, List.cons_append, reduceCtorEq, false_and, exists_false, false_or, or_false, Int.reduceLT, rsq, rlu, rdp, Bool.true_or, Bool.false_or, Bool.or_false, Bool.or_true, h1]
      exact ⟨s, Int.sub_zero _⟩
  · rintro σ H' ⟨v4, v5, s, h1, rfl⟩
    simp only [and_assoc, rst, rs, re, ra, rq, rx, ro, rl, rl2, rsp, rz, rix, rln, rg, rd, ri, rv, rk, rdd, rwi, at0, at1, at2, at3, upd_at, List.getElem?_cons_zero, List.getElem?_cons_succ, Option.some.injEq, exists_eq_left', exists_eq_left, List.set_cons_zero, List.set_cons_succ, true_and, and_true, HO.lst.injEq, HO.tup.injEq, exists_and_left, exists_eq, exists_eq', Br.t, Br.f, Be.t, Be.f, List.cons.injEq, List.append_nil, scal, if_true, if_false, ite_true, ite_false, eq_self_iff_true, decide_true, decide_false, Bool.not_true, Bool.not_false, reduceIte, List.nil_append, List.cons_append, reduceCtorEq, false_and, exists_false, false_or, or_false, Int.reduceLT, rsq, rlu, rdp, Bool.true_or, Bool.false_or, Bool.or_false, Bool.or_true, h1]
    refine fun q1 hq => q _ _ (Same.trans s (Same.new hq)) ?_
    rw [upd_same]
    rfl
end
end Law

-- RDX rsq, rlu, rdp, Bool.true_or, Bool.false_or, Bool.or_false, Bool.or_true
namespace Law
open PySem PySem.Spec PyProof.Rows L2 Sw
theorem pow_mulok {t : Int} {i : Nat} (t0 : 0 ≤ t) (t1 : t ≤ 2 ^ 64) (hi : i ≤ 12) : Sw.MulOk (t ^ i) t := by
  refine .inr (wide_mul (a := 1000) (b := 100) ?_ (by omega) (by decide) (by decide) (by decide))
  rw [Int.natAbs_pow]
  have h1 : t.natAbs ^ i ≤ (2 ^ 64) ^ i := Nat.pow_le_pow_left (by omega) i
  have h2 : ((2 : Nat) ^ 64) ^ i = 2 ^ (64 * i) := by rw [← Nat.pow_mul]
  have h3 : (2 : Nat) ^ (64 * i) < 2 ^ 1000 := Nat.pow_lt_pow_right (by decide) (by omega)
  omega
section
variable {P : Program} {w : World} {K : Fg} {mg : Str → Option Value} {base : Heap}
theorem ok_need_shares (T : Tx K mg w) (c_is_within : Cal P w K mg base 2 "is_within" ["thing", "low", "high"] (sp_is_within K)) (c_NoShares : Exn P w K mg base "NoShares" "found") : Cal P w K mg base 4 "need_shares" ["thing"] (sp_need_shares K) := by
  refine cal_mk T.F_need_shares T.g_need_shares sc_need_shares (len1 _) (fun _ _ _ _ _ _ us hl => match us, hl with | [_], _ => rfl) (fun cdv A outer s H vs Q E hr h => ?_)
  obtain ⟨v0, rfl, h⟩ := h
  have hu := hu_of hr.r
  refine ⟨_, (pss_cons (ps_if (PW.pt (pw_or (pt_not (pt_val (pe_callB is_2 (by rfl) T.n_isinstance (by decide +kernel) (pa_cons (pv 0) (pa_cons (pe_tup (pa_cons (pe_bltn (v := .ty "list") (by rfl) T.n_list (by decide +kernel) rfl) (pa_cons (pe_bltn (v := .ty "tuple") (by rfl) T.n_tuple (by decide +kernel) rfl) pa_nil))) pa_nil))))) (pw_or1 (pt_not (pt_chain op_le op_le pe_int (pe_callB len_q (by rfl) T.n_len (by decide +kernel) (pa_cons (pv 0) pa_nil)) (pe_gint rfl T.k_MOST_SHARES)))))) (pss_one (ps_rs1 c_NoShares rfl (takes_of rfl rfl rfl rfl) hr.r (by decide) rfl (pa_cons (pv 0) pa_nil))) pss_nil)
      (pss_one (ps_if (PW.pt (pw_or (pt_not (pt_truth (pe_callB (cr_all rfl) (by rfl) T.n_all (by decide +kernel) (pa_cons (pe_lc (own := [("share", 1)]) (g := (gName 1)) rfl sc_need_shares.nd (pi_q (pv 0)) (blkOk_by (N := nm_need_shares) (sc := defScope s_need_shares) (by decide +kernel)) (fun _ _ _ _ _ => (pg_name (i := 1) sc_need_shares.nd rfl (Or.inl rfl))) (fun _ _ _ _ _ => pts_nil) (fun _ _ _ _ _ => (pe_cal c_is_within hr (by decide) passL rfl (pa_cons (pv 1) (pa_cons pe_int (pa_cons (pe_gint rfl T.k_MOST_SHARE) pa_nil)))))) pa_nil)) (by intro _; rfl))) (pw_or1 (pt_cmpR op_eq (pe_callB (sum_q rfl) (by rfl) T.n_sum (by decide +kernel) (pa_cons (pv 0) pa_nil)) pe_int (nomark _))))) (pss_one (ps_rs1 c_NoShares rfl (takes_of rfl rfl rfl rfl) hr.r (by decide) rfl (pa_cons (pv 0) pa_nil))) pss_nil))), ?_⟩
  obtain ⟨ps, ⟨p, o, rfl, hp, hs⟩, ⟨l1, l2, hz, hsum⟩, q⟩ := h
  have kb := kindB hp hs
  have tr : (!isT o || isT o) = true := by cases isT o <;> rfl
  simp only [and_assoc, rst, rs, re, ra, rq, rx, ro, rl, rl2, rsp, rz, rix, rln, rg, rd, ri, rv, rk, rdd, rwi, at0, at1, at2, at3, upd_at, List.getElem?_cons_zero, List.getElem?_cons_succ, Option.some.injEq, exists_eq_left', exists_eq_left, List.set_cons_zero, List.set_cons_succ, true_and, and_true, HO.lst.injEq, HO.tup.injEq, exists_and_left, exists_eq, exists_eq', Br.t, Br.f, Be.t, Be.f, List.cons.injEq, List.append_nil, scal, if_true, if_false, ite_true, ite_false, eq_self_iff_true, decide_true, decide_false, Bool.not_true, Bool.not_false, reduceIte, List.nil_append, List.cons_append, reduceCtorEq, false_and, exists_false, false_or, or_false, Int.reduceLT, rsq, rlu, rdp, Bool.true_or, Bool.false_or, Bool.or_false, Bool.or_true]
  intro a ha
  have sa : Same H (upd H a (.tup [.ty "list", .ty "tuple"])) := Same.new ha
  refine ⟨_, a, "list", "tuple", _, _, rfl, upd_same, isB_same sa kb.2.2.2.2.1, isB_same sa kb.2.2.2.2.2, ?_⟩
  rw [tr]
  generalize upd H a _ = H1 at sa
  simp only [and_assoc, rst, rs, re, ra, rq, rx, ro, rl, rl2, rsp, rz, rix, rln, rg, rd, ri, rv, rk, rdd, rwi, at0, at1, at2, at3, upd_at, List.getElem?_cons_zero, List.getElem?_cons_succ, Option.some.injEq, exists_eq_left', exists_eq_left, List.set_cons_zero, List.set_cons_succ, true_and, and_true, HO.lst.injEq, HO.tup.injEq, exists_and_left, exists_eq, exists_eq', Br.t, Br.f, Be.t, Be.f, List.cons.injEq, List.append_nil, scal, if_true, if_false, ite_true, ite_false, eq_self_iff_true, decide_true, decide_false, Bool.not_true, Bool.not_false, reduceIte, List.nil_append, List.cons_append, reduceCtorEq, false_and, exists_false, false_or, or_false, Int.reduceLT, rsq, rlu, rdp, Bool.true_or, Bool.false_or, Bool.or_false, Bool.or_true]
  refine ⟨o, sa _ _ hp, _, hs, ?_⟩
  rw [List.length_map]
  refine Be.d (fun c1 => ?_) fun c1 => absurd c1 (by omega)
  refine Br.n (fun c2 => absurd c2 (by omega)) fun c2 => ?_
  simp only [and_assoc, rst, rs, re, ra, rq, rx, ro, rl, rl2, rsp, rz, rix, rln, rg, rd, ri, rv, rk, rdd, rwi, at0, at1, at2, at3, upd_at, List.getElem?_cons_zero, List.getElem?_cons_succ, Option.some.injEq, exists_eq_left', exists_eq_left, List.set_cons_zero, List.set_cons_succ, true_and, and_true, HO.lst.injEq, HO.tup.injEq, exists_and_left, exists_eq, exists_eq', Br.t, Br.f, Be.t, Be.f, List.cons.injEq, List.append_nil, scal, if_true, if_false, ite_true, ite_false, eq_self_iff_true, decide_true, decide_false, Bool.not_true, Bool.not_false, reduceIte, List.nil_append, List.cons_append, reduceCtorEq, false_and, exists_false, false_or, or_false, Int.reduceLT, rsq, rlu, rdp, Bool.true_or, Bool.false_or, Bool.or_false, Bool.or_true]
  refine ⟨o, sa _ _ hp, _, hs, LC.seq hs (fun D i H' => Same H1 H' ∧ H' D = some (.lst (((ps.take i).map fun _ => true).map V.bl))) (fun D hD => ⟨Same.new hD, upd_same⟩) (fun D i H' _ _ h => h.1 _ _ (sa _ _ hp)) ?_ ?_⟩
  · rintro D i x H' hD hx ⟨s, h1⟩
    obtain ⟨n, hn, rfl⟩ := map_at hx
    have hw : within (.int n) 0 1000000 = true := decide_eq_true (hz n (List.mem_of_getElem? hn))
    simp only [and_assoc, rst, rs, re, ra, rq, rx, ro, rl, rl2, rsp, rz, rix, rln, rg, rd, ri, rv, rk, rdd, rwi, at0, at1, at2, at3, upd_at, List.getElem?_cons_zero, List.getElem?_cons_succ, Option.some.injEq, exists_eq_left', exists_eq_left, List.set_cons_zero, List.set_cons_succ, true_and, and_true, HO.lst.injEq, HO.tup.injEq, exists_and_left, exists_eq, exists_eq', Br.t, Br.f, Be.t, Be.f, List.cons.injEq, List.append_nil, scal, if_true, if_false, ite_true, ite_false, eq_self_iff_true, decide_true, decide_false, Bool.not_true, Bool.not_false, reduceIte, List.nil_append, List.cons_append, reduceCtorEq, false_and, exists_false, false_or, or_false, Int.reduceLT, rsq, rlu, rdp, Bool.true_or, Bool.false_or, Bool.or_false, Bool.or_true]
    refine ⟨_, _, _, rfl, _, _, rfl, rfl, ⟨_, rfl⟩, ?_⟩
    rw [hw]
    have hl : (((ps.take i).map fun _ => true).map V.bl).length ≤ 60 := by rw [List.length_map, List.length_map, List.length_take]; omega
    refine ⟨_, h1, by rw [sizeLine_eq]; omega, Same.mut s hD, ?_⟩
    rw [take_snoc hn, List.map_append, List.map_append]
    rfl
  · rintro D H' hD ⟨s, h1⟩
    rw [List.length_map, List.take_length] at h1
    refine ⟨D, rfl, _, SqL.of h1, _, rfl, Be.of (fun c => ?_) fun c => ?_⟩
    · have : (ps.map fun _ => true).all id = true := by
        rw [List.all_map, List.all_eq_true]
        exact fun _ _ => rfl
      rw [this] at c
      cases c
    · refine ⟨o, s _ _ (sa _ _ hp), ps, hs, Br.d (fun c4 => absurd c4 (by omega)) fun c4 => ?_⟩
      simp only [and_assoc, rst, rs, re, ra, rq, rx, ro, rl, rl2, rsp, rz, rix, rln, rg, rd, ri, rv, rk, rdd, rwi, at0, at1, at2, at3, upd_at, List.getElem?_cons_zero, List.getElem?_cons_succ, Option.some.injEq, exists_eq_left', exists_eq_left, List.set_cons_zero, List.set_cons_succ, true_and, and_true, HO.lst.injEq, HO.tup.injEq, exists_and_left, exists_eq, exists_eq', Br.t, Br.f, Be.t, Be.f, List.cons.injEq, List.append_nil, scal, if_true, if_false, ite_true, ite_false, eq_self_iff_true, decide_true, decide_false, Bool.not_true, Bool.not_false, reduceIte, List.nil_append, List.cons_append, reduceCtorEq, false_and, exists_false, false_or, or_false, Int.reduceLT, rsq, rlu, rdp, Bool.true_or, Bool.false_or, Bool.or_false, Bool.or_true]
      exact q _ (Same.trans sa s)
theorem ok_shares_many (T : Tx K mg w) (c_need_shares : Cal P w K mg base 4 "need_shares" ["thing"] (sp_need_shares K))  : Cal P w K mg base 5 "shares_many" ["shares"] (sp_shares_many K) := by
  refine cal_mk T.F_shares_many T.g_shares_many sc_shares_many (len1 _) (fun _ _ _ _ _ _ us hl => match us, hl with | [_], _ => rfl) (fun cdv A outer s H vs Q E hr h => ?_)
  obtain ⟨v0, rfl, h⟩ := h
  have hu := hu_of hr.r
  refine ⟨_, (pss_cons (ps_expr (pe_cal c_need_shares hr (by decide) (passes_call (takes_of rfl rfl rfl rfl) fun _ _ _ _ h => h) rfl (pa_cons (pv 0) pa_nil)))
      (pss_one (ps_ret (pe_callB (sum_q rfl) (by rfl) T.n_sum (by decide +kernel) (pa_cons (pv 0) pa_nil))))), ?_⟩
  obtain ⟨ps, hx, ho, q⟩ := h
  simp only [and_assoc, rst, rs, re, ra, rq, rx, ro, rl, rl2, rsp, rz, rix, rln, rg, rd, ri, rv, rk, rdd, rwi, at0, at1, at2, at3, upd_at, List.getElem?_cons_zero, List.getElem?_cons_succ, Option.some.injEq, exists_eq_left', exists_eq_left, List.set_cons_zero, List.set_cons_succ, true_and, and_true, HO.lst.injEq, HO.tup.injEq, exists_and_left, exists_eq, exists_eq', Br.t, Br.f, Be.t, Be.f, List.cons.injEq, List.append_nil, scal, if_true, if_false, ite_true, ite_false, eq_self_iff_true, decide_true, decide_false, Bool.not_true, Bool.not_false, reduceIte, List.nil_append, List.cons_append, reduceCtorEq, false_and, exists_false, false_or, or_false, Int.reduceLT, rsq, rlu, rdp, Bool.true_or, Bool.false_or, Bool.or_false, Bool.or_true]
  refine ⟨_, rfl, ps, hx, ho, fun H1 s1 => ?_⟩
  obtain ⟨p, o, rfl, hp, hs⟩ := hx
  simp only [and_assoc, rst, rs, re, ra, rq, rx, ro, rl, rl2, rsp, rz, rix, rln, rg, rd, ri, rv, rk, rdd, rwi, at0, at1, at2, at3, upd_at, List.getElem?_cons_zero, List.getElem?_cons_succ, Option.some.injEq, exists_eq_left', exists_eq_left, List.set_cons_zero, List.set_cons_succ, true_and, and_true, HO.lst.injEq, HO.tup.injEq, exists_and_left, exists_eq, exists_eq', Br.t, Br.f, Be.t, Be.f, List.cons.injEq, List.append_nil, scal, if_true, if_false, ite_true, ite_false, eq_self_iff_true, decide_true, decide_false, Bool.not_true, Bool.not_false, reduceIte, List.nil_append, List.cons_append, reduceCtorEq, false_and, exists_false, false_or, or_false, Int.reduceLT, rsq, rlu, rdp, Bool.true_or, Bool.false_or, Bool.or_false, Bool.or_true]
  exact ⟨o, s1 _ _ hp, _, hs, q _ s1⟩
theorem ok_parted_at (T : Tx K mg w) (c_is_within : Cal P w K mg base 2 "is_within" ["thing", "low", "high"] (sp_is_within K)) (c_shares_many : Cal P w K mg base 5 "shares_many" ["shares"] (sp_shares_many K)) (c_NoNumber : Exn P w K mg base "NoNumber" "found") : Cal P w K mg base 6 "parted_at" ["shares", "number"] (sp_parted_at K) := by
  refine cal_mk T.F_parted_at T.g_parted_at sc_parted_at (len2 _) (fun _ _ _ _ _ _ us hl => match us, hl with | [_, _], _ => rfl) (fun cdv A outer s H vs Q E hr h => ?_)
  obtain ⟨v0, v1, rfl, h⟩ := h
  have hu := hu_of hr.r
  refine ⟨_, (pss_cons (ps_if (pt_not (pt_val (pe_cal c_is_within hr (by decide) (passes_call (takes_of rfl rfl rfl rfl) fun _ _ _ _ h => h) rfl (pa_cons (pv 1) (pa_cons pe_int (pa_cons (pe_op op_sub (pe_cal c_shares_many hr (by decide) (passes_call (takes_of rfl rfl rfl rfl) fun _ _ _ _ h => h) rfl (pa_cons (pv 0) pa_nil)) pe_int) pa_nil)))))) (pss_one (ps_rs1 c_NoNumber rfl (takes_of rfl rfl rfl rfl) hr.r (by decide) rfl (pa_cons (pv 1) pa_nil))) pss_nil)
      (pss_cons (ps_set (i := 2) sc_parted_at.nd rfl (Or.inl rfl) pe_int)
      (pss_cons (ps_while (passes_of rfl) (pt_cmpR op_ge (pv 1) (pe_ix ix_q (pv 0) (pv 2) (fun _ _ => rfl)) (nomark _)) (pss_cons (ps_aug (i := 1) sc_parted_at.nd rfl (Or.inl rfl) (pe_ix ix_q (pv 0) (pv 2) (fun _ _ => rfl)) ip_sub)
      (pss_one (ps_aug (i := 2) sc_parted_at.nd rfl (Or.inl rfl) pe_int ip_add))))
      (pss_one (ps_ret (pe_tup (pa_cons (pv 2) (pa_cons (pv 1) pa_nil)))))))), ?_⟩
  obtain ⟨ps, zz, hx, ho, rfl, z0, z1, q⟩ := h
  simp only [and_assoc, rst, rs, re, ra, rq, rx, ro, rl, rl2, rsp, rz, rix, rln, rg, rd, ri, rv, rk, rdd, rwi, at0, at1, at2, at3, upd_at, List.getElem?_cons_zero, List.getElem?_cons_succ, Option.some.injEq, exists_eq_left', exists_eq_left, List.set_cons_zero, List.set_cons_succ, true_and, and_true, HO.lst.injEq, HO.tup.injEq, exists_and_left, exists_eq, exists_eq', Br.t, Br.f, Be.t, Be.f, List.cons.injEq, List.append_nil, scal, if_true, if_false, ite_true, ite_false, eq_self_iff_true, decide_true, decide_false, Bool.not_true, Bool.not_false, reduceIte, List.nil_append, List.cons_append, reduceCtorEq, false_and, exists_false, false_or, or_false, Int.reduceLT, rsq, rlu, rdp, Bool.true_or, Bool.false_or, Bool.or_false, Bool.or_true]
  refine ⟨_, rfl, ps, hx, ho, fun H1 s1 => ?_⟩
  simp only [and_assoc, rst, rs, re, ra, rq, rx, ro, rl, rl2, rsp, rz, rix, rln, rg, rd, ri, rv, rk, rdd, rwi, at0, at1, at2, at3, upd_at, List.getElem?_cons_zero, List.getElem?_cons_succ, Option.some.injEq, exists_eq_left', exists_eq_left, List.set_cons_zero, List.set_cons_succ, true_and, and_true, HO.lst.injEq, HO.tup.injEq, exists_and_left, exists_eq, exists_eq', Br.t, Br.f, Be.t, Be.f, List.cons.injEq, List.append_nil, scal, if_true, if_false, ite_true, ite_false, eq_self_iff_true, decide_true, decide_false, Bool.not_true, Bool.not_false, reduceIte, List.nil_append, List.cons_append, reduceCtorEq, false_and, exists_false, false_or, or_false, Int.reduceLT, rsq, rlu, rdp, Bool.true_or, Bool.false_or, Bool.or_false, Bool.or_true]
  refine ⟨_, _, _, rfl, _, _, rfl, rfl, ⟨"int", rfl⟩, ?_⟩
  have hw : within (.int zz) 0 (ps.sum - 1) = true := decide_eq_true ⟨z0, by omega⟩
  obtain ⟨p, o, rfl, hp, hs⟩ := hx
  simp only [and_assoc, rst, rs, re, ra, rq, rx, ro, rl, rl2, rsp, rz, rix, rln, rg, rd, ri, rv, rk, rdd, rwi, at0, at1, at2, at3, upd_at, List.getElem?_cons_zero, List.getElem?_cons_succ, Option.some.injEq, exists_eq_left', exists_eq_left, List.set_cons_zero, List.set_cons_succ, true_and, and_true, HO.lst.injEq, HO.tup.injEq, exists_and_left, exists_eq, exists_eq', Br.t, Br.f, Be.t, Be.f, List.cons.injEq, List.append_nil, scal, if_true, if_false, ite_true, ite_false, eq_self_iff_true, decide_true, decide_false, Bool.not_true, Bool.not_false, reduceIte, List.nil_append, List.cons_append, reduceCtorEq, false_and, exists_false, false_or, or_false, Int.reduceLT, rsq, rlu, rdp, Bool.true_or, Bool.false_or, Bool.or_false, Bool.or_true, hw]
  refine wh (fun m σ H' => ∃ (i : Nat) (z : Int), Same H H' ∧ i + m = ps.length ∧ 0 ≤ z ∧ z < (ps.drop i).sum ∧ i + shGo (ps.drop i) z = shGo ps zz ∧ σ = [some (.ref p), some (.int z), some (.int (i : Int))]) ps.length ⟨0, zz, s1, by omega, z0, z1, Nat.zero_add _, rfl⟩ ?_
  rintro m σ H' ⟨i, z, s, hm, z0, z1, hg, rfl⟩
  have hi : i < ps.length := by
    rcases Nat.lt_or_ge i ps.length with c | c
    · exact c
    · rw [List.drop_eq_nil_of_le c] at z1
      simp at z1
      omega
  rw [List.drop_eq_getElem_cons hi, List.sum_cons] at z1
  rw [List.drop_eq_getElem_cons hi] at hg
  simp only [and_assoc, rst, rs, re, ra, rq, rx, ro, rl, rl2, rsp, rz, rix, rln, rg, rd, ri, rv, rk, rdd, rwi, at0, at1, at2, at3, upd_at, List.getElem?_cons_zero, List.getElem?_cons_succ, Option.some.injEq, exists_eq_left', exists_eq_left, List.set_cons_zero, List.set_cons_succ, true_and, and_true, HO.lst.injEq, HO.tup.injEq, exists_and_left, exists_eq, exists_eq', Br.t, Br.f, Be.t, Be.f, List.cons.injEq, List.append_nil, scal, if_true, if_false, ite_true, ite_false, eq_self_iff_true, decide_true, decide_false, Bool.not_true, Bool.not_false, reduceIte, List.nil_append, List.cons_append, reduceCtorEq, false_and, exists_false, false_or, or_false, Int.reduceLT, rsq, rlu, rdp, Bool.true_or, Bool.false_or, Bool.or_false, Bool.or_true]
  refine ⟨o, s _ _ hp, _, hs, _, atI_nat (by rw [List.getElem?_map, List.getElem?_eq_getElem hi]; rfl), _, rfl, Br.d (fun c => ?_) fun c => ?_⟩
  · refine Nx.go ?_
    simp only [and_assoc, rst, rs, re, ra, rq, rx, ro, rl, rl2, rsp, rz, rix, rln, rg, rd, ri, rv, rk, rdd, rwi, at0, at1, at2, at3, upd_at, List.getElem?_cons_zero, List.getElem?_cons_succ, Option.some.injEq, exists_eq_left', exists_eq_left, List.set_cons_zero, List.set_cons_succ, true_and, and_true, HO.lst.injEq, HO.tup.injEq, exists_and_left, exists_eq, exists_eq', Br.t, Br.f, Be.t, Be.f, List.cons.injEq, List.append_nil, scal, if_true, if_false, ite_true, ite_false, eq_self_iff_true, decide_true, decide_false, Bool.not_true, Bool.not_false, reduceIte, List.nil_append, List.cons_append, reduceCtorEq, false_and, exists_false, false_or, or_false, Int.reduceLT, rsq, rlu, rdp, Bool.true_or, Bool.false_or, Bool.or_false, Bool.or_true]
    refine ⟨o, s _ _ hp, _, hs, _, atI_nat (by rw [List.getElem?_map, List.getElem?_eq_getElem hi]; rfl), ?_⟩
    simp only [and_assoc, rst, rs, re, ra, rq, rx, ro, rl, rl2, rsp, rz, rix, rln, rg, rd, ri, rv, rk, rdd, rwi, at0, at1, at2, at3, upd_at, List.getElem?_cons_zero, List.getElem?_cons_succ, Option.some.injEq, exists_eq_left', exists_eq_left, List.set_cons_zero, List.set_cons_succ, true_and, and_true, HO.lst.injEq, HO.tup.injEq, exists_and_left, exists_eq, exists_eq', Br.t, Br.f, Be.t, Be.f, List.cons.injEq, List.append_nil, scal, if_true, if_false, ite_true, ite_false, eq_self_iff_true, decide_true, decide_false, Bool.not_true, Bool.not_false, reduceIte, List.nil_append, List.cons_append, reduceCtorEq, false_and, exists_false, false_or, or_false, Int.reduceLT, rsq, rlu, rdp, Bool.true_or, Bool.false_or, Bool.or_false, Bool.or_true]
    refine ⟨m - 1, by omega, s, i + 1, by omega, _, by omega, by omega, ?_, rfl, by omega⟩
    rw [← hg]
    show i + 1 + _ = i + (if ps[i] ≤ z then _ else 0)
    rw [if_pos c]
    omega
  · simp only [and_assoc, rst, rs, re, ra, rq, rx, ro, rl, rl2, rsp, rz, rix, rln, rg, rd, ri, rv, rk, rdd, rwi, at0, at1, at2, at3, upd_at, List.getElem?_cons_zero, List.getElem?_cons_succ, Option.some.injEq, exists_eq_left', exists_eq_left, List.set_cons_zero, List.set_cons_succ, true_and, and_true, HO.lst.injEq, HO.tup.injEq, exists_and_left, exists_eq, exists_eq', Br.t, Br.f, Be.t, Be.f, List.cons.injEq, List.append_nil, scal, if_true, if_false, ite_true, ite_false, eq_self_iff_true, decide_true, decide_false, Bool.not_true, Bool.not_false, reduceIte, List.nil_append, List.cons_append, reduceCtorEq, false_and, exists_false, false_or, or_false, Int.reduceLT, rsq, rlu, rdp, Bool.true_or, Bool.false_or, Bool.or_false, Bool.or_true]
    refine fun q1 hq1 => q q1 z _ (Same.trans s (Same.new hq1)) ?_
    rw [upd_same, ← hg]
    show _ = some (HO.tup [.int ((i + (if ps[i] ≤ z then _ else 0) : Nat) : Int), _])
    rw [if_neg c]
    rfl
theorem ok_share_at (T : Tx K mg w) (c_parted_at : Cal P w K mg base 6 "parted_at" ["shares", "number"] (sp_parted_at K))  : Cal P w K mg base 7 "share_at" ["shares", "number"] (sp_share_at K) := by
  refine cal_mk T.F_share_at T.g_share_at sc_share_at (len2 _) (fun _ _ _ _ _ _ us hl => match us, hl with | [_, _], _ => rfl) (fun cdv A outer s H vs Q E hr h => ?_)
  obtain ⟨v0, v1, rfl, h⟩ := h
  have hu := hu_of hr.r
  refine ⟨_, (pss_one (ps_ret (pe_ix ix_q (pe_cal c_parted_at hr (by decide) (passes_call (takes_of rfl rfl rfl rfl) fun _ _ _ _ h => h) rfl (pa_cons (pv 0) (pa_cons (pv 1) pa_nil))) pe_int (fun _ _ => rfl)))), ?_⟩
  obtain ⟨ps, z, hx, ho, rfl, z0, z1, q⟩ := h
  simp only [and_assoc, rst, rs, re, ra, rq, rx, ro, rl, rl2, rsp, rz, rix, rln, rg, rd, ri, rv, rk, rdd, rwi, at0, at1, at2, at3, upd_at, List.getElem?_cons_zero, List.getElem?_cons_succ, Option.some.injEq, exists_eq_left', exists_eq_left, List.set_cons_zero, List.set_cons_succ, true_and, and_true, HO.lst.injEq, HO.tup.injEq, exists_and_left, exists_eq, exists_eq', Br.t, Br.f, Be.t, Be.f, List.cons.injEq, List.append_nil, scal, if_true, if_false, ite_true, ite_false, eq_self_iff_true, decide_true, decide_false, Bool.not_true, Bool.not_false, reduceIte, List.nil_append, List.cons_append, reduceCtorEq, false_and, exists_false, false_or, or_false, Int.reduceLT, rsq, rlu, rdp, Bool.true_or, Bool.false_or, Bool.or_false, Bool.or_true]
  refine ⟨_, _, rfl, ps, z, hx, ho, rfl, z0, z1, fun p r H1 s1 h1 => ?_⟩
  simp only [and_assoc, rst, rs, re, ra, rq, rx, ro, rl, rl2, rsp, rz, rix, rln, rg, rd, ri, rv, rk, rdd, rwi, at0, at1, at2, at3, upd_at, List.getElem?_cons_zero, List.getElem?_cons_succ, Option.some.injEq, exists_eq_left', exists_eq_left, List.set_cons_zero, List.set_cons_succ, true_and, and_true, HO.lst.injEq, HO.tup.injEq, exists_and_left, exists_eq, exists_eq', Br.t, Br.f, Be.t, Be.f, List.cons.injEq, List.append_nil, scal, if_true, if_false, ite_true, ite_false, eq_self_iff_true, decide_true, decide_false, Bool.not_true, Bool.not_false, reduceIte, List.nil_append, List.cons_append, reduceCtorEq, false_and, exists_false, false_or, or_false, Int.reduceLT, rsq, rlu, rdp, Bool.true_or, Bool.false_or, Bool.or_false, Bool.or_true, h1]
  exact q _ s1
theorem ok_product (T : Tx K mg w)   : Cal P w K mg base 1 "product" ["bases"] (sp_product K) := by
  refine cal_mk T.F_product T.g_product sc_product (len1 _) (fun _ _ _ _ _ _ us hl => match us, hl with | [_], _ => rfl) (fun cdv A outer s H vs Q E hr h => ?_)
  obtain ⟨v0, rfl, h⟩ := h
  have hu := hu_of hr.r
  refine ⟨_, (pss_cons (ps_set (i := 1) sc_product.nd rfl (Or.inl rfl) pe_int)
      (pss_cons (ps_for (passes_of rfl) rfl (pi_q (pv 0)) (pg_name (i := 2) sc_product.nd rfl (Or.inl rfl)) (pss_one (ps_set (i := 1) sc_product.nd rfl (Or.inl rfl) (pe_op op_mulA (pv 1) (pv 2)))))
      (pss_one (ps_ret (pv 1))))), ?_⟩
  obtain ⟨p, n, t, rfl, hp, hn, t0, t1, q⟩ := h
  simp only [and_assoc, rst, rs, re, ra, rq, rx, ro, rl, rl2, rsp, rz, rix, rln, rg, rd, ri, rv, rk, rdd, rwi, at0, at1, at2, at3, upd_at, List.getElem?_cons_zero, List.getElem?_cons_succ, Option.some.injEq, exists_eq_left', exists_eq_left, List.set_cons_zero, List.set_cons_succ, true_and, and_true, HO.lst.injEq, HO.tup.injEq, exists_and_left, exists_eq, exists_eq', Br.t, Br.f, Be.t, Be.f, List.cons.injEq, List.append_nil, scal, if_true, if_false, ite_true, ite_false, eq_self_iff_true, decide_true, decide_false, Bool.not_true, Bool.not_false, reduceIte, List.nil_append, List.cons_append, reduceCtorEq, false_and, exists_false, false_or, or_false, Int.reduceLT, rsq, rlu, rdp, Bool.true_or, Bool.false_or, Bool.or_false, Bool.or_true, hp]
  refine FI.seq (o := .lst (List.replicate n (.int t))) rfl (fun i σ H' => ∃ v2, H' = H ∧ σ = [some (.ref p), some (.int (t ^ i)), v2]) ⟨none, rfl, by rw [Int.pow_zero]⟩ (fun i σ H' _ ⟨_, e, _⟩ => by rw [e]; exact hp) ?_ ?_
  · rintro i x σ H' hx ⟨v2, rfl, rfl⟩
    have hx2 : x = .int t := List.eq_of_mem_replicate (List.mem_of_getElem? hx)
    subst hx2
    simp only [and_assoc, rst, rs, re, ra, rq, rx, ro, rl, rl2, rsp, rz, rix, rln, rg, rd, ri, rv, rk, rdd, rwi, at0, at1, at2, at3, upd_at, List.getElem?_cons_zero, List.getElem?_cons_succ, Option.some.injEq, exists_eq_left', exists_eq_left, List.set_cons_zero, List.set_cons_succ, true_and, and_true, HO.lst.injEq, HO.tup.injEq, exists_and_left, exists_eq, exists_eq', Br.t, Br.f, Be.t, Be.f, List.cons.injEq, List.append_nil, scal, if_true, if_false, ite_true, ite_false, eq_self_iff_true, decide_true, decide_false, Bool.not_true, Bool.not_false, reduceIte, List.nil_append, List.cons_append, reduceCtorEq, false_and, exists_false, false_or, or_false, Int.reduceLT, rsq, rlu, rdp, Bool.true_or, Bool.false_or, Bool.or_false, Bool.or_true]
    have hi : i < n := by
      have := (List.getElem?_eq_some_iff.mp hx).1
      rw [List.length_replicate] at this
      exact this
    exact ⟨pow_mulok t0 t1 (by omega), by rw [Int.pow_succ]⟩
  · rintro σ H' ⟨v2, rfl, rfl⟩
    rw [List.length_replicate]
    simp only [and_assoc, rst, rs, re, ra, rq, rx, ro, rl, rl2, rsp, rz, rix, rln, rg, rd, ri, rv, rk, rdd, rwi, at0, at1, at2, at3, upd_at, List.getElem?_cons_zero, List.getElem?_cons_succ, Option.some.injEq, exists_eq_left', exists_eq_left, List.set_cons_zero, List.set_cons_succ, true_and, and_true, HO.lst.injEq, HO.tup.injEq, exists_and_left, exists_eq, exists_eq', Br.t, Br.f, Be.t, Be.f, List.cons.injEq, List.append_nil, scal, if_true, if_false, ite_true, ite_false, eq_self_iff_true, decide_true, decide_false, Bool.not_true, Bool.not_false, reduceIte, List.nil_append, List.cons_append, reduceCtorEq, false_and, exists_false, false_or, or_false, Int.reduceLT, rsq, rlu, rdp, Bool.true_or, Bool.false_or, Bool.or_false, Bool.or_true]
    exact q
theorem ok_unmixed (T : Tx K mg w) (c_is_within : Cal P w K mg base 2 "is_within" ["thing", "low", "high"] (sp_is_within K)) (c_product : Cal P w K mg base 1 "product" ["bases"] (sp_product K)) (c_NoNumber : Exn P w K mg base "NoNumber" "found") : Cal P w K mg base 4 "unmixed" ["number", "bases"] (sp_unmixed K) := by
  refine cal_mk T.F_unmixed T.g_unmixed sc_unmixed (len2 _) (fun _ _ _ _ _ _ us hl => match us, hl with | [_, _], _ => rfl) (fun cdv A outer s H vs Q E hr h => ?_)
  obtain ⟨v0, v1, rfl, h⟩ := h
  have hu := hu_of hr.r
  refine ⟨_, (pss_cons (ps_if (pt_not (pt_val (pe_cal c_is_within hr (by decide) (passes_call (takes_of rfl rfl rfl rfl) fun _ _ _ _ h => h) rfl (pa_cons (pv 0) (pa_cons pe_int (pa_cons (pe_op op_sub (pe_cal c_product hr (by decide) (passes_call (takes_of rfl rfl rfl rfl) fun _ _ _ _ h => h) rfl (pa_cons (pv 1) pa_nil)) pe_int) pa_nil)))))) (pss_one (ps_rs1 c_NoNumber rfl (takes_of rfl rfl rfl rfl) hr.r (by decide) rfl (pa_cons (pv 0) pa_nil))) pss_nil)
      (pss_cons (ps_set (i := 2) sc_unmixed.nd rfl (Or.inl rfl) (pe_lst pa_nil))
      (pss_cons (ps_for (passes_of rfl) rfl (pi_revQ (by rfl) T.n_reversed (pv 1)) (pg_name (i := 3) sc_unmixed.nd rfl (Or.inl rfl)) (pss_cons (ps_asg (pe_callB call_divmodW (by rfl) T.n_divmod (by decide +kernel) (pa_cons (pv 0) (pa_cons (pv 3) pa_nil))) (pg_tupQ rfl (pgs_cons (pg_name (i := 0) sc_unmixed.nd rfl (Or.inl rfl)) (pgs_cons (pg_name (i := 4) sc_unmixed.nd rfl (Or.inl rfl)) pgs_nil)) (gname_len (gname_len (fun _ _ _ _ h => gnil_len h)))))
      (pss_one (ps_expr (pe_ml PySem.F.slot_list_append PySem.F.type_list_append mt_append (pv 2) (pa_cons (pv 4) pa_nil))))))
      (pss_one (ps_ret (pe_revL (pv 2))))))), ?_⟩
  obtain ⟨p, n, t, zz, rfl, hp, rfl, hn, t0, t64, t1, z0, z1, q⟩ := h
  simp only [and_assoc, rst, rs, re, ra, rq, rx, ro, rl, rl2, rsp, rz, rix, rln, rg, rd, ri, rv, rk, rdd, rwi, at0, at1, at2, at3, upd_at, List.getElem?_cons_zero, List.getElem?_cons_succ, Option.some.injEq, exists_eq_left', exists_eq_left, List.set_cons_zero, List.set_cons_succ, true_and, and_true, HO.lst.injEq, HO.tup.injEq, exists_and_left, exists_eq, exists_eq', Br.t, Br.f, Be.t, Be.f, List.cons.injEq, List.append_nil, scal, if_true, if_false, ite_true, ite_false, eq_self_iff_true, decide_true, decide_false, Bool.not_true, Bool.not_false, reduceIte, List.nil_append, List.cons_append, reduceCtorEq, false_and, exists_false, false_or, or_false, Int.reduceLT, rsq, rlu, rdp, Bool.true_or, Bool.false_or, Bool.or_false, Bool.or_true]
  refine ⟨_, rfl, p, n, t, rfl, hp, hn, by omega, t64, ?_⟩
  simp only [and_assoc, rst, rs, re, ra, rq, rx, ro, rl, rl2, rsp, rz, rix, rln, rg, rd, ri, rv, rk, rdd, rwi, at0, at1, at2, at3, upd_at, List.getElem?_cons_zero, List.getElem?_cons_succ, Option.some.injEq, exists_eq_left', exists_eq_left, List.set_cons_zero, List.set_cons_succ, true_and, and_true, HO.lst.injEq, HO.tup.injEq, exists_and_left, exists_eq, exists_eq', Br.t, Br.f, Be.t, Be.f, List.cons.injEq, List.append_nil, scal, if_true, if_false, ite_true, ite_false, eq_self_iff_true, decide_true, decide_false, Bool.not_true, Bool.not_false, reduceIte, List.nil_append, List.cons_append, reduceCtorEq, false_and, exists_false, false_or, or_false, Int.reduceLT, rsq, rlu, rdp, Bool.true_or, Bool.false_or, Bool.or_false, Bool.or_true]
  refine ⟨_, _, _, rfl, _, _, rfl, rfl, ⟨"int", rfl⟩, ?_⟩
  have hw : within (.int zz) 0 (t ^ n - 1) = true := decide_eq_true ⟨z0, by omega⟩
  simp only [and_assoc, rst, rs, re, ra, rq, rx, ro, rl, rl2, rsp, rz, rix, rln, rg, rd, ri, rv, rk, rdd, rwi, at0, at1, at2, at3, upd_at, List.getElem?_cons_zero, List.getElem?_cons_succ, Option.some.injEq, exists_eq_left', exists_eq_left, List.set_cons_zero, List.set_cons_succ, true_and, and_true, HO.lst.injEq, HO.tup.injEq, exists_and_left, exists_eq, exists_eq', Br.t, Br.f, Be.t, Be.f, List.cons.injEq, List.append_nil, scal, if_true, if_false, ite_true, ite_false, eq_self_iff_true, decide_true, decide_false, Bool.not_true, Bool.not_false, reduceIte, List.nil_append, List.cons_append, reduceCtorEq, false_and, exists_false, false_or, or_false, Int.reduceLT, rsq, rlu, rdp, Bool.true_or, Bool.false_or, Bool.or_false, Bool.or_true, hw]
  intro f hf
  have hp1 : (upd H f (.lst [])) p = some (.lst (List.replicate n (.int t))) := by rw [upd_ne (ne_of_none hp hf)]; exact hp
  refine ⟨_, hp1, _, rfl, ?_⟩
  have lr : (List.replicate n (V.int t)).length = n := List.length_replicate
  refine FI.rev rfl (fun i σ H' => ∃ v3 v4 z ys, Same H H' ∧ H' f = some (.lst (ys.map V.int)) ∧ ys.length = i ∧ 0 ≤ z ∧ z ≤ zz ∧ dig t (n - i) z ++ ys.reverse = dig t n zz ∧ σ = [some (.int z), some (.ref p), some (.ref f), v3, v4]) ⟨none, none, zz, [], Same.new hf, upd_same, rfl, z0, Int.le_refl _, by simp, rfl⟩ (fun i σ H' ⟨_, _, _, _, s, _⟩ => s _ _ hp) ?_ ?_
  · rintro i x σ H' hi hx ⟨v3, v4, z, ys, s, h1, hl, z0', z1', hg, rfl⟩
    have hx2 : x = .int t := List.eq_of_mem_replicate (List.mem_of_getElem? hx)
    subst hx2
    rw [lr] at hi
    obtain ⟨j, hj⟩ : ∃ j, n - i = j + 1 := ⟨n - i - 1, by omega⟩
    simp only [and_assoc, rst, rs, re, ra, rq, rx, ro, rl, rl2, rsp, rz, rix, rln, rg, rd, ri, rv, rk, rdd, rwi, at0, at1, at2, at3, upd_at, List.getElem?_cons_zero, List.getElem?_cons_succ, Option.some.injEq, exists_eq_left', exists_eq_left, List.set_cons_zero, List.set_cons_succ, true_and, and_true, HO.lst.injEq, HO.tup.injEq, exists_and_left, exists_eq, exists_eq', Br.t, Br.f, Be.t, Be.f, List.cons.injEq, List.append_nil, scal, if_true, if_false, ite_true, ite_false, eq_self_iff_true, decide_true, decide_false, Bool.not_true, Bool.not_false, reduceIte, List.nil_append, List.cons_append, reduceCtorEq, false_and, exists_false, false_or, or_false, Int.reduceLT, rsq, rlu, rdp, Bool.true_or, Bool.false_or, Bool.or_false, Bool.or_true]
    refine ⟨divm z0' (by omega) (by omega), fun T hT => ?_⟩
    have a1 := eq_false (ne_of_none h1 hT)
    simp only [and_assoc, rst, rs, re, ra, rq, rx, ro, rl, rl2, rsp, rz, rix, rln, rg, rd, ri, rv, rk, rdd, rwi, at0, at1, at2, at3, upd_at, List.getElem?_cons_zero, List.getElem?_cons_succ, Option.some.injEq, exists_eq_left', exists_eq_left, List.set_cons_zero, List.set_cons_succ, true_and, and_true, HO.lst.injEq, HO.tup.injEq, exists_and_left, exists_eq, exists_eq', Br.t, Br.f, Be.t, Be.f, List.cons.injEq, List.append_nil, scal, if_true, if_false, ite_true, ite_false, eq_self_iff_true, decide_true, decide_false, Bool.not_true, Bool.not_false, reduceIte, List.nil_append, List.cons_append, reduceCtorEq, false_and, exists_false, false_or, or_false, Int.reduceLT, rsq, rlu, rdp, Bool.true_or, Bool.false_or, Bool.or_false, Bool.or_true, a1, h1]
    refine ⟨by rw [sizeLine_eq, List.length_map]; omega, Same.mut (Same.trans s (Same.new hT)) hf, ?_⟩
    refine ⟨_, _, z / t, ys ++ [z % t], by rw [List.map_append]; rfl, by simp [hl], Int.ediv_nonneg z0' (by omega), Int.le_trans (Int.ediv_le_self t z0') z1', ?_, rfl, rfl, rfl⟩
    rw [show n - (i + 1) = j by omega, ← hg, hj]
    show dig t j (z / t) ++ (ys ++ [z % t]).reverse = (dig t j (z / t) ++ [z % t]) ++ ys.reverse
    simp
  · rintro σ H' ⟨v3, v4, z, ys, s, h1, hl, z0', z1', hg, rfl⟩
    simp only [and_assoc, rst, rs, re, ra, rq, rx, ro, rl, rl2, rsp, rz, rix, rln, rg, rd, ri, rv, rk, rdd, rwi, at0, at1, at2, at3, upd_at, List.getElem?_cons_zero, List.getElem?_cons_succ, Option.some.injEq, exists_eq_left', exists_eq_left, List.set_cons_zero, List.set_cons_succ, true_and, and_true, HO.lst.injEq, HO.tup.injEq, exists_and_left, exists_eq, exists_eq', Br.t, Br.f, Be.t, Be.f, List.cons.injEq, List.append_nil, scal, if_true, if_false, ite_true, ite_false, eq_self_iff_true, decide_true, decide_false, Bool.not_true, Bool.not_false, reduceIte, List.nil_append, List.cons_append, reduceCtorEq, false_and, exists_false, false_or, or_false, Int.reduceLT, rsq, rlu, rdp, Bool.true_or, Bool.false_or, Bool.or_false, Bool.or_true]
    refine ⟨_, SqL.of h1, fun q1 hq => q _ _ (Same.trans s (Same.new hq)) ?_⟩
    rw [lr, Nat.sub_self] at hg
    rw [upd_same, ← List.map_reverse, ← hg]
    rfl
end
end Law

-- RDX rmd, rsq, rlu, rdp, Bool.true_or, Bool.false_or, Bool.or_false, Bool.or_true
namespace Law
open PySem PySem.Spec PyProof.Rows L2 Sw
theorem wys_pos {n k : Nat} (hn : n ≤ 60) (hk : k ≤ n) : 1 ≤ wys n k ∧ wys n k ≤ 10 ^ 18 := by
  rw [wys, if_neg (by omega)]
  exact wl_ok n hn k hk
theorem sum_le : ∀ l : List Int, (∀ z ∈ l, 0 ≤ z ∧ z ≤ 1000000) → 0 ≤ l.sum ∧ l.sum ≤ 1000000 * (l.length : Int)
  | [], _ => by simp
  | a :: l, h => by
    have h1 := h a (by simp)
    have h2 := sum_le l fun z hz => h z (List.mem_cons_of_mem _ hz)
    rw [List.sum_cons, List.length_cons]
    omega
theorem pow_pos' {t : Int} (h : 1 ≤ t) : ∀ n : Nat, 1 ≤ t ^ n
  | 0 => by rw [Int.pow_zero]; omega
  | n + 1 => by
    rw [Int.pow_succ]
    have := pow_pos' h n
    have h2 := Int.mul_le_mul this h (by omega) (by omega)
    omega
theorem tot_ok : ∀ {sh : Sh}, sh.ok → 1 ≤ sh.tot ∧ sh.tot ≤ 2 ^ 64
  | .bound b, h => h
  | .shares ps, h => ⟨h.2.2.2, by
    have h1 := (sum_le ps h.2.2.1).2
    have h2 := h.2.1
    show ps.sum ≤ 2 ^ 64
    omega⟩
  | .orders n, h => ⟨fac_pos n, by have := fac_small n h; show fac n ≤ 2 ^ 64; omega⟩
  | .sets n k, h => ⟨(wys_pos h.1 h.2).1, Int.le_trans (wys_pos h.1 h.2).2 (by decide)⟩
  | .pair a b, h => ⟨by
    have h1 := (tot_ok h.1).1
    have h2 := (tot_ok h.2.1).1
    have h3 := Int.mul_le_mul h1 h2 (by omega) (by omega)
    show 1 ≤ a.tot * b.tot
    omega, h.2.2⟩
  | .rows a n, h => ⟨pow_pos' (tot_ok h.1).1 n, h.2.2⟩
theorem within_int {x : V} {l h : Int} (e : within x l h = true) : ∃ z, x = .int z ∧ l ≤ z ∧ z ≤ h := by
  cases x with
  | int z => exact ⟨z, rfl, of_decide_eq_true e⟩
  | _ => cases e
theorem putF_len (f : Str) (v : V) : ∀ fs : List (Str × V), (putF f v fs).length ≤ fs.length + 1
  | [] => Nat.le_refl _
  | (g, x) :: r => by
    unfold putF
    split
    · simp
    · have := putF_len f v r
      simp
      omega
section
variable {P : Program} {w : World} {K : Fg} {mg : Str → Option Value} {base : Heap}
theorem ok_Below_numbers (T : Tx K mg w)   : CalM P w K mg base 1 "Below" "numbers" ["self"] (sp_Below_numbers K) := by
  refine calM_mk (q := "Shape.numbers") T.F_Below_numbers T.cls_Below T.M_Below_numbers sc_Below_numbers (len1 _) (fun _ _ _ _ _ _ us hl => match us, hl with | [_], _ => rfl) (fun cdv A outer s H vs Q E hr h => ?_)
  obtain ⟨v0, rfl, h⟩ := h
  have hu := hu_of hr.r
  refine ⟨_, (pss_one (ps_ret (pe_fldC T.cls_Below T.na_Below_whole (pv 0)))), ?_⟩
  obtain ⟨sh, hk, ho, q⟩ := h
  obtain ⟨a, dx, fs, rfl, ha, hw, ht, n1, n2, n3, n4, n5⟩ := ho.any
  rw [hk] at ha
  simp only [and_assoc, rst, rs, re, ra, rq, rx, ro, rl, rl2, rsp, rz, rix, rln, rg, rd, ri, rv, rk, rdd, rwi, at0, at1, at2, at3, upd_at, List.getElem?_cons_zero, List.getElem?_cons_succ, Option.some.injEq, exists_eq_left', exists_eq_left, List.set_cons_zero, List.set_cons_succ, true_and, and_true, HO.lst.injEq, HO.tup.injEq, exists_and_left, exists_eq, exists_eq', Br.t, Br.f, Be.t, Be.f, List.cons.injEq, List.append_nil, scal, if_true, if_false, ite_true, ite_false, eq_self_iff_true, decide_true, decide_false, Bool.not_true, Bool.not_false, reduceIte, List.nil_append, List.cons_append, reduceCtorEq, false_and, exists_false, false_or, or_false, Int.reduceLT, rmd, rsq, rlu, rdp, Bool.true_or, Bool.false_or, Bool.or_false, Bool.or_true]
  exact ⟨dx, fs, ha, _, hw, q⟩
theorem ok_Below_height (T : Tx K mg w)   : CalM P w K mg base 1 "Below" "height" ["self"] (sp_Below_height K) := by
  refine calM_mk (q := "Shape.height") T.F_Below_height T.cls_Below T.M_Below_height sc_Below_height (len1 _) (fun _ _ _ _ _ _ us hl => match us, hl with | [_], _ => rfl) (fun cdv A outer s H vs Q E hr h => ?_)
  obtain ⟨v0, rfl, h⟩ := h
  have hu := hu_of hr.r
  refine ⟨_, (pss_one (ps_ret (pe_fldC T.cls_Below T.na_Below_tallness (pv 0)))), ?_⟩
  obtain ⟨sh, hk, ho, q⟩ := h
  obtain ⟨a, dx, fs, rfl, ha, hw, ht, n1, n2, n3, n4, n5⟩ := ho.any
  rw [hk] at ha
  simp only [and_assoc, rst, rs, re, ra, rq, rx, ro, rl, rl2, rsp, rz, rix, rln, rg, rd, ri, rv, rk, rdd, rwi, at0, at1, at2, at3, upd_at, List.getElem?_cons_zero, List.getElem?_cons_succ, Option.some.injEq, exists_eq_left', exists_eq_left, List.set_cons_zero, List.set_cons_succ, true_and, and_true, HO.lst.injEq, HO.tup.injEq, exists_and_left, exists_eq, exists_eq', Br.t, Br.f, Be.t, Be.f, List.cons.injEq, List.append_nil, scal, if_true, if_false, ite_true, ite_false, eq_self_iff_true, decide_true, decide_false, Bool.not_true, Bool.not_false, reduceIte, List.nil_append, List.cons_append, reduceCtorEq, false_and, exists_false, false_or, or_false, Int.reduceLT, rmd, rsq, rlu, rdp, Bool.true_or, Bool.false_or, Bool.or_false, Bool.or_true]
  exact ⟨dx, fs, ha, _, ht, q⟩
theorem ok_sinit_Below (T : Tx K mg w)  (c_TooWide : Exn P w K mg base "TooWide" "total") : CalM P w K mg base 4 "Shape" "__init__" ["self", "whole", "tallness"] (sp_sinit_Below K) := by
  refine calM_mk (q := "Shape.__init__") T.F_sinit_Below T.cls_Shape T.M_sinit_Below sc_sinit_Below (len3 _) (fun _ _ _ _ _ _ us hl => match us, hl with | [_, _, _], _ => rfl) (fun cdv A outer s H vs Q E hr h => ?_)
  obtain ⟨v0, v1, v2, rfl, h⟩ := h
  have hu := hu_of hr.r
  refine ⟨_, (pss_cons (ps_if (pt_cmpR op_gt (pv 1) (pe_gint rfl T.k_MOST_NUMBERS) (nomark _)) (pss_one (ps_rs1 c_TooWide rfl (takes_of rfl rfl rfl rfl) hr.r (by decide) rfl (pa_cons (pv 1) pa_nil))) pss_nil)
      (pss_cons (ps_fldC T.cls_Below T.na_Below_whole (pv 0) (pv 1))
      (pss_one (ps_fldC T.cls_Below T.na_Below_tallness (pv 0) (pv 2))))), ?_⟩
  obtain ⟨a, dx, fs, t, l, rfl, ha, hl, rfl, rfl, ht, q⟩ := h
  simp only [and_assoc, rst, rs, re, ra, rq, rx, ro, rl, rl2, rsp, rz, rix, rln, rg, rd, ri, rv, rk, rdd, rwi, at0, at1, at2, at3, upd_at, List.getElem?_cons_zero, List.getElem?_cons_succ, Option.some.injEq, exists_eq_left', exists_eq_left, List.set_cons_zero, List.set_cons_succ, true_and, and_true, HO.lst.injEq, HO.tup.injEq, exists_and_left, exists_eq, exists_eq', Br.t, Br.f, Be.t, Be.f, List.cons.injEq, List.append_nil, scal, if_true, if_false, ite_true, ite_false, eq_self_iff_true, decide_true, decide_false, Bool.not_true, Bool.not_false, reduceIte, List.nil_append, List.cons_append, reduceCtorEq, false_and, exists_false, false_or, or_false, Int.reduceLT, rmd, rsq, rlu, rdp, Bool.true_or, Bool.false_or, Bool.or_false, Bool.or_true]
  refine Br.d (fun c => absurd c (by omega)) fun c => ?_
  simp only [and_assoc, rst, rs, re, ra, rq, rx, ro, rl, rl2, rsp, rz, rix, rln, rg, rd, ri, rv, rk, rdd, rwi, at0, at1, at2, at3, upd_at, List.getElem?_cons_zero, List.getElem?_cons_succ, Option.some.injEq, exists_eq_left', exists_eq_left, List.set_cons_zero, List.set_cons_succ, true_and, and_true, HO.lst.injEq, HO.tup.injEq, exists_and_left, exists_eq, exists_eq', Br.t, Br.f, Be.t, Be.f, List.cons.injEq, List.append_nil, scal, if_true, if_false, ite_true, ite_false, eq_self_iff_true, decide_true, decide_false, Bool.not_true, Bool.not_false, reduceIte, List.nil_append, List.cons_append, reduceCtorEq, false_and, exists_false, false_or, or_false, Int.reduceLT, rmd, rsq, rlu, rdp, Bool.true_or, Bool.false_or, Bool.or_false, Bool.or_true, ha]
  refine ⟨_, _, rfl, by omega, _, _, rfl, ?_, ?_⟩
  · have := putF_len ("whole" : Str) (.int t) fs
    omega
  · rw [L2.upd_upd]
    exact q
theorem ok_Shares_numbers (T : Tx K mg w)   : CalM P w K mg base 1 "Shares" "numbers" ["self"] (sp_Shares_numbers K) := by
  refine calM_mk (q := "Shape.numbers") T.F_Shares_numbers T.cls_Shares T.M_Shares_numbers sc_Shares_numbers (len1 _) (fun _ _ _ _ _ _ us hl => match us, hl with | [_], _ => rfl) (fun cdv A outer s H vs Q E hr h => ?_)
  obtain ⟨v0, rfl, h⟩ := h
  have hu := hu_of hr.r
  refine ⟨_, (pss_one (ps_ret (pe_fldC T.cls_Shares T.na_Shares_whole (pv 0)))), ?_⟩
  obtain ⟨sh, hk, ho, q⟩ := h
  obtain ⟨a, dx, fs, rfl, ha, hw, ht, n1, n2, n3, n4, n5⟩ := ho.any
  rw [hk] at ha
  simp only [and_assoc, rst, rs, re, ra, rq, rx, ro, rl, rl2, rsp, rz, rix, rln, rg, rd, ri, rv, rk, rdd, rwi, at0, at1, at2, at3, upd_at, List.getElem?_cons_zero, List.getElem?_cons_succ, Option.some.injEq, exists_eq_left', exists_eq_left, List.set_cons_zero, List.set_cons_succ, true_and, and_true, HO.lst.injEq, HO.tup.injEq, exists_and_left, exists_eq, exists_eq', Br.t, Br.f, Be.t, Be.f, List.cons.injEq, List.append_nil, scal, if_true, if_false, ite_true, ite_false, eq_self_iff_true, decide_true, decide_false, Bool.not_true, Bool.not_false, reduceIte, List.nil_append, List.cons_append, reduceCtorEq, false_and, exists_false, false_or, or_false, Int.reduceLT, rmd, rsq, rlu, rdp, Bool.true_or, Bool.false_or, Bool.or_false, Bool.or_true]
  exact ⟨dx, fs, ha, _, hw, q⟩
theorem ok_Shares_height (T : Tx K mg w)   : CalM P w K mg base 1 "Shares" "height" ["self"] (sp_Shares_height K) := by
  refine calM_mk (q := "Shape.height") T.F_Shares_height T.cls_Shares T.M_Shares_height sc_Shares_height (len1 _) (fun _ _ _ _ _ _ us hl => match us, hl with | [_], _ => rfl) (fun cdv A outer s H vs Q E hr h => ?_)
  obtain ⟨v0, rfl, h⟩ := h
  have hu := hu_of hr.r
  refine ⟨_, (pss_one (ps_ret (pe_fldC T.cls_Shares T.na_Shares_tallness (pv 0)))), ?_⟩
  obtain ⟨sh, hk, ho, q⟩ := h
  obtain ⟨a, dx, fs, rfl, ha, hw, ht, n1, n2, n3, n4, n5⟩ := ho.any
  rw [hk] at ha
  simp only [and_assoc, rst, rs, re, ra, rq, rx, ro, rl, rl2, rsp, rz, rix, rln, rg, rd, ri, rv, rk, rdd, rwi, at0, at1, at2, at3, upd_at, List.getElem?_cons_zero, List.getElem?_cons_succ, Option.some.injEq, exists_eq_left', exists_eq_left, List.set_cons_zero, List.set_cons_succ, true_and, and_true, HO.lst.injEq, HO.tup.injEq, exists_and_left, exists_eq, exists_eq', Br.t, Br.f, Be.t, Be.f, List.cons.injEq, List.append_nil, scal, if_true, if_false, ite_true, ite_false, eq_self_iff_true, decide_true, decide_false, Bool.not_true, Bool.not_false, reduceIte, List.nil_append, List.cons_append, reduceCtorEq, false_and, exists_false, false_or, or_false, Int.reduceLT, rmd, rsq, rlu, rdp, Bool.true_or, Bool.false_or, Bool.or_false, Bool.or_true]
  exact ⟨dx, fs, ha, _, ht, q⟩
theorem ok_sinit_Shares (T : Tx K mg w)  (c_TooWide : Exn P w K mg base "TooWide" "total") : CalM P w K mg base 4 "Shape" "__init__" ["self", "whole", "tallness"] (sp_sinit_Shares K) := by
  refine calM_mk (q := "Shape.__init__") T.F_sinit_Shares T.cls_Shape T.M_sinit_Shares sc_sinit_Shares (len3 _) (fun _ _ _ _ _ _ us hl => match us, hl with | [_, _, _], _ => rfl) (fun cdv A outer s H vs Q E hr h => ?_)
  obtain ⟨v0, v1, v2, rfl, h⟩ := h
  have hu := hu_of hr.r
  refine ⟨_, (pss_cons (ps_if (pt_cmpR op_gt (pv 1) (pe_gint rfl T.k_MOST_NUMBERS) (nomark _)) (pss_one (ps_rs1 c_TooWide rfl (takes_of rfl rfl rfl rfl) hr.r (by decide) rfl (pa_cons (pv 1) pa_nil))) pss_nil)
      (pss_cons (ps_fldC T.cls_Shares T.na_Shares_whole (pv 0) (pv 1))
      (pss_one (ps_fldC T.cls_Shares T.na_Shares_tallness (pv 0) (pv 2))))), ?_⟩
  obtain ⟨a, dx, fs, t, l, rfl, ha, hl, rfl, rfl, ht, q⟩ := h
  simp only [and_assoc, rst, rs, re, ra, rq, rx, ro, rl, rl2, rsp, rz, rix, rln, rg, rd, ri, rv, rk, rdd, rwi, at0, at1, at2, at3, upd_at, List.getElem?_cons_zero, List.getElem?_cons_succ, Option.some.injEq, exists_eq_left', exists_eq_left, List.set_cons_zero, List.set_cons_succ, true_and, and_true, HO.lst.injEq, HO.tup.injEq, exists_and_left, exists_eq, exists_eq', Br.t, Br.f, Be.t, Be.f, List.cons.injEq, List.append_nil, scal, if_true, if_false, ite_true, ite_false, eq_self_iff_true, decide_true, decide_false, Bool.not_true, Bool.not_false, reduceIte, List.nil_append, List.cons_append, reduceCtorEq, false_and, exists_false, false_or, or_false, Int.reduceLT, rmd, rsq, rlu, rdp, Bool.true_or, Bool.false_or, Bool.or_false, Bool.or_true]
  refine Br.d (fun c => absurd c (by omega)) fun c => ?_
  simp only [and_assoc, rst, rs, re, ra, rq, rx, ro, rl, rl2, rsp, rz, rix, rln, rg, rd, ri, rv, rk, rdd, rwi, at0, at1, at2, at3, upd_at, List.getElem?_cons_zero, List.getElem?_cons_succ, Option.some.injEq, exists_eq_left', exists_eq_left, List.set_cons_zero, List.set_cons_succ, true_and, and_true, HO.lst.injEq, HO.tup.injEq, exists_and_left, exists_eq, exists_eq', Br.t, Br.f, Be.t, Be.f, List.cons.injEq, List.append_nil, scal, if_true, if_false, ite_true, ite_false, eq_self_iff_true, decide_true, decide_false, Bool.not_true, Bool.not_false, reduceIte, List.nil_append, List.cons_append, reduceCtorEq, false_and, exists_false, false_or, or_false, Int.reduceLT, rmd, rsq, rlu, rdp, Bool.true_or, Bool.false_or, Bool.or_false, Bool.or_true, ha]
  refine ⟨_, _, rfl, by omega, _, _, rfl, ?_, ?_⟩
  · have := putF_len ("whole" : Str) (.int t) fs
    omega
  · rw [L2.upd_upd]
    exact q
theorem ok_Orders_numbers (T : Tx K mg w)   : CalM P w K mg base 1 "Orders" "numbers" ["self"] (sp_Orders_numbers K) := by
  refine calM_mk (q := "Shape.numbers") T.F_Orders_numbers T.cls_Orders T.M_Orders_numbers sc_Orders_numbers (len1 _) (fun _ _ _ _ _ _ us hl => match us, hl with | [_], _ => rfl) (fun cdv A outer s H vs Q E hr h => ?_)
  obtain ⟨v0, rfl, h⟩ := h
  have hu := hu_of hr.r
  refine ⟨_, (pss_one (ps_ret (pe_fldC T.cls_Orders T.na_Orders_whole (pv 0)))), ?_⟩
  obtain ⟨sh, hk, ho, q⟩ := h
  obtain ⟨a, dx, fs, rfl, ha, hw, ht, n1, n2, n3, n4, n5⟩ := ho.any
  rw [hk] at ha
  simp only [and_assoc, rst, rs, re, ra, rq, rx, ro, rl, rl2, rsp, rz, rix, rln, rg, rd, ri, rv, rk, rdd, rwi, at0, at1, at2, at3, upd_at, List.getElem?_cons_zero, List.getElem?_cons_succ, Option.some.injEq, exists_eq_left', exists_eq_left, List.set_cons_zero, List.set_cons_succ, true_and, and_true, HO.lst.injEq, HO.tup.injEq, exists_and_left, exists_eq, exists_eq', Br.t, Br.f, Be.t, Be.f, List.cons.injEq, List.append_nil, scal, if_true, if_false, ite_true, ite_false, eq_self_iff_true, decide_true, decide_false, Bool.not_true, Bool.not_false, reduceIte, List.nil_append, List.cons_append, reduceCtorEq, false_and, exists_false, false_or, or_false, Int.reduceLT, rmd, rsq, rlu, rdp, Bool.true_or, Bool.false_or, Bool.or_false, Bool.or_true]
  exact ⟨dx, fs, ha, _, hw, q⟩
theorem ok_Orders_height (T : Tx K mg w)   : CalM P w K mg base 1 "Orders" "height" ["self"] (sp_Orders_height K) := by
  refine calM_mk (q := "Shape.height") T.F_Orders_height T.cls_Orders T.M_Orders_height sc_Orders_height (len1 _) (fun _ _ _ _ _ _ us hl => match us, hl with | [_], _ => rfl) (fun cdv A outer s H vs Q E hr h => ?_)
  obtain ⟨v0, rfl, h⟩ := h
  have hu := hu_of hr.r
  refine ⟨_, (pss_one (ps_ret (pe_fldC T.cls_Orders T.na_Orders_tallness (pv 0)))), ?_⟩
  obtain ⟨sh, hk, ho, q⟩ := h
  obtain ⟨a, dx, fs, rfl, ha, hw, ht, n1, n2, n3, n4, n5⟩ := ho.any
  rw [hk] at ha
  simp only [and_assoc, rst, rs, re, ra, rq, rx, ro, rl, rl2, rsp, rz, rix, rln, rg, rd, ri, rv, rk, rdd, rwi, at0, at1, at2, at3, upd_at, List.getElem?_cons_zero, List.getElem?_cons_succ, Option.some.injEq, exists_eq_left', exists_eq_left, List.set_cons_zero, List.set_cons_succ, true_and, and_true, HO.lst.injEq, HO.tup.injEq, exists_and_left, exists_eq, exists_eq', Br.t, Br.f, Be.t, Be.f, List.cons.injEq, List.append_nil, scal, if_true, if_false, ite_true, ite_false, eq_self_iff_true, decide_true, decide_false, Bool.not_true, Bool.not_false, reduceIte, List.nil_append, List.cons_append, reduceCtorEq, false_and, exists_false, false_or, or_false, Int.reduceLT, rmd, rsq, rlu, rdp, Bool.true_or, Bool.false_or, Bool.or_false, Bool.or_true]
  exact ⟨dx, fs, ha, _, ht, q⟩
theorem ok_sinit_Orders (T : Tx K mg w)  (c_TooWide : Exn P w K mg base "TooWide" "total") : CalM P w K mg base 4 "Shape" "__init__" ["self", "whole", "tallness"] (sp_sinit_Orders K) := by
  refine calM_mk (q := "Shape.__init__") T.F_sinit_Orders T.cls_Shape T.M_sinit_Orders sc_sinit_Orders (len3 _) (fun _ _ _ _ _ _ us hl => match us, hl with | [_, _, _], _ => rfl) (fun cdv A outer s H vs Q E hr h => ?_)
  obtain ⟨v0, v1, v2, rfl, h⟩ := h
  have hu := hu_of hr.r
  refine ⟨_, (pss_cons (ps_if (pt_cmpR op_gt (pv 1) (pe_gint rfl T.k_MOST_NUMBERS) (nomark _)) (pss_one (ps_rs1 c_TooWide rfl (takes_of rfl rfl rfl rfl) hr.r (by decide) rfl (pa_cons (pv 1) pa_nil))) pss_nil)
      (pss_cons (ps_fldC T.cls_Orders T.na_Orders_whole (pv 0) (pv 1))
      (pss_one (ps_fldC T.cls_Orders T.na_Orders_tallness (pv 0) (pv 2))))), ?_⟩
  obtain ⟨a, dx, fs, t, l, rfl, ha, hl, rfl, rfl, ht, q⟩ := h
  simp only [and_assoc, rst, rs, re, ra, rq, rx, ro, rl, rl2, rsp, rz, rix, rln, rg, rd, ri, rv, rk, rdd, rwi, at0, at1, at2, at3, upd_at, List.getElem?_cons_zero, List.getElem?_cons_succ, Option.some.injEq, exists_eq_left', exists_eq_left, List.set_cons_zero, List.set_cons_succ, true_and, and_true, HO.lst.injEq, HO.tup.injEq, exists_and_left, exists_eq, exists_eq', Br.t, Br.f, Be.t, Be.f, List.cons.injEq, List.append_nil, scal, if_true, if_false, ite_true, ite_false, eq_self_iff_true, decide_true, decide_false, Bool.not_true, Bool.not_false, reduceIte, List.nil_append, List.cons_append, reduceCtorEq, false_and, exists_false, false_or, or_false, Int.reduceLT, rmd, rsq, rlu, rdp, Bool.true_or, Bool.false_or, Bool.or_false, Bool.or_true]
  refine Br.d (fun c => absurd c (by omega)) fun c => ?_
  simp only [and_assoc, rst, rs, re, ra, rq, rx, ro, rl, rl2, rsp, rz, rix, rln, rg, rd, ri, rv, rk, rdd, rwi, at0, at1, at2, at3, upd_at, List.getElem?_cons_zero, List.getElem?_cons_succ, Option.some.injEq, exists_eq_left', exists_eq_left, List.set_cons_zero, List.set_cons_succ, true_and, and_true, HO.lst.injEq, HO.tup.injEq, exists_and_left, exists_eq, exists_eq', Br.t, Br.f, Be.t, Be.f, List.cons.injEq, List.append_nil, scal, if_true, if_false, ite_true, ite_false, eq_self_iff_true, decide_true, decide_false, Bool.not_true, Bool.not_false, reduceIte, List.nil_append, List.cons_append, reduceCtorEq, false_and, exists_false, false_or, or_false, Int.reduceLT, rmd, rsq, rlu, rdp, Bool.true_or, Bool.false_or, Bool.or_false, Bool.or_true, ha]
  refine ⟨_, _, rfl, by omega, _, _, rfl, ?_, ?_⟩
  · have := putF_len ("whole" : Str) (.int t) fs
    omega
  · rw [L2.upd_upd]
    exact q
theorem ok_Sets_numbers (T : Tx K mg w)   : CalM P w K mg base 1 "Sets" "numbers" ["self"] (sp_Sets_numbers K) := by
  refine calM_mk (q := "Shape.numbers") T.F_Sets_numbers T.cls_Sets T.M_Sets_numbers sc_Sets_numbers (len1 _) (fun _ _ _ _ _ _ us hl => match us, hl with | [_], _ => rfl) (fun cdv A outer s H vs Q E hr h => ?_)
  obtain ⟨v0, rfl, h⟩ := h
  have hu := hu_of hr.r
  refine ⟨_, (pss_one (ps_ret (pe_fldC T.cls_Sets T.na_Sets_whole (pv 0)))), ?_⟩
  obtain ⟨sh, hk, ho, q⟩ := h
  obtain ⟨a, dx, fs, rfl, ha, hw, ht, n1, n2, n3, n4, n5⟩ := ho.any
  rw [hk] at ha
  simp only [and_assoc, rst, rs, re, ra, rq, rx, ro, rl, rl2, rsp, rz, rix, rln, rg, rd, ri, rv, rk, rdd, rwi, at0, at1, at2, at3, upd_at, List.getElem?_cons_zero, List.getElem?_cons_succ, Option.some.injEq, exists_eq_left', exists_eq_left, List.set_cons_zero, List.set_cons_succ, true_and, and_true, HO.lst.injEq, HO.tup.injEq, exists_and_left, exists_eq, exists_eq', Br.t, Br.f, Be.t, Be.f, List.cons.injEq, List.append_nil, scal, if_true, if_false, ite_true, ite_false, eq_self_iff_true, decide_true, decide_false, Bool.not_true, Bool.not_false, reduceIte, List.nil_append, List.cons_append, reduceCtorEq, false_and, exists_false, false_or, or_false, Int.reduceLT, rmd, rsq, rlu, rdp, Bool.true_or, Bool.false_or, Bool.or_false, Bool.or_true]
  exact ⟨dx, fs, ha, _, hw, q⟩
theorem ok_Sets_height (T : Tx K mg w)   : CalM P w K mg base 1 "Sets" "height" ["self"] (sp_Sets_height K) := by
  refine calM_mk (q := "Shape.height") T.F_Sets_height T.cls_Sets T.M_Sets_height sc_Sets_height (len1 _) (fun _ _ _ _ _ _ us hl => match us, hl with | [_], _ => rfl) (fun cdv A outer s H vs Q E hr h => ?_)
  obtain ⟨v0, rfl, h⟩ := h
  have hu := hu_of hr.r
  refine ⟨_, (pss_one (ps_ret (pe_fldC T.cls_Sets T.na_Sets_tallness (pv 0)))), ?_⟩
  obtain ⟨sh, hk, ho, q⟩ := h
  obtain ⟨a, dx, fs, rfl, ha, hw, ht, n1, n2, n3, n4, n5⟩ := ho.any
  rw [hk] at ha
  simp only [and_assoc, rst, rs, re, ra, rq, rx, ro, rl, rl2, rsp, rz, rix, rln, rg, rd, ri, rv, rk, rdd, rwi, at0, at1, at2, at3, upd_at, List.getElem?_cons_zero, List.getElem?_cons_succ, Option.some.injEq, exists_eq_left', exists_eq_left, List.set_cons_zero, List.set_cons_succ, true_and, and_true, HO.lst.injEq, HO.tup.injEq, exists_and_left, exists_eq, exists_eq', Br.t, Br.f, Be.t, Be.f, List.cons.injEq, List.append_nil, scal, if_true, if_false, ite_true, ite_false, eq_self_iff_true, decide_true, decide_false, Bool.not_true, Bool.not_false, reduceIte, List.nil_append, List.cons_append, reduceCtorEq, false_and, exists_false, false_or, or_false, Int.reduceLT, rmd, rsq, rlu, rdp, Bool.true_or, Bool.false_or, Bool.or_false, Bool.or_true]
  exact ⟨dx, fs, ha, _, ht, q⟩
theorem ok_sinit_Sets (T : Tx K mg w)  (c_TooWide : Exn P w K mg base "TooWide" "total") : CalM P w K mg base 4 "Shape" "__init__" ["self", "whole", "tallness"] (sp_sinit_Sets K) := by
  refine calM_mk (q := "Shape.__init__") T.F_sinit_Sets T.cls_Shape T.M_sinit_Sets sc_sinit_Sets (len3 _) (fun _ _ _ _ _ _ us hl => match us, hl with | [_, _, _], _ => rfl) (fun cdv A outer s H vs Q E hr h => ?_)
  obtain ⟨v0, v1, v2, rfl, h⟩ := h
  have hu := hu_of hr.r
  refine ⟨_, (pss_cons (ps_if (pt_cmpR op_gt (pv 1) (pe_gint rfl T.k_MOST_NUMBERS) (nomark _)) (pss_one (ps_rs1 c_TooWide rfl (takes_of rfl rfl rfl rfl) hr.r (by decide) rfl (pa_cons (pv 1) pa_nil))) pss_nil)
      (pss_cons (ps_fldC T.cls_Sets T.na_Sets_whole (pv 0) (pv 1))
      (pss_one (ps_fldC T.cls_Sets T.na_Sets_tallness (pv 0) (pv 2))))), ?_⟩
  obtain ⟨a, dx, fs, t, l, rfl, ha, hl, rfl, rfl, ht, q⟩ := h
  simp only [and_assoc, rst, rs, re, ra, rq, rx, ro, rl, rl2, rsp, rz, rix, rln, rg, rd, ri, rv, rk, rdd, rwi, at0, at1, at2, at3, upd_at, List.getElem?_cons_zero, List.getElem?_cons_succ, Option.some.injEq, exists_eq_left', exists_eq_left, List.set_cons_zero, List.set_cons_succ, true_and, and_true, HO.lst.injEq, HO.tup.injEq, exists_and_left, exists_eq, exists_eq', Br.t, Br.f, Be.t, Be.f, List.cons.injEq, List.append_nil, scal, if_true, if_false, ite_true, ite_false, eq_self_iff_true, decide_true, decide_false, Bool.not_true, Bool.not_false, reduceIte, List.nil_append, List.cons_append, reduceCtorEq, false_and, exists_false, false_or, or_false, Int.reduceLT, rmd, rsq, rlu, rdp, Bool.true_or, Bool.false_or, Bool.or_false, Bool.or_true]
  refine Br.d (fun c => absurd c (by omega)) fun c => ?_
  simp only [and_assoc, rst, rs, re, ra, rq, rx, ro, rl, rl2, rsp, rz, rix, rln, rg, rd, ri, rv, rk, rdd, rwi, at0, at1, at2, at3, upd_at, List.getElem?_cons_zero, List.getElem?_cons_succ, Option.some.injEq, exists_eq_left', exists_eq_left, List.set_cons_zero, List.set_cons_succ, true_and, and_true, HO.lst.injEq, HO.tup.injEq, exists_and_left, exists_eq, exists_eq', Br.t, Br.f, Be.t, Be.f, List.cons.injEq, List.append_nil, scal, if_true, if_false, ite_true, ite_false, eq_self_iff_true, decide_true, decide_false, Bool.not_true, Bool.not_false, reduceIte, List.nil_append, List.cons_append, reduceCtorEq, false_and, exists_false, false_or, or_false, Int.reduceLT, rmd, rsq, rlu, rdp, Bool.true_or, Bool.false_or, Bool.or_false, Bool.or_true, ha]
  refine ⟨_, _, rfl, by omega, _, _, rfl, ?_, ?_⟩
  · have := putF_len ("whole" : Str) (.int t) fs
    omega
  · rw [L2.upd_upd]
    exact q
theorem ok_Pair_numbers (T : Tx K mg w)   : CalM P w K mg base 1 "Pair" "numbers" ["self"] (sp_Pair_numbers K) := by
  refine calM_mk (q := "Shape.numbers") T.F_Pair_numbers T.cls_Pair T.M_Pair_numbers sc_Pair_numbers (len1 _) (fun _ _ _ _ _ _ us hl => match us, hl with | [_], _ => rfl) (fun cdv A outer s H vs Q E hr h => ?_)
  obtain ⟨v0, rfl, h⟩ := h
  have hu := hu_of hr.r
  refine ⟨_, (pss_one (ps_ret (pe_fldC T.cls_Pair T.na_Pair_whole (pv 0)))), ?_⟩
  obtain ⟨sh, hk, ho, q⟩ := h
  obtain ⟨a, dx, fs, rfl, ha, hw, ht, n1, n2, n3, n4, n5⟩ := ho.any
  rw [hk] at ha
  simp only [and_assoc, rst, rs, re, ra, rq, rx, ro, rl, rl2, rsp, rz, rix, rln, rg, rd, ri, rv, rk, rdd, rwi, at0, at1, at2, at3, upd_at, List.getElem?_cons_zero, List.getElem?_cons_succ, Option.some.injEq, exists_eq_left', exists_eq_left, List.set_cons_zero, List.set_cons_succ, true_and, and_true, HO.lst.injEq, HO.tup.injEq, exists_and_left, exists_eq, exists_eq', Br.t, Br.f, Be.t, Be.f, List.cons.injEq, List.append_nil, scal, if_true, if_false, ite_true, ite_false, eq_self_iff_true, decide_true, decide_false, Bool.not_true, Bool.not_false, reduceIte, List.nil_append, List.cons_append, reduceCtorEq, false_and, exists_false, false_or, or_false, Int.reduceLT, rmd, rsq, rlu, rdp, Bool.true_or, Bool.false_or, Bool.or_false, Bool.or_true]
  exact ⟨dx, fs, ha, _, hw, q⟩
theorem ok_Pair_height (T : Tx K mg w)   : CalM P w K mg base 1 "Pair" "height" ["self"] (sp_Pair_height K) := by
  refine calM_mk (q := "Shape.height") T.F_Pair_height T.cls_Pair T.M_Pair_height sc_Pair_height (len1 _) (fun _ _ _ _ _ _ us hl => match us, hl with | [_], _ => rfl) (fun cdv A outer s H vs Q E hr h => ?_)
  obtain ⟨v0, rfl, h⟩ := h
  have hu := hu_of hr.r
  refine ⟨_, (pss_one (ps_ret (pe_fldC T.cls_Pair T.na_Pair_tallness (pv 0)))), ?_⟩
  obtain ⟨sh, hk, ho, q⟩ := h
  obtain ⟨a, dx, fs, rfl, ha, hw, ht, n1, n2, n3, n4, n5⟩ := ho.any
  rw [hk] at ha
  simp only [and_assoc, rst, rs, re, ra, rq, rx, ro, rl, rl2, rsp, rz, rix, rln, rg, rd, ri, rv, rk, rdd, rwi, at0, at1, at2, at3, upd_at, List.getElem?_cons_zero, List.getElem?_cons_succ, Option.some.injEq, exists_eq_left', exists_eq_left, List.set_cons_zero, List.set_cons_succ, true_and, and_true, HO.lst.injEq, HO.tup.injEq, exists_and_left, exists_eq, exists_eq', Br.t, Br.f, Be.t, Be.f, List.cons.injEq, List.append_nil, scal, if_true, if_false, ite_true, ite_false, eq_self_iff_true, decide_true, decide_false, Bool.not_true, Bool.not_false, reduceIte, List.nil_append, List.cons_append, reduceCtorEq, false_and, exists_false, false_or, or_false, Int.reduceLT, rmd, rsq, rlu, rdp, Bool.true_or, Bool.false_or, Bool.or_false, Bool.or_true]
  exact ⟨dx, fs, ha, _, ht, q⟩
theorem ok_sinit_Pair (T : Tx K mg w)  (c_TooWide : Exn P w K mg base "TooWide" "total") : CalM P w K mg base 4 "Shape" "__init__" ["self", "whole", "tallness"] (sp_sinit_Pair K) := by
  refine calM_mk (q := "Shape.__init__") T.F_sinit_Pair T.cls_Shape T.M_sinit_Pair sc_sinit_Pair (len3 _) (fun _ _ _ _ _ _ us hl => match us, hl with | [_, _, _], _ => rfl) (fun cdv A outer s H vs Q E hr h => ?_)
  obtain ⟨v0, v1, v2, rfl, h⟩ := h
  have hu := hu_of hr.r
  refine ⟨_, (pss_cons (ps_if (pt_cmpR op_gt (pv 1) (pe_gint rfl T.k_MOST_NUMBERS) (nomark _)) (pss_one (ps_rs1 c_TooWide rfl (takes_of rfl rfl rfl rfl) hr.r (by decide) rfl (pa_cons (pv 1) pa_nil))) pss_nil)
      (pss_cons (ps_fldC T.cls_Pair T.na_Pair_whole (pv 0) (pv 1))
      (pss_one (ps_fldC T.cls_Pair T.na_Pair_tallness (pv 0) (pv 2))))), ?_⟩
  obtain ⟨a, dx, fs, t, l, rfl, ha, hl, rfl, rfl, ht, q⟩ := h
  simp only [and_assoc, rst, rs, re, ra, rq, rx, ro, rl, rl2, rsp, rz, rix, rln, rg, rd, ri, rv, rk, rdd, rwi, at0, at1, at2, at3, upd_at, List.getElem?_cons_zero, List.getElem?_cons_succ, Option.some.injEq, exists_eq_left', exists_eq_left, List.set_cons_zero, List.set_cons_succ, true_and, and_true, HO.lst.injEq, HO.tup.injEq, exists_and_left, exists_eq, exists_eq', Br.t, Br.f, Be.t, Be.f, List.cons.injEq, List.append_nil, scal, if_true, if_false, ite_true, ite_false, eq_self_iff_true, decide_true, decide_false, Bool.not_true, Bool.not_false, reduceIte, List.nil_append, List.cons_append, reduceCtorEq, false_and, exists_false, false_or, or_false, Int.reduceLT, rmd, rsq, rlu, rdp, Bool.true_or, Bool.false_or, Bool.or_false, Bool.or_true]
  refine Br.d (fun c => absurd c (by omega)) fun c => ?_
  simp only [and_assoc, rst, rs, re, ra, rq, rx, ro, rl, rl2, rsp, rz, rix, rln, rg, rd, ri, rv, rk, rdd, rwi, at0, at1, at2, at3, upd_at, List.getElem?_cons_zero, List.getElem?_cons_succ, Option.some.injEq, exists_eq_left', exists_eq_left, List.set_cons_zero, List.set_cons_succ, true_and, and_true, HO.lst.injEq, HO.tup.injEq, exists_and_left, exists_eq, exists_eq', Br.t, Br.f, Be.t, Be.f, List.cons.injEq, List.append_nil, scal, if_true, if_false, ite_true, ite_false, eq_self_iff_true, decide_true, decide_false, Bool.not_true, Bool.not_false, reduceIte, List.nil_append, List.cons_append, reduceCtorEq, false_and, exists_false, false_or, or_false, Int.reduceLT, rmd, rsq, rlu, rdp, Bool.true_or, Bool.false_or, Bool.or_false, Bool.or_true, ha]
  refine ⟨_, _, rfl, by omega, _, _, rfl, ?_, ?_⟩
  · have := putF_len ("whole" : Str) (.int t) fs
    omega
  · rw [L2.upd_upd]
    exact q
theorem ok_Rows_numbers (T : Tx K mg w)   : CalM P w K mg base 1 "Rows" "numbers" ["self"] (sp_Rows_numbers K) := by
  refine calM_mk (q := "Shape.numbers") T.F_Rows_numbers T.cls_Rows T.M_Rows_numbers sc_Rows_numbers (len1 _) (fun _ _ _ _ _ _ us hl => match us, hl with | [_], _ => rfl) (fun cdv A outer s H vs Q E hr h => ?_)
  obtain ⟨v0, rfl, h⟩ := h
  have hu := hu_of hr.r
  refine ⟨_, (pss_one (ps_ret (pe_fldC T.cls_Rows T.na_Rows_whole (pv 0)))), ?_⟩
  obtain ⟨sh, hk, ho, q⟩ := h
  obtain ⟨a, dx, fs, rfl, ha, hw, ht, n1, n2, n3, n4, n5⟩ := ho.any
  rw [hk] at ha
  simp only [and_assoc, rst, rs, re, ra, rq, rx, ro, rl, rl2, rsp, rz, rix, rln, rg, rd, ri, rv, rk, rdd, rwi, at0, at1, at2, at3, upd_at, List.getElem?_cons_zero, List.getElem?_cons_succ, Option.some.injEq, exists_eq_left', exists_eq_left, List.set_cons_zero, List.set_cons_succ, true_and, and_true, HO.lst.injEq, HO.tup.injEq, exists_and_left, exists_eq, exists_eq', Br.t, Br.f, Be.t, Be.f, List.cons.injEq, List.append_nil, scal, if_true, if_false, ite_true, ite_false, eq_self_iff_true, decide_true, decide_false, Bool.not_true, Bool.not_false, reduceIte, List.nil_append, List.cons_append, reduceCtorEq, false_and, exists_false, false_or, or_false, Int.reduceLT, rmd, rsq, rlu, rdp, Bool.true_or, Bool.false_or, Bool.or_false, Bool.or_true]
  exact ⟨dx, fs, ha, _, hw, q⟩
theorem ok_Rows_height (T : Tx K mg w)   : CalM P w K mg base 1 "Rows" "height" ["self"] (sp_Rows_height K) := by
  refine calM_mk (q := "Shape.height") T.F_Rows_height T.cls_Rows T.M_Rows_height sc_Rows_height (len1 _) (fun _ _ _ _ _ _ us hl => match us, hl with | [_], _ => rfl) (fun cdv A outer s H vs Q E hr h => ?_)
  obtain ⟨v0, rfl, h⟩ := h
  have hu := hu_of hr.r
  refine ⟨_, (pss_one (ps_ret (pe_fldC T.cls_Rows T.na_Rows_tallness (pv 0)))), ?_⟩
  obtain ⟨sh, hk, ho, q⟩ := h
  obtain ⟨a, dx, fs, rfl, ha, hw, ht, n1, n2, n3, n4, n5⟩ := ho.any
  rw [hk] at ha
  simp only [and_assoc, rst, rs, re, ra, rq, rx, ro, rl, rl2, rsp, rz, rix, rln, rg, rd, ri, rv, rk, rdd, rwi, at0, at1, at2, at3, upd_at, List.getElem?_cons_zero, List.getElem?_cons_succ, Option.some.injEq, exists_eq_left', exists_eq_left, List.set_cons_zero, List.set_cons_succ, true_and, and_true, HO.lst.injEq, HO.tup.injEq, exists_and_left, exists_eq, exists_eq', Br.t, Br.f, Be.t, Be.f, List.cons.injEq, List.append_nil, scal, if_true, if_false, ite_true, ite_false, eq_self_iff_true, decide_true, decide_false, Bool.not_true, Bool.not_false, reduceIte, List.nil_append, List.cons_append, reduceCtorEq, false_and, exists_false, false_or, or_false, Int.reduceLT, rmd, rsq, rlu, rdp, Bool.true_or, Bool.false_or, Bool.or_false, Bool.or_true]
  exact ⟨dx, fs, ha, _, ht, q⟩
theorem ok_sinit_Rows (T : Tx K mg w)  (c_TooWide : Exn P w K mg base "TooWide" "total") : CalM P w K mg base 4 "Shape" "__init__" ["self", "whole", "tallness"] (sp_sinit_Rows K) := by
  refine calM_mk (q := "Shape.__init__") T.F_sinit_Rows T.cls_Shape T.M_sinit_Rows sc_sinit_Rows (len3 _) (fun _ _ _ _ _ _ us hl => match us, hl with | [_, _, _], _ => rfl) (fun cdv A outer s H vs Q E hr h => ?_)
  obtain ⟨v0, v1, v2, rfl, h⟩ := h
  have hu := hu_of hr.r
  refine ⟨_, (pss_cons (ps_if (pt_cmpR op_gt (pv 1) (pe_gint rfl T.k_MOST_NUMBERS) (nomark _)) (pss_one (ps_rs1 c_TooWide rfl (takes_of rfl rfl rfl rfl) hr.r (by decide) rfl (pa_cons (pv 1) pa_nil))) pss_nil)
      (pss_cons (ps_fldC T.cls_Rows T.na_Rows_whole (pv 0) (pv 1))
      (pss_one (ps_fldC T.cls_Rows T.na_Rows_tallness (pv 0) (pv 2))))), ?_⟩
  obtain ⟨a, dx, fs, t, l, rfl, ha, hl, rfl, rfl, ht, q⟩ := h
  simp only [and_assoc, rst, rs, re, ra, rq, rx, ro, rl, rl2, rsp, rz, rix, rln, rg, rd, ri, rv, rk, rdd, rwi, at0, at1, at2, at3, upd_at, List.getElem?_cons_zero, List.getElem?_cons_succ, Option.some.injEq, exists_eq_left', exists_eq_left, List.set_cons_zero, List.set_cons_succ, true_and, and_true, HO.lst.injEq, HO.tup.injEq, exists_and_left, exists_eq, exists_eq', Br.t, Br.f, Be.t, Be.f, List.cons.injEq, List.append_nil, scal, if_true, if_false, ite_true, ite_false, eq_self_iff_true, decide_true, decide_false, Bool.not_true, Bool.not_false, reduceIte, List.nil_append, List.cons_append, reduceCtorEq, false_and, exists_false, false_or, or_false, Int.reduceLT, rmd, rsq, rlu, rdp, Bool.true_or, Bool.false_or, Bool.or_false, Bool.or_true]
  refine Br.d (fun c => absurd c (by omega)) fun c => ?_
  simp only [and_assoc, rst, rs, re, ra, rq, rx, ro, rl, rl2, rsp, rz, rix, rln, rg, rd, ri, rv, rk, rdd, rwi, at0, at1, at2, at3, upd_at, List.getElem?_cons_zero, List.getElem?_cons_succ, Option.some.injEq, exists_eq_left', exists_eq_left, List.set_cons_zero, List.set_cons_succ, true_and, and_true, HO.lst.injEq, HO.tup.injEq, exists_and_left, exists_eq, exists_eq', Br.t, Br.f, Be.t, Be.f, List.cons.injEq, List.append_nil, scal, if_true, if_false, ite_true, ite_false, eq_self_iff_true, decide_true, decide_false, Bool.not_true, Bool.not_false, reduceIte, List.nil_append, List.cons_append, reduceCtorEq, false_and, exists_false, false_or, or_false, Int.reduceLT, rmd, rsq, rlu, rdp, Bool.true_or, Bool.false_or, Bool.or_false, Bool.or_true, ha]
  refine ⟨_, _, rfl, by omega, _, _, rfl, ?_, ?_⟩
  · have := putF_len ("whole" : Str) (.int t) fs
    omega
  · rw [L2.upd_upd]
    exact q
end
end Law

-- RDX rmd, rsq, rlu, rdp, Bool.true_or, Bool.false_or, Bool.or_false, Bool.or_true
namespace Law
open PySem PySem.Spec PyProof.Rows L2 Sw
theorem shl1 {k : Nat} (h : k ≤ 1000) : CShl 1 (k : Int) := by
  refine ⟨by omega, ?_⟩
  rw [show Builtin.Int.intBits 1 = 1 by decide +kernel]
  omega
theorem simple_ht {sh : Sh} {C : Str} (hk : kindOf sh = C) (h1 : C ≠ "Pair") (h2 : C ≠ "Rows") : sh.ht = 0 := by
  cases sh with
  | pair a b => exact absurd hk.symm h1
  | rows a n => exact absurd hk.symm h2
  | _ => rfl
section
variable {P : Program} {w : World} {K : Fg} {mg : Str → Option Value} {base : Heap}
theorem ok_Below_outcome (T : Tx K mg w) (c_need_number : Cal P w K mg base 4 "need_number" ["thing", "low", "high"] (sp_need_number K)) (c_Below_outcome_at : CalM P w K mg base 4 "Below" "outcome_at" ["self", "number"] (sp_Below_outcome_at K))  : CalM P w K mg base 5 "Below" "outcome" ["self", "number"] (sp_Below_outcome K) := by
  refine calM_mk (q := "Shape.outcome") T.F_Below_outcome T.cls_Below T.M_Below_outcome sc_Below_outcome (len2 _) (fun _ _ _ _ _ _ us hl => match us, hl with | [_, _], _ => rfl) (fun cdv A outer s H vs Q E hr h => ?_)
  obtain ⟨v0, v1, rfl, h⟩ := h
  have hu := hu_of hr.r
  refine ⟨_, (pss_cons (ps_expr (pe_cal c_need_number hr (by decide) (passes_call (takes_of rfl rfl rfl rfl) fun _ _ _ _ h => h) rfl (pa_cons (pv 1) (pa_cons pe_int (pa_cons (pe_op op_sub (pe_fldC T.cls_Below T.na_Below_whole (pv 0)) pe_int) pa_nil)))))
      (pss_one (ps_ret (pe_mth c_Below_outcome_at hr (by decide) (passes_call (takes_of rfl rfl rfl rfl) fun _ _ _ _ h => h) (pv 0) (pa_cons (pv 1) pa_nil))))), ?_⟩
  obtain ⟨sh, z, hk, hh, hok, ho, rfl, z0, z1, q⟩ := h
  obtain ⟨a, dx, fs, rfl, ha, hw, ht, n1, n2, n3, n4, n5⟩ := id ho.any
  rw [hk] at ha
  simp only [and_assoc, rst, rs, re, ra, rq, rx, ro, rl, rl2, rsp, rz, rix, rln, rg, rd, ri, rv, rk, rdd, rwi, at0, at1, at2, at3, upd_at, List.getElem?_cons_zero, List.getElem?_cons_succ, Option.some.injEq, exists_eq_left', exists_eq_left, List.set_cons_zero, List.set_cons_succ, true_and, and_true, HO.lst.injEq, HO.tup.injEq, exists_and_left, exists_eq, exists_eq', Br.t, Br.f, Be.t, Be.f, List.cons.injEq, List.append_nil, scal, if_true, if_false, ite_true, ite_false, eq_self_iff_true, decide_true, decide_false, Bool.not_true, Bool.not_false, reduceIte, List.nil_append, List.cons_append, reduceCtorEq, false_and, exists_false, false_or, or_false, Int.reduceLT, rmd, rsq, rlu, rdp, Bool.true_or, Bool.false_or, Bool.or_false, Bool.or_true]
  refine ⟨dx, fs, ha, _, hw, _, rfl, ?_⟩
  refine ⟨_, _, _, rfl, _, _, rfl, rfl, ⟨_, rfl⟩, fun _ => ?_, fun c => absurd (decide_eq_true (show 0 ≤ z ∧ z ≤ sh.tot - 1 by omega)) (by rw [show decide (0 ≤ z ∧ z ≤ sh.tot - 1) = false from c]; decide)⟩
  simp only [and_assoc, rst, rs, re, ra, rq, rx, ro, rl, rl2, rsp, rz, rix, rln, rg, rd, ri, rv, rk, rdd, rwi, at0, at1, at2, at3, upd_at, List.getElem?_cons_zero, List.getElem?_cons_succ, Option.some.injEq, exists_eq_left', exists_eq_left, List.set_cons_zero, List.set_cons_succ, true_and, and_true, HO.lst.injEq, HO.tup.injEq, exists_and_left, exists_eq, exists_eq', Br.t, Br.f, Be.t, Be.f, List.cons.injEq, List.append_nil, scal, if_true, if_false, ite_true, ite_false, eq_self_iff_true, decide_true, decide_false, Bool.not_true, Bool.not_false, reduceIte, List.nil_append, List.cons_append, reduceCtorEq, false_and, exists_false, false_or, or_false, Int.reduceLT, rmd, rsq, rlu, rdp, Bool.true_or, Bool.false_or, Bool.or_false, Bool.or_true]
  refine ⟨dx, fs, ha, n4, ?_⟩
  exact ⟨_, _, rfl, sh, z, hk, hh, hok, ho, rfl, z0, z1, q⟩
theorem ok_Shares_outcome (T : Tx K mg w) (c_need_number : Cal P w K mg base 4 "need_number" ["thing", "low", "high"] (sp_need_number K)) (c_Shares_outcome_at : CalM P w K mg base 8 "Shares" "outcome_at" ["self", "number"] (sp_Shares_outcome_at K))  : CalM P w K mg base 9 "Shares" "outcome" ["self", "number"] (sp_Shares_outcome K) := by
  refine calM_mk (q := "Shape.outcome") T.F_Shares_outcome T.cls_Shares T.M_Shares_outcome sc_Shares_outcome (len2 _) (fun _ _ _ _ _ _ us hl => match us, hl with | [_, _], _ => rfl) (fun cdv A outer s H vs Q E hr h => ?_)
  obtain ⟨v0, v1, rfl, h⟩ := h
  have hu := hu_of hr.r
  refine ⟨_, (pss_cons (ps_expr (pe_cal c_need_number hr (by decide) (passes_call (takes_of rfl rfl rfl rfl) fun _ _ _ _ h => h) rfl (pa_cons (pv 1) (pa_cons pe_int (pa_cons (pe_op op_sub (pe_fldC T.cls_Shares T.na_Shares_whole (pv 0)) pe_int) pa_nil)))))
      (pss_one (ps_ret (pe_mth c_Shares_outcome_at hr (by decide) (passes_call (takes_of rfl rfl rfl rfl) fun _ _ _ _ h => h) (pv 0) (pa_cons (pv 1) pa_nil))))), ?_⟩
  obtain ⟨sh, z, hk, hh, hok, ho, rfl, z0, z1, q⟩ := h
  obtain ⟨a, dx, fs, rfl, ha, hw, ht, n1, n2, n3, n4, n5⟩ := id ho.any
  rw [hk] at ha
  simp only [and_assoc, rst, rs, re, ra, rq, rx, ro, rl, rl2, rsp, rz, rix, rln, rg, rd, ri, rv, rk, rdd, rwi, at0, at1, at2, at3, upd_at, List.getElem?_cons_zero, List.getElem?_cons_succ, Option.some.injEq, exists_eq_left', exists_eq_left, List.set_cons_zero, List.set_cons_succ, true_and, and_true, HO.lst.injEq, HO.tup.injEq, exists_and_left, exists_eq, exists_eq', Br.t, Br.f, Be.t, Be.f, List.cons.injEq, List.append_nil, scal, if_true, if_false, ite_true, ite_false, eq_self_iff_true, decide_true, decide_false, Bool.not_true, Bool.not_false, reduceIte, List.nil_append, List.cons_append, reduceCtorEq, false_and, exists_false, false_or, or_false, Int.reduceLT, rmd, rsq, rlu, rdp, Bool.true_or, Bool.false_or, Bool.or_false, Bool.or_true]
  refine ⟨dx, fs, ha, _, hw, _, rfl, ?_⟩
  refine ⟨_, _, _, rfl, _, _, rfl, rfl, ⟨_, rfl⟩, fun _ => ?_, fun c => absurd (decide_eq_true (show 0 ≤ z ∧ z ≤ sh.tot - 1 by omega)) (by rw [show decide (0 ≤ z ∧ z ≤ sh.tot - 1) = false from c]; decide)⟩
  simp only [and_assoc, rst, rs, re, ra, rq, rx, ro, rl, rl2, rsp, rz, rix, rln, rg, rd, ri, rv, rk, rdd, rwi, at0, at1, at2, at3, upd_at, List.getElem?_cons_zero, List.getElem?_cons_succ, Option.some.injEq, exists_eq_left', exists_eq_left, List.set_cons_zero, List.set_cons_succ, true_and, and_true, HO.lst.injEq, HO.tup.injEq, exists_and_left, exists_eq, exists_eq', Br.t, Br.f, Be.t, Be.f, List.cons.injEq, List.append_nil, scal, if_true, if_false, ite_true, ite_false, eq_self_iff_true, decide_true, decide_false, Bool.not_true, Bool.not_false, reduceIte, List.nil_append, List.cons_append, reduceCtorEq, false_and, exists_false, false_or, or_false, Int.reduceLT, rmd, rsq, rlu, rdp, Bool.true_or, Bool.false_or, Bool.or_false, Bool.or_true]
  refine ⟨dx, fs, ha, n4, ?_⟩
  exact ⟨_, _, rfl, sh, z, hk, hh, hok, ho, rfl, z0, z1, q⟩
theorem ok_Orders_outcome (T : Tx K mg w) (c_need_number : Cal P w K mg base 4 "need_number" ["thing", "low", "high"] (sp_need_number K)) (c_Orders_outcome_at : CalM P w K mg base 6 "Orders" "outcome_at" ["self", "number"] (sp_Orders_outcome_at K))  : CalM P w K mg base 7 "Orders" "outcome" ["self", "number"] (sp_Orders_outcome K) := by
  refine calM_mk (q := "Shape.outcome") T.F_Orders_outcome T.cls_Orders T.M_Orders_outcome sc_Orders_outcome (len2 _) (fun _ _ _ _ _ _ us hl => match us, hl with | [_, _], _ => rfl) (fun cdv A outer s H vs Q E hr h => ?_)
  obtain ⟨v0, v1, rfl, h⟩ := h
  have hu := hu_of hr.r
  refine ⟨_, (pss_cons (ps_expr (pe_cal c_need_number hr (by decide) (passes_call (takes_of rfl rfl rfl rfl) fun _ _ _ _ h => h) rfl (pa_cons (pv 1) (pa_cons pe_int (pa_cons (pe_op op_sub (pe_fldC T.cls_Orders T.na_Orders_whole (pv 0)) pe_int) pa_nil)))))
      (pss_one (ps_ret (pe_mth c_Orders_outcome_at hr (by decide) (passes_call (takes_of rfl rfl rfl rfl) fun _ _ _ _ h => h) (pv 0) (pa_cons (pv 1) pa_nil))))), ?_⟩
  obtain ⟨sh, z, hk, hh, hok, ho, rfl, z0, z1, q⟩ := h
  obtain ⟨a, dx, fs, rfl, ha, hw, ht, n1, n2, n3, n4, n5⟩ := id ho.any
  rw [hk] at ha
  simp only [and_assoc, rst, rs, re, ra, rq, rx, ro, rl, rl2, rsp, rz, rix, rln, rg, rd, ri, rv, rk, rdd, rwi, at0, at1, at2, at3, upd_at, List.getElem?_cons_zero, List.getElem?_cons_succ, Option.some.injEq, exists_eq_left', exists_eq_left, List.set_cons_zero, List.set_cons_succ, true_and, and_true, HO.lst.injEq, HO.tup.injEq, exists_and_left, exists_eq, exists_eq', Br.t, Br.f, Be.t, Be.f, List.cons.injEq, List.append_nil, scal, if_true, if_false, ite_true, ite_false, eq_self_iff_true, decide_true, decide_false, Bool.not_true, Bool.not_false, reduceIte, List.nil_append, List.cons_append, reduceCtorEq, false_and, exists_false, false_or, or_false, Int.reduceLT, rmd, rsq, rlu, rdp, Bool.true_or, Bool.false_or, Bool.or_false, Bool.or_true]
  refine ⟨dx, fs, ha, _, hw, _, rfl, ?_⟩
  refine ⟨_, _, _, rfl, _, _, rfl, rfl, ⟨_, rfl⟩, fun _ => ?_, fun c => absurd (decide_eq_true (show 0 ≤ z ∧ z ≤ sh.tot - 1 by omega)) (by rw [show decide (0 ≤ z ∧ z ≤ sh.tot - 1) = false from c]; decide)⟩
  simp only [and_assoc, rst, rs, re, ra, rq, rx, ro, rl, rl2, rsp, rz, rix, rln, rg, rd, ri, rv, rk, rdd, rwi, at0, at1, at2, at3, upd_at, List.getElem?_cons_zero, List.getElem?_cons_succ, Option.some.injEq, exists_eq_left', exists_eq_left, List.set_cons_zero, List.set_cons_succ, true_and, and_true, HO.lst.injEq, HO.tup.injEq, exists_and_left, exists_eq, exists_eq', Br.t, Br.f, Be.t, Be.f, List.cons.injEq, List.append_nil, scal, if_true, if_false, ite_true, ite_false, eq_self_iff_true, decide_true, decide_false, Bool.not_true, Bool.not_false, reduceIte, List.nil_append, List.cons_append, reduceCtorEq, false_and, exists_false, false_or, or_false, Int.reduceLT, rmd, rsq, rlu, rdp, Bool.true_or, Bool.false_or, Bool.or_false, Bool.or_true]
  refine ⟨dx, fs, ha, n4, ?_⟩
  exact ⟨_, _, rfl, sh, z, hk, hh, hok, ho, rfl, z0, z1, q⟩
theorem ok_Sets_outcome (T : Tx K mg w) (c_need_number : Cal P w K mg base 4 "need_number" ["thing", "low", "high"] (sp_need_number K)) (c_Sets_outcome_at : CalM P w K mg base 7 "Sets" "outcome_at" ["self", "number"] (sp_Sets_outcome_at K))  : CalM P w K mg base 8 "Sets" "outcome" ["self", "number"] (sp_Sets_outcome K) := by
  refine calM_mk (q := "Shape.outcome") T.F_Sets_outcome T.cls_Sets T.M_Sets_outcome sc_Sets_outcome (len2 _) (fun _ _ _ _ _ _ us hl => match us, hl with | [_, _], _ => rfl) (fun cdv A outer s H vs Q E hr h => ?_)
  obtain ⟨v0, v1, rfl, h⟩ := h
  have hu := hu_of hr.r
  refine ⟨_, (pss_cons (ps_expr (pe_cal c_need_number hr (by decide) (passes_call (takes_of rfl rfl rfl rfl) fun _ _ _ _ h => h) rfl (pa_cons (pv 1) (pa_cons pe_int (pa_cons (pe_op op_sub (pe_fldC T.cls_Sets T.na_Sets_whole (pv 0)) pe_int) pa_nil)))))
      (pss_one (ps_ret (pe_mth c_Sets_outcome_at hr (by decide) (passes_call (takes_of rfl rfl rfl rfl) fun _ _ _ _ h => h) (pv 0) (pa_cons (pv 1) pa_nil))))), ?_⟩
  obtain ⟨sh, z, hk, hh, hok, ho, rfl, z0, z1, q⟩ := h
  obtain ⟨a, dx, fs, rfl, ha, hw, ht, n1, n2, n3, n4, n5⟩ := id ho.any
  rw [hk] at ha
  simp only [and_assoc, rst, rs, re, ra, rq, rx, ro, rl, rl2, rsp, rz, rix, rln, rg, rd, ri, rv, rk, rdd, rwi, at0, at1, at2, at3, upd_at, List.getElem?_cons_zero, List.getElem?_cons_succ, Option.some.injEq, exists_eq_left', exists_eq_left, List.set_cons_zero, List.set_cons_succ, true_and, and_true, HO.lst.injEq, HO.tup.injEq, exists_and_left, exists_eq, exists_eq', Br.t, Br.f, Be.t, Be.f, List.cons.injEq, List.append_nil, scal, if_true, if_false, ite_true, ite_false, eq_self_iff_true, decide_true, decide_false, Bool.not_true, Bool.not_false, reduceIte, List.nil_append, List.cons_append, reduceCtorEq, false_and, exists_false, false_or, or_false, Int.reduceLT, rmd, rsq, rlu, rdp, Bool.true_or, Bool.false_or, Bool.or_false, Bool.or_true]
  refine ⟨dx, fs, ha, _, hw, _, rfl, ?_⟩
  refine ⟨_, _, _, rfl, _, _, rfl, rfl, ⟨_, rfl⟩, fun _ => ?_, fun c => absurd (decide_eq_true (show 0 ≤ z ∧ z ≤ sh.tot - 1 by omega)) (by rw [show decide (0 ≤ z ∧ z ≤ sh.tot - 1) = false from c]; decide)⟩
  simp only [and_assoc, rst, rs, re, ra, rq, rx, ro, rl, rl2, rsp, rz, rix, rln, rg, rd, ri, rv, rk, rdd, rwi, at0, at1, at2, at3, upd_at, List.getElem?_cons_zero, List.getElem?_cons_succ, Option.some.injEq, exists_eq_left', exists_eq_left, List.set_cons_zero, List.set_cons_succ, true_and, and_true, HO.lst.injEq, HO.tup.injEq, exists_and_left, exists_eq, exists_eq', Br.t, Br.f, Be.t, Be.f, List.cons.injEq, List.append_nil, scal, if_true, if_false, ite_true, ite_false, eq_self_iff_true, decide_true, decide_false, Bool.not_true, Bool.not_false, reduceIte, List.nil_append, List.cons_append, reduceCtorEq, false_and, exists_false, false_or, or_false, Int.reduceLT, rmd, rsq, rlu, rdp, Bool.true_or, Bool.false_or, Bool.or_false, Bool.or_true]
  refine ⟨dx, fs, ha, n4, ?_⟩
  exact ⟨_, _, rfl, sh, z, hk, hh, hok, ho, rfl, z0, z1, q⟩
theorem ok_Pair_outcome_1 (T : Tx K mg w) (c_need_number : Cal P w K mg base 4 "need_number" ["thing", "low", "high"] (sp_need_number K)) (c_Pair_outcome_at_1 : CalM P w K mg base 10 "Pair" "outcome_at" ["self", "number"] (sp_Pair_outcome_at_1 K))  : CalM P w K mg base 11 "Pair" "outcome" ["self", "number"] (sp_Pair_outcome_1 K) := by
  refine calM_mk (q := "Shape.outcome") T.F_Pair_outcome_1 T.cls_Pair T.M_Pair_outcome_1 sc_Pair_outcome_1 (len2 _) (fun _ _ _ _ _ _ us hl => match us, hl with | [_, _], _ => rfl) (fun cdv A outer s H vs Q E hr h => ?_)
  obtain ⟨v0, v1, rfl, h⟩ := h
  have hu := hu_of hr.r
  refine ⟨_, (pss_cons (ps_expr (pe_cal c_need_number hr (by decide) (passes_call (takes_of rfl rfl rfl rfl) fun _ _ _ _ h => h) rfl (pa_cons (pv 1) (pa_cons pe_int (pa_cons (pe_op op_sub (pe_fldC T.cls_Pair T.na_Pair_whole (pv 0)) pe_int) pa_nil)))))
      (pss_one (ps_ret (pe_mth c_Pair_outcome_at_1 hr (by decide) (passes_call (takes_of rfl rfl rfl rfl) fun _ _ _ _ h => h) (pv 0) (pa_cons (pv 1) pa_nil))))), ?_⟩
  obtain ⟨sh, z, hk, hh, hok, ho, rfl, z0, z1, q⟩ := h
  obtain ⟨a, dx, fs, rfl, ha, hw, ht, n1, n2, n3, n4, n5⟩ := id ho.any
  rw [hk] at ha
  simp only [and_assoc, rst, rs, re, ra, rq, rx, ro, rl, rl2, rsp, rz, rix, rln, rg, rd, ri, rv, rk, rdd, rwi, at0, at1, at2, at3, upd_at, List.getElem?_cons_zero, List.getElem?_cons_succ, Option.some.injEq, exists_eq_left', exists_eq_left, List.set_cons_zero, List.set_cons_succ, true_and, and_true, HO.lst.injEq, HO.tup.injEq, exists_and_left, exists_eq, exists_eq', Br.t, Br.f, Be.t, Be.f, List.cons.injEq, List.append_nil, scal, if_true, if_false, ite_true, ite_false, eq_self_iff_true, decide_true, decide_false, Bool.not_true, Bool.not_false, reduceIte, List.nil_append, List.cons_append, reduceCtorEq, false_and, exists_false, false_or, or_false, Int.reduceLT, rmd, rsq, rlu, rdp, Bool.true_or, Bool.false_or, Bool.or_false, Bool.or_true]
  refine ⟨dx, fs, ha, _, hw, _, rfl, ?_⟩
  refine ⟨_, _, _, rfl, _, _, rfl, rfl, ⟨_, rfl⟩, fun _ => ?_, fun c => absurd (decide_eq_true (show 0 ≤ z ∧ z ≤ sh.tot - 1 by omega)) (by rw [show decide (0 ≤ z ∧ z ≤ sh.tot - 1) = false from c]; decide)⟩
  simp only [and_assoc, rst, rs, re, ra, rq, rx, ro, rl, rl2, rsp, rz, rix, rln, rg, rd, ri, rv, rk, rdd, rwi, at0, at1, at2, at3, upd_at, List.getElem?_cons_zero, List.getElem?_cons_succ, Option.some.injEq, exists_eq_left', exists_eq_left, List.set_cons_zero, List.set_cons_succ, true_and, and_true, HO.lst.injEq, HO.tup.injEq, exists_and_left, exists_eq, exists_eq', Br.t, Br.f, Be.t, Be.f, List.cons.injEq, List.append_nil, scal, if_true, if_false, ite_true, ite_false, eq_self_iff_true, decide_true, decide_false, Bool.not_true, Bool.not_false, reduceIte, List.nil_append, List.cons_append, reduceCtorEq, false_and, exists_false, false_or, or_false, Int.reduceLT, rmd, rsq, rlu, rdp, Bool.true_or, Bool.false_or, Bool.or_false, Bool.or_true]
  refine ⟨dx, fs, ha, n4, ?_⟩
  exact ⟨_, _, rfl, sh, z, hk, hh, hok, ho, rfl, z0, z1, q⟩
theorem ok_Pair_outcome_2 (T : Tx K mg w) (c_need_number : Cal P w K mg base 4 "need_number" ["thing", "low", "high"] (sp_need_number K)) (c_Pair_outcome_at_2 : CalM P w K mg base 12 "Pair" "outcome_at" ["self", "number"] (sp_Pair_outcome_at_2 K))  : CalM P w K mg base 13 "Pair" "outcome" ["self", "number"] (sp_Pair_outcome_2 K) := by
  refine calM_mk (q := "Shape.outcome") T.F_Pair_outcome_2 T.cls_Pair T.M_Pair_outcome_2 sc_Pair_outcome_2 (len2 _) (fun _ _ _ _ _ _ us hl => match us, hl with | [_, _], _ => rfl) (fun cdv A outer s H vs Q E hr h => ?_)
  obtain ⟨v0, v1, rfl, h⟩ := h
  have hu := hu_of hr.r
  refine ⟨_, (pss_cons (ps_expr (pe_cal c_need_number hr (by decide) passL rfl (pa_cons (pv 1) (pa_cons pe_int (pa_cons (pe_op op_sub (pe_fldC T.cls_Pair T.na_Pair_whole (pv 0)) pe_int) pa_nil)))))
      (pss_one (ps_ret (pe_mth c_Pair_outcome_at_2 hr (by decide) passL (pv 0) (pa_cons (pv 1) pa_nil))))), ?_⟩
  obtain ⟨sh, z, hk, hh, hok, ho, rfl, z0, z1, q⟩ := h
  obtain ⟨a, dx, fs, rfl, ha, hw, ht, n1, n2, n3, n4, n5⟩ := id ho.any
  rw [hk] at ha
  simp only [and_assoc, rst, rs, re, ra, rq, rx, ro, rl, rl2, rsp, rz, rix, rln, rg, rd, ri, rv, rk, rdd, rwi, at0, at1, at2, at3, upd_at, List.getElem?_cons_zero, List.getElem?_cons_succ, Option.some.injEq, exists_eq_left', exists_eq_left, List.set_cons_zero, List.set_cons_succ, true_and, and_true, HO.lst.injEq, HO.tup.injEq, exists_and_left, exists_eq, exists_eq', Br.t, Br.f, Be.t, Be.f, List.cons.injEq, List.append_nil, scal, if_true, if_false, ite_true, ite_false, eq_self_iff_true, decide_true, decide_false, Bool.not_true, Bool.not_false, reduceIte, List.nil_append, List.cons_append, reduceCtorEq, false_and, exists_false, false_or, or_false, Int.reduceLT, rmd, rsq, rlu, rdp, Bool.true_or, Bool.false_or, Bool.or_false, Bool.or_true]
  refine ⟨dx, fs, ha, _, hw, _, rfl, ?_⟩
  refine ⟨_, _, _, rfl, _, _, rfl, rfl, ⟨_, rfl⟩, fun _ => ?_, fun c => absurd (decide_eq_true (show 0 ≤ z ∧ z ≤ sh.tot - 1 by omega)) (by rw [show decide (0 ≤ z ∧ z ≤ sh.tot - 1) = false from c]; decide)⟩
  simp only [and_assoc, rst, rs, re, ra, rq, rx, ro, rl, rl2, rsp, rz, rix, rln, rg, rd, ri, rv, rk, rdd, rwi, at0, at1, at2, at3, upd_at, List.getElem?_cons_zero, List.getElem?_cons_succ, Option.some.injEq, exists_eq_left', exists_eq_left, List.set_cons_zero, List.set_cons_succ, true_and, and_true, HO.lst.injEq, HO.tup.injEq, exists_and_left, exists_eq, exists_eq', Br.t, Br.f, Be.t, Be.f, List.cons.injEq, List.append_nil, scal, if_true, if_false, ite_true, ite_false, eq_self_iff_true, decide_true, decide_false, Bool.not_true, Bool.not_false, reduceIte, List.nil_append, List.cons_append, reduceCtorEq, false_and, exists_false, false_or, or_false, Int.reduceLT, rmd, rsq, rlu, rdp, Bool.true_or, Bool.false_or, Bool.or_false, Bool.or_true]
  refine ⟨dx, fs, ha, n4, ?_⟩
  exact ⟨_, _, rfl, sh, z, hk, hh, hok, ho, rfl, z0, z1, q⟩
theorem ok_Pair_outcome_3 (T : Tx K mg w) (c_need_number : Cal P w K mg base 4 "need_number" ["thing", "low", "high"] (sp_need_number K)) (c_Pair_outcome_at_3 : CalM P w K mg base 14 "Pair" "outcome_at" ["self", "number"] (sp_Pair_outcome_at_3 K))  : CalM P w K mg base 15 "Pair" "outcome" ["self", "number"] (sp_Pair_outcome_3 K) := by
  refine calM_mk (q := "Shape.outcome") T.F_Pair_outcome_3 T.cls_Pair T.M_Pair_outcome_3 sc_Pair_outcome_3 (len2 _) (fun _ _ _ _ _ _ us hl => match us, hl with | [_, _], _ => rfl) (fun cdv A outer s H vs Q E hr h => ?_)
  obtain ⟨v0, v1, rfl, h⟩ := h
  have hu := hu_of hr.r
  refine ⟨_, (pss_cons (ps_expr (pe_cal c_need_number hr (by decide) passL rfl (pa_cons (pv 1) (pa_cons pe_int (pa_cons (pe_op op_sub (pe_fldC T.cls_Pair T.na_Pair_whole (pv 0)) pe_int) pa_nil)))))
      (pss_one (ps_ret (pe_mth c_Pair_outcome_at_3 hr (by decide) passL (pv 0) (pa_cons (pv 1) pa_nil))))), ?_⟩
  obtain ⟨sh, z, hk, hh, hok, ho, rfl, z0, z1, q⟩ := h
  obtain ⟨a, dx, fs, rfl, ha, hw, ht, n1, n2, n3, n4, n5⟩ := id ho.any
  rw [hk] at ha
  simp only [and_assoc, rst, rs, re, ra, rq, rx, ro, rl, rl2, rsp, rz, rix, rln, rg, rd, ri, rv, rk, rdd, rwi, at0, at1, at2, at3, upd_at, List.getElem?_cons_zero, List.getElem?_cons_succ, Option.some.injEq, exists_eq_left', exists_eq_left, List.set_cons_zero, List.set_cons_succ, true_and, and_true, HO.lst.injEq, HO.tup.injEq, exists_and_left, exists_eq, exists_eq', Br.t, Br.f, Be.t, Be.f, List.cons.injEq, List.append_nil, scal, if_true, if_false, ite_true, ite_false, eq_self_iff_true, decide_true, decide_false, Bool.not_true, Bool.not_false, reduceIte, List.nil_append, List.cons_append, reduceCtorEq, false_and, exists_false, false_or, or_false, Int.reduceLT, rmd, rsq, rlu, rdp, Bool.true_or, Bool.false_or, Bool.or_false, Bool.or_true]
  refine ⟨dx, fs, ha, _, hw, _, rfl, ?_⟩
  refine ⟨_, _, _, rfl, _, _, rfl, rfl, ⟨_, rfl⟩, fun _ => ?_, fun c => absurd (decide_eq_true (show 0 ≤ z ∧ z ≤ sh.tot - 1 by omega)) (by rw [show decide (0 ≤ z ∧ z ≤ sh.tot - 1) = false from c]; decide)⟩
  simp only [and_assoc, rst, rs, re, ra, rq, rx, ro, rl, rl2, rsp, rz, rix, rln, rg, rd, ri, rv, rk, rdd, rwi, at0, at1, at2, at3, upd_at, List.getElem?_cons_zero, List.getElem?_cons_succ, Option.some.injEq, exists_eq_left', exists_eq_left, List.set_cons_zero, List.set_cons_succ, true_and, and_true, HO.lst.injEq, HO.tup.injEq, exists_and_left, exists_eq, exists_eq', Br.t, Br.f, Be.t, Be.f, List.cons.injEq, List.append_nil, scal, if_true, if_false, ite_true, ite_false, eq_self_iff_true, decide_true, decide_false, Bool.not_true, Bool.not_false, reduceIte, List.nil_append, List.cons_append, reduceCtorEq, false_and, exists_false, false_or, or_false, Int.reduceLT, rmd, rsq, rlu, rdp, Bool.true_or, Bool.false_or, Bool.or_false, Bool.or_true]
  refine ⟨dx, fs, ha, n4, ?_⟩
  exact ⟨_, _, rfl, sh, z, hk, hh, hok, ho, rfl, z0, z1, q⟩
theorem ok_Rows_outcome_1 (T : Tx K mg w) (c_need_number : Cal P w K mg base 4 "need_number" ["thing", "low", "high"] (sp_need_number K)) (c_Rows_outcome_at_1 : CalM P w K mg base 10 "Rows" "outcome_at" ["self", "number"] (sp_Rows_outcome_at_1 K))  : CalM P w K mg base 11 "Rows" "outcome" ["self", "number"] (sp_Rows_outcome_1 K) := by
  refine calM_mk (q := "Shape.outcome") T.F_Rows_outcome_1 T.cls_Rows T.M_Rows_outcome_1 sc_Rows_outcome_1 (len2 _) (fun _ _ _ _ _ _ us hl => match us, hl with | [_, _], _ => rfl) (fun cdv A outer s H vs Q E hr h => ?_)
  obtain ⟨v0, v1, rfl, h⟩ := h
  have hu := hu_of hr.r
  refine ⟨_, (pss_cons (ps_expr (pe_cal c_need_number hr (by decide) (passes_call (takes_of rfl rfl rfl rfl) fun _ _ _ _ h => h) rfl (pa_cons (pv 1) (pa_cons pe_int (pa_cons (pe_op op_sub (pe_fldC T.cls_Rows T.na_Rows_whole (pv 0)) pe_int) pa_nil)))))
      (pss_one (ps_ret (pe_mth c_Rows_outcome_at_1 hr (by decide) (passes_call (takes_of rfl rfl rfl rfl) fun _ _ _ _ h => h) (pv 0) (pa_cons (pv 1) pa_nil))))), ?_⟩
  obtain ⟨sh, z, hk, hh, hok, ho, rfl, z0, z1, q⟩ := h
  obtain ⟨a, dx, fs, rfl, ha, hw, ht, n1, n2, n3, n4, n5⟩ := id ho.any
  rw [hk] at ha
  simp only [and_assoc, rst, rs, re, ra, rq, rx, ro, rl, rl2, rsp, rz, rix, rln, rg, rd, ri, rv, rk, rdd, rwi, at0, at1, at2, at3, upd_at, List.getElem?_cons_zero, List.getElem?_cons_succ, Option.some.injEq, exists_eq_left', exists_eq_left, List.set_cons_zero, List.set_cons_succ, true_and, and_true, HO.lst.injEq, HO.tup.injEq, exists_and_left, exists_eq, exists_eq', Br.t, Br.f, Be.t, Be.f, List.cons.injEq, List.append_nil, scal, if_true, if_false, ite_true, ite_false, eq_self_iff_true, decide_true, decide_false, Bool.not_true, Bool.not_false, reduceIte, List.nil_append, List.cons_append, reduceCtorEq, false_and, exists_false, false_or, or_false, Int.reduceLT, rmd, rsq, rlu, rdp, Bool.true_or, Bool.false_or, Bool.or_false, Bool.or_true]
  refine ⟨dx, fs, ha, _, hw, _, rfl, ?_⟩
  refine ⟨_, _, _, rfl, _, _, rfl, rfl, ⟨_, rfl⟩, fun _ => ?_, fun c => absurd (decide_eq_true (show 0 ≤ z ∧ z ≤ sh.tot - 1 by omega)) (by rw [show decide (0 ≤ z ∧ z ≤ sh.tot - 1) = false from c]; decide)⟩
  simp only [and_assoc, rst, rs, re, ra, rq, rx, ro, rl, rl2, rsp, rz, rix, rln, rg, rd, ri, rv, rk, rdd, rwi, at0, at1, at2, at3, upd_at, List.getElem?_cons_zero, List.getElem?_cons_succ, Option.some.injEq, exists_eq_left', exists_eq_left, List.set_cons_zero, List.set_cons_succ, true_and, and_true, HO.lst.injEq, HO.tup.injEq, exists_and_left, exists_eq, exists_eq', Br.t, Br.f, Be.t, Be.f, List.cons.injEq, List.append_nil, scal, if_true, if_false, ite_true, ite_false, eq_self_iff_true, decide_true, decide_false, Bool.not_true, Bool.not_false, reduceIte, List.nil_append, List.cons_append, reduceCtorEq, false_and, exists_false, false_or, or_false, Int.reduceLT, rmd, rsq, rlu, rdp, Bool.true_or, Bool.false_or, Bool.or_false, Bool.or_true]
  refine ⟨dx, fs, ha, n4, ?_⟩
  exact ⟨_, _, rfl, sh, z, hk, hh, hok, ho, rfl, z0, z1, q⟩
theorem ok_Rows_outcome_2 (T : Tx K mg w) (c_need_number : Cal P w K mg base 4 "need_number" ["thing", "low", "high"] (sp_need_number K)) (c_Rows_outcome_at_2 : CalM P w K mg base 12 "Rows" "outcome_at" ["self", "number"] (sp_Rows_outcome_at_2 K))  : CalM P w K mg base 13 "Rows" "outcome" ["self", "number"] (sp_Rows_outcome_2 K) := by
  refine calM_mk (q := "Shape.outcome") T.F_Rows_outcome_2 T.cls_Rows T.M_Rows_outcome_2 sc_Rows_outcome_2 (len2 _) (fun _ _ _ _ _ _ us hl => match us, hl with | [_, _], _ => rfl) (fun cdv A outer s H vs Q E hr h => ?_)
  obtain ⟨v0, v1, rfl, h⟩ := h
  have hu := hu_of hr.r
  refine ⟨_, (pss_cons (ps_expr (pe_cal c_need_number hr (by decide) passL rfl (pa_cons (pv 1) (pa_cons pe_int (pa_cons (pe_op op_sub (pe_fldC T.cls_Rows T.na_Rows_whole (pv 0)) pe_int) pa_nil)))))
      (pss_one (ps_ret (pe_mth c_Rows_outcome_at_2 hr (by decide) passL (pv 0) (pa_cons (pv 1) pa_nil))))), ?_⟩
  obtain ⟨sh, z, hk, hh, hok, ho, rfl, z0, z1, q⟩ := h
  obtain ⟨a, dx, fs, rfl, ha, hw, ht, n1, n2, n3, n4, n5⟩ := id ho.any
  rw [hk] at ha
  simp only [and_assoc, rst, rs, re, ra, rq, rx, ro, rl, rl2, rsp, rz, rix, rln, rg, rd, ri, rv, rk, rdd, rwi, at0, at1, at2, at3, upd_at, List.getElem?_cons_zero, List.getElem?_cons_succ, Option.some.injEq, exists_eq_left', exists_eq_left, List.set_cons_zero, List.set_cons_succ, true_and, and_true, HO.lst.injEq, HO.tup.injEq, exists_and_left, exists_eq, exists_eq', Br.t, Br.f, Be.t, Be.f, List.cons.injEq, List.append_nil, scal, if_true, if_false, ite_true, ite_false, eq_self_iff_true, decide_true, decide_false, Bool.not_true, Bool.not_false, reduceIte, List.nil_append, List.cons_append, reduceCtorEq, false_and, exists_false, false_or, or_false, Int.reduceLT, rmd, rsq, rlu, rdp, Bool.true_or, Bool.false_or, Bool.or_false, Bool.or_true]
  refine ⟨dx, fs, ha, _, hw, _, rfl, ?_⟩
  refine ⟨_, _, _, rfl, _, _, rfl, rfl, ⟨_, rfl⟩, fun _ => ?_, fun c => absurd (decide_eq_true (show 0 ≤ z ∧ z ≤ sh.tot - 1 by omega)) (by rw [show decide (0 ≤ z ∧ z ≤ sh.tot - 1) = false from c]; decide)⟩
  simp only [and_assoc, rst, rs, re, ra, rq, rx, ro, rl, rl2, rsp, rz, rix, rln, rg, rd, ri, rv, rk, rdd, rwi, at0, at1, at2, at3, upd_at, List.getElem?_cons_zero, List.getElem?_cons_succ, Option.some.injEq, exists_eq_left', exists_eq_left, List.set_cons_zero, List.set_cons_succ, true_and, and_true, HO.lst.injEq, HO.tup.injEq, exists_and_left, exists_eq, exists_eq', Br.t, Br.f, Be.t, Be.f, List.cons.injEq, List.append_nil, scal, if_true, if_false, ite_true, ite_false, eq_self_iff_true, decide_true, decide_false, Bool.not_true, Bool.not_false, reduceIte, List.nil_append, List.cons_append, reduceCtorEq, false_and, exists_false, false_or, or_false, Int.reduceLT, rmd, rsq, rlu, rdp, Bool.true_or, Bool.false_or, Bool.or_false, Bool.or_true]
  refine ⟨dx, fs, ha, n4, ?_⟩
  exact ⟨_, _, rfl, sh, z, hk, hh, hok, ho, rfl, z0, z1, q⟩
theorem ok_Rows_outcome_3 (T : Tx K mg w) (c_need_number : Cal P w K mg base 4 "need_number" ["thing", "low", "high"] (sp_need_number K)) (c_Rows_outcome_at_3 : CalM P w K mg base 14 "Rows" "outcome_at" ["self", "number"] (sp_Rows_outcome_at_3 K))  : CalM P w K mg base 15 "Rows" "outcome" ["self", "number"] (sp_Rows_outcome_3 K) := by
  refine calM_mk (q := "Shape.outcome") T.F_Rows_outcome_3 T.cls_Rows T.M_Rows_outcome_3 sc_Rows_outcome_3 (len2 _) (fun _ _ _ _ _ _ us hl => match us, hl with | [_, _], _ => rfl) (fun cdv A outer s H vs Q E hr h => ?_)
  obtain ⟨v0, v1, rfl, h⟩ := h
  have hu := hu_of hr.r
  refine ⟨_, (pss_cons (ps_expr (pe_cal c_need_number hr (by decide) passL rfl (pa_cons (pv 1) (pa_cons pe_int (pa_cons (pe_op op_sub (pe_fldC T.cls_Rows T.na_Rows_whole (pv 0)) pe_int) pa_nil)))))
      (pss_one (ps_ret (pe_mth c_Rows_outcome_at_3 hr (by decide) passL (pv 0) (pa_cons (pv 1) pa_nil))))), ?_⟩
  obtain ⟨sh, z, hk, hh, hok, ho, rfl, z0, z1, q⟩ := h
  obtain ⟨a, dx, fs, rfl, ha, hw, ht, n1, n2, n3, n4, n5⟩ := id ho.any
  rw [hk] at ha
  simp only [and_assoc, rst, rs, re, ra, rq, rx, ro, rl, rl2, rsp, rz, rix, rln, rg, rd, ri, rv, rk, rdd, rwi, at0, at1, at2, at3, upd_at, List.getElem?_cons_zero, List.getElem?_cons_succ, Option.some.injEq, exists_eq_left', exists_eq_left, List.set_cons_zero, List.set_cons_succ, true_and, and_true, HO.lst.injEq, HO.tup.injEq, exists_and_left, exists_eq, exists_eq', Br.t, Br.f, Be.t, Be.f, List.cons.injEq, List.append_nil, scal, if_true, if_false, ite_true, ite_false, eq_self_iff_true, decide_true, decide_false, Bool.not_true, Bool.not_false, reduceIte, List.nil_append, List.cons_append, reduceCtorEq, false_and, exists_false, false_or, or_false, Int.reduceLT, rmd, rsq, rlu, rdp, Bool.true_or, Bool.false_or, Bool.or_false, Bool.or_true]
  refine ⟨dx, fs, ha, _, hw, _, rfl, ?_⟩
  refine ⟨_, _, _, rfl, _, _, rfl, rfl, ⟨_, rfl⟩, fun _ => ?_, fun c => absurd (decide_eq_true (show 0 ≤ z ∧ z ≤ sh.tot - 1 by omega)) (by rw [show decide (0 ≤ z ∧ z ≤ sh.tot - 1) = false from c]; decide)⟩
  simp only [and_assoc, rst, rs, re, ra, rq, rx, ro, rl, rl2, rsp, rz, rix, rln, rg, rd, ri, rv, rk, rdd, rwi, at0, at1, at2, at3, upd_at, List.getElem?_cons_zero, List.getElem?_cons_succ, Option.some.injEq, exists_eq_left', exists_eq_left, List.set_cons_zero, List.set_cons_succ, true_and, and_true, HO.lst.injEq, HO.tup.injEq, exists_and_left, exists_eq, exists_eq', Br.t, Br.f, Be.t, Be.f, List.cons.injEq, List.append_nil, scal, if_true, if_false, ite_true, ite_false, eq_self_iff_true, decide_true, decide_false, Bool.not_true, Bool.not_false, reduceIte, List.nil_append, List.cons_append, reduceCtorEq, false_and, exists_false, false_or, or_false, Int.reduceLT, rmd, rsq, rlu, rdp, Bool.true_or, Bool.false_or, Bool.or_false, Bool.or_true]
  refine ⟨dx, fs, ha, n4, ?_⟩
  exact ⟨_, _, rfl, sh, z, hk, hh, hok, ho, rfl, z0, z1, q⟩
theorem ok_ref_Below (T : Tx K mg w) (c_need_number : Cal P w K mg base 4 "need_number" ["thing", "low", "high"] (sp_need_number K)) (c_Below_outcome_at : CalM P w K mg base 4 "Below" "outcome_at" ["self", "number"] (sp_Below_outcome_at K))  : CalM P w K mg base 5 "Below" "outcome" ["self", "number"] (sp_ref_Below K) := by
  refine calM_mk (q := "Shape.outcome") T.F_ref_Below T.cls_Below T.M_ref_Below sc_ref_Below (len2 _) (fun _ _ _ _ _ _ us hl => match us, hl with | [_, _], _ => rfl) (fun cdv A outer s H vs Q E hr h => ?_)
  obtain ⟨v0, v1, rfl, h⟩ := h
  have hu := hu_of hr.r
  refine ⟨_, (pss_cons (ps_expr (pe_cal c_need_number hr (by decide) (passes_call (takes_of rfl rfl rfl rfl) fun _ _ _ _ h => h) rfl (pa_cons (pv 1) (pa_cons pe_int (pa_cons (pe_op op_sub (pe_fldC T.cls_Below T.na_Below_whole (pv 0)) pe_int) pa_nil)))))
      (pss_one (ps_ret (pe_mth c_Below_outcome_at hr (by decide) (passes_call (takes_of rfl rfl rfl rfl) fun _ _ _ _ h => h) (pv 0) (pa_cons (pv 1) pa_nil))))), ?_⟩
  obtain ⟨sh, hk, ho, ty, wi, q⟩ := h
  obtain ⟨a, dx, fs, rfl, ha, hw, ht, n1, n2, n3, n4, n5⟩ := id ho.any
  rw [hk] at ha
  simp only [and_assoc, rst, rs, re, ra, rq, rx, ro, rl, rl2, rsp, rz, rix, rln, rg, rd, ri, rv, rk, rdd, rwi, at0, at1, at2, at3, upd_at, List.getElem?_cons_zero, List.getElem?_cons_succ, Option.some.injEq, exists_eq_left', exists_eq_left, List.set_cons_zero, List.set_cons_succ, true_and, and_true, HO.lst.injEq, HO.tup.injEq, exists_and_left, exists_eq, exists_eq', Br.t, Br.f, Be.t, Be.f, List.cons.injEq, List.append_nil, scal, if_true, if_false, ite_true, ite_false, eq_self_iff_true, decide_true, decide_false, Bool.not_true, Bool.not_false, reduceIte, List.nil_append, List.cons_append, reduceCtorEq, false_and, exists_false, false_or, or_false, Int.reduceLT, rmd, rsq, rlu, rdp, Bool.true_or, Bool.false_or, Bool.or_false, Bool.or_true]
  refine ⟨dx, fs, ha, _, hw, _, rfl, ?_⟩
  refine ⟨_, _, _, rfl, _, _, rfl, rfl, ty, fun c => ?_, fun _ => q⟩
  rw [show within v1 0 (sh.tot - 1) = true from c] at wi
  cases wi
theorem ok_ref_Shares (T : Tx K mg w) (c_need_number : Cal P w K mg base 4 "need_number" ["thing", "low", "high"] (sp_need_number K)) (c_Shares_outcome_at : CalM P w K mg base 8 "Shares" "outcome_at" ["self", "number"] (sp_Shares_outcome_at K))  : CalM P w K mg base 9 "Shares" "outcome" ["self", "number"] (sp_ref_Shares K) := by
  refine calM_mk (q := "Shape.outcome") T.F_ref_Shares T.cls_Shares T.M_ref_Shares sc_ref_Shares (len2 _) (fun _ _ _ _ _ _ us hl => match us, hl with | [_, _], _ => rfl) (fun cdv A outer s H vs Q E hr h => ?_)
  obtain ⟨v0, v1, rfl, h⟩ := h
  have hu := hu_of hr.r
  refine ⟨_, (pss_cons (ps_expr (pe_cal c_need_number hr (by decide) (passes_call (takes_of rfl rfl rfl rfl) fun _ _ _ _ h => h) rfl (pa_cons (pv 1) (pa_cons pe_int (pa_cons (pe_op op_sub (pe_fldC T.cls_Shares T.na_Shares_whole (pv 0)) pe_int) pa_nil)))))
      (pss_one (ps_ret (pe_mth c_Shares_outcome_at hr (by decide) (passes_call (takes_of rfl rfl rfl rfl) fun _ _ _ _ h => h) (pv 0) (pa_cons (pv 1) pa_nil))))), ?_⟩
  obtain ⟨sh, hk, ho, ty, wi, q⟩ := h
  obtain ⟨a, dx, fs, rfl, ha, hw, ht, n1, n2, n3, n4, n5⟩ := id ho.any
  rw [hk] at ha
  simp only [and_assoc, rst, rs, re, ra, rq, rx, ro, rl, rl2, rsp, rz, rix, rln, rg, rd, ri, rv, rk, rdd, rwi, at0, at1, at2, at3, upd_at, List.getElem?_cons_zero, List.getElem?_cons_succ, Option.some.injEq, exists_eq_left', exists_eq_left, List.set_cons_zero, List.set_cons_succ, true_and, and_true, HO.lst.injEq, HO.tup.injEq, exists_and_left, exists_eq, exists_eq', Br.t, Br.f, Be.t, Be.f, List.cons.injEq, List.append_nil, scal, if_true, if_false, ite_true, ite_false, eq_self_iff_true, decide_true, decide_false, Bool.not_true, Bool.not_false, reduceIte, List.nil_append, List.cons_append, reduceCtorEq, false_and, exists_false, false_or, or_false, Int.reduceLT, rmd, rsq, rlu, rdp, Bool.true_or, Bool.false_or, Bool.or_false, Bool.or_true]
  refine ⟨dx, fs, ha, _, hw, _, rfl, ?_⟩
  refine ⟨_, _, _, rfl, _, _, rfl, rfl, ty, fun c => ?_, fun _ => q⟩
  rw [show within v1 0 (sh.tot - 1) = true from c] at wi
  cases wi
theorem ok_ref_Orders (T : Tx K mg w) (c_need_number : Cal P w K mg base 4 "need_number" ["thing", "low", "high"] (sp_need_number K)) (c_Orders_outcome_at : CalM P w K mg base 6 "Orders" "outcome_at" ["self", "number"] (sp_Orders_outcome_at K))  : CalM P w K mg base 7 "Orders" "outcome" ["self", "number"] (sp_ref_Orders K) := by
  refine calM_mk (q := "Shape.outcome") T.F_ref_Orders T.cls_Orders T.M_ref_Orders sc_ref_Orders (len2 _) (fun _ _ _ _ _ _ us hl => match us, hl with | [_, _], _ => rfl) (fun cdv A outer s H vs Q E hr h => ?_)
  obtain ⟨v0, v1, rfl, h⟩ := h
  have hu := hu_of hr.r
  refine ⟨_, (pss_cons (ps_expr (pe_cal c_need_number hr (by decide) (passes_call (takes_of rfl rfl rfl rfl) fun _ _ _ _ h => h) rfl (pa_cons (pv 1) (pa_cons pe_int (pa_cons (pe_op op_sub (pe_fldC T.cls_Orders T.na_Orders_whole (pv 0)) pe_int) pa_nil)))))
      (pss_one (ps_ret (pe_mth c_Orders_outcome_at hr (by decide) (passes_call (takes_of rfl rfl rfl rfl) fun _ _ _ _ h => h) (pv 0) (pa_cons (pv 1) pa_nil))))), ?_⟩
  obtain ⟨sh, hk, ho, ty, wi, q⟩ := h
  obtain ⟨a, dx, fs, rfl, ha, hw, ht, n1, n2, n3, n4, n5⟩ := id ho.any
  rw [hk] at ha
  simp only [and_assoc, rst, rs, re, ra, rq, rx, ro, rl, rl2, rsp, rz, rix, rln, rg, rd, ri, rv, rk, rdd, rwi, at0, at1, at2, at3, upd_at, List.getElem?_cons_zero, List.getElem?_cons_succ, Option.some.injEq, exists_eq_left', exists_eq_left, List.set_cons_zero, List.set_cons_succ, true_and, and_true, HO.lst.injEq, HO.tup.injEq, exists_and_left, exists_eq, exists_eq', Br.t, Br.f, Be.t, Be.f, List.cons.injEq, List.append_nil, scal, if_true, if_false, ite_true, ite_false, eq_self_iff_true, decide_true, decide_false, Bool.not_true, Bool.not_false, reduceIte, List.nil_append, List.cons_append, reduceCtorEq, false_and, exists_false, false_or, or_false, Int.reduceLT, rmd, rsq, rlu, rdp, Bool.true_or, Bool.false_or, Bool.or_false, Bool.or_true]
  refine ⟨dx, fs, ha, _, hw, _, rfl, ?_⟩
  refine ⟨_, _, _, rfl, _, _, rfl, rfl, ty, fun c => ?_, fun _ => q⟩
  rw [show within v1 0 (sh.tot - 1) = true from c] at wi
  cases wi
theorem ok_ref_Sets (T : Tx K mg w) (c_need_number : Cal P w K mg base 4 "need_number" ["thing", "low", "high"] (sp_need_number K)) (c_Sets_outcome_at : CalM P w K mg base 7 "Sets" "outcome_at" ["self", "number"] (sp_Sets_outcome_at K))  : CalM P w K mg base 8 "Sets" "outcome" ["self", "number"] (sp_ref_Sets K) := by
  refine calM_mk (q := "Shape.outcome") T.F_ref_Sets T.cls_Sets T.M_ref_Sets sc_ref_Sets (len2 _) (fun _ _ _ _ _ _ us hl => match us, hl with | [_, _], _ => rfl) (fun cdv A outer s H vs Q E hr h => ?_)
  obtain ⟨v0, v1, rfl, h⟩ := h
  have hu := hu_of hr.r
  refine ⟨_, (pss_cons (ps_expr (pe_cal c_need_number hr (by decide) (passes_call (takes_of rfl rfl rfl rfl) fun _ _ _ _ h => h) rfl (pa_cons (pv 1) (pa_cons pe_int (pa_cons (pe_op op_sub (pe_fldC T.cls_Sets T.na_Sets_whole (pv 0)) pe_int) pa_nil)))))
      (pss_one (ps_ret (pe_mth c_Sets_outcome_at hr (by decide) (passes_call (takes_of rfl rfl rfl rfl) fun _ _ _ _ h => h) (pv 0) (pa_cons (pv 1) pa_nil))))), ?_⟩
  obtain ⟨sh, hk, ho, ty, wi, q⟩ := h
  obtain ⟨a, dx, fs, rfl, ha, hw, ht, n1, n2, n3, n4, n5⟩ := id ho.any
  rw [hk] at ha
  simp only [and_assoc, rst, rs, re, ra, rq, rx, ro, rl, rl2, rsp, rz, rix, rln, rg, rd, ri, rv, rk, rdd, rwi, at0, at1, at2, at3, upd_at, List.getElem?_cons_zero, List.getElem?_cons_succ, Option.some.injEq, exists_eq_left', exists_eq_left, List.set_cons_zero, List.set_cons_succ, true_and, and_true, HO.lst.injEq, HO.tup.injEq, exists_and_left, exists_eq, exists_eq', Br.t, Br.f, Be.t, Be.f, List.cons.injEq, List.append_nil, scal, if_true, if_false, ite_true, ite_false, eq_self_iff_true, decide_true, decide_false, Bool.not_true, Bool.not_false, reduceIte, List.nil_append, List.cons_append, reduceCtorEq, false_and, exists_false, false_or, or_false, Int.reduceLT, rmd, rsq, rlu, rdp, Bool.true_or, Bool.false_or, Bool.or_false, Bool.or_true]
  refine ⟨dx, fs, ha, _, hw, _, rfl, ?_⟩
  refine ⟨_, _, _, rfl, _, _, rfl, rfl, ty, fun c => ?_, fun _ => q⟩
  rw [show within v1 0 (sh.tot - 1) = true from c] at wi
  cases wi
theorem ok_ref_Pair (T : Tx K mg w) (c_need_number : Cal P w K mg base 4 "need_number" ["thing", "low", "high"] (sp_need_number K)) (c_Pair_outcome_at_1 : CalM P w K mg base 10 "Pair" "outcome_at" ["self", "number"] (sp_Pair_outcome_at_1 K))  : CalM P w K mg base 11 "Pair" "outcome" ["self", "number"] (sp_ref_Pair K) := by
  refine calM_mk (q := "Shape.outcome") T.F_ref_Pair T.cls_Pair T.M_ref_Pair sc_ref_Pair (len2 _) (fun _ _ _ _ _ _ us hl => match us, hl with | [_, _], _ => rfl) (fun cdv A outer s H vs Q E hr h => ?_)
  obtain ⟨v0, v1, rfl, h⟩ := h
  have hu := hu_of hr.r
  refine ⟨_, (pss_cons (ps_expr (pe_cal c_need_number hr (by decide) (passes_call (takes_of rfl rfl rfl rfl) fun _ _ _ _ h => h) rfl (pa_cons (pv 1) (pa_cons pe_int (pa_cons (pe_op op_sub (pe_fldC T.cls_Pair T.na_Pair_whole (pv 0)) pe_int) pa_nil)))))
      (pss_one (ps_ret (pe_mth c_Pair_outcome_at_1 hr (by decide) (passes_call (takes_of rfl rfl rfl rfl) fun _ _ _ _ h => h) (pv 0) (pa_cons (pv 1) pa_nil))))), ?_⟩
  obtain ⟨sh, hk, ho, ty, wi, q⟩ := h
  obtain ⟨a, dx, fs, rfl, ha, hw, ht, n1, n2, n3, n4, n5⟩ := id ho.any
  rw [hk] at ha
  simp only [and_assoc, rst, rs, re, ra, rq, rx, ro, rl, rl2, rsp, rz, rix, rln, rg, rd, ri, rv, rk, rdd, rwi, at0, at1, at2, at3, upd_at, List.getElem?_cons_zero, List.getElem?_cons_succ, Option.some.injEq, exists_eq_left', exists_eq_left, List.set_cons_zero, List.set_cons_succ, true_and, and_true, HO.lst.injEq, HO.tup.injEq, exists_and_left, exists_eq, exists_eq', Br.t, Br.f, Be.t, Be.f, List.cons.injEq, List.append_nil, scal, if_true, if_false, ite_true, ite_false, eq_self_iff_true, decide_true, decide_false, Bool.not_true, Bool.not_false, reduceIte, List.nil_append, List.cons_append, reduceCtorEq, false_and, exists_false, false_or, or_false, Int.reduceLT, rmd, rsq, rlu, rdp, Bool.true_or, Bool.false_or, Bool.or_false, Bool.or_true]
  refine ⟨dx, fs, ha, _, hw, _, rfl, ?_⟩
  refine ⟨_, _, _, rfl, _, _, rfl, rfl, ty, fun c => ?_, fun _ => q⟩
  rw [show within v1 0 (sh.tot - 1) = true from c] at wi
  cases wi
theorem ok_ref_Rows (T : Tx K mg w) (c_need_number : Cal P w K mg base 4 "need_number" ["thing", "low", "high"] (sp_need_number K)) (c_Rows_outcome_at_1 : CalM P w K mg base 10 "Rows" "outcome_at" ["self", "number"] (sp_Rows_outcome_at_1 K))  : CalM P w K mg base 11 "Rows" "outcome" ["self", "number"] (sp_ref_Rows K) := by
  refine calM_mk (q := "Shape.outcome") T.F_ref_Rows T.cls_Rows T.M_ref_Rows sc_ref_Rows (len2 _) (fun _ _ _ _ _ _ us hl => match us, hl with | [_, _], _ => rfl) (fun cdv A outer s H vs Q E hr h => ?_)
  obtain ⟨v0, v1, rfl, h⟩ := h
  have hu := hu_of hr.r
  refine ⟨_, (pss_cons (ps_expr (pe_cal c_need_number hr (by decide) (passes_call (takes_of rfl rfl rfl rfl) fun _ _ _ _ h => h) rfl (pa_cons (pv 1) (pa_cons pe_int (pa_cons (pe_op op_sub (pe_fldC T.cls_Rows T.na_Rows_whole (pv 0)) pe_int) pa_nil)))))
      (pss_one (ps_ret (pe_mth c_Rows_outcome_at_1 hr (by decide) (passes_call (takes_of rfl rfl rfl rfl) fun _ _ _ _ h => h) (pv 0) (pa_cons (pv 1) pa_nil))))), ?_⟩
  obtain ⟨sh, hk, ho, ty, wi, q⟩ := h
  obtain ⟨a, dx, fs, rfl, ha, hw, ht, n1, n2, n3, n4, n5⟩ := id ho.any
  rw [hk] at ha
  simp only [and_assoc, rst, rs, re, ra, rq, rx, ro, rl, rl2, rsp, rz, rix, rln, rg, rd, ri, rv, rk, rdd, rwi, at0, at1, at2, at3, upd_at, List.getElem?_cons_zero, List.getElem?_cons_succ, Option.some.injEq, exists_eq_left', exists_eq_left, List.set_cons_zero, List.set_cons_succ, true_and, and_true, HO.lst.injEq, HO.tup.injEq, exists_and_left, exists_eq, exists_eq', Br.t, Br.f, Be.t, Be.f, List.cons.injEq, List.append_nil, scal, if_true, if_false, ite_true, ite_false, eq_self_iff_true, decide_true, decide_false, Bool.not_true, Bool.not_false, reduceIte, List.nil_append, List.cons_append, reduceCtorEq, false_and, exists_false, false_or, or_false, Int.reduceLT, rmd, rsq, rlu, rdp, Bool.true_or, Bool.false_or, Bool.or_false, Bool.or_true]
  refine ⟨dx, fs, ha, _, hw, _, rfl, ?_⟩
  refine ⟨_, _, _, rfl, _, _, rfl, rfl, ty, fun c => ?_, fun _ => q⟩
  rw [show within v1 0 (sh.tot - 1) = true from c] at wi
  cases wi
end
end Law

-- RDX rmd, rsq, rlu, rdp, Bool.true_or, Bool.false_or, Bool.or_false, Bool.or_true
namespace Law
open PySem PySem.Spec PyProof.Rows L2 Sw
theorem simple_kind {sh : Sh} (h : sh.ht = 0) : kindOf sh = "Below" ∨ kindOf sh = "Shares" ∨ kindOf sh = "Orders" ∨ kindOf sh = "Sets" := by
  cases sh with
  | bound b => exact .inl rfl
  | shares ps => exact .inr (.inl rfl)
  | orders n => exact .inr (.inr (.inl rfl))
  | sets n k => exact .inr (.inr (.inr rfl))
  | pair a b => exact absurd h (by show 1 + _ ≠ 0; omega)
  | rows a n => exact absurd h (by show 1 + _ ≠ 0; omega)
theorem mem_num4 {K : Fg} {sh : Sh} (h : sh.ht = 0) : (kindOf sh, spNum (kindOf sh) K) ∈ [(("Below" : Str), sp_Below_numbers K), ("Shares", sp_Shares_numbers K), ("Orders", sp_Orders_numbers K), ("Sets", sp_Sets_numbers K)] := by
  rcases simple_kind h with e | e | e | e <;> rw [e] <;> simp [sp_Below_numbers, sp_Shares_numbers, sp_Orders_numbers, sp_Sets_numbers]
theorem mem_num6 {K : Fg} (sh : Sh) : (kindOf sh, spNum (kindOf sh) K) ∈ [(("Below" : Str), sp_Below_numbers K), ("Shares", sp_Shares_numbers K), ("Orders", sp_Orders_numbers K), ("Sets", sp_Sets_numbers K), ("Pair", sp_Pair_numbers K), ("Rows", sp_Rows_numbers K)] := by
  cases sh <;> simp [kindOf, sp_Below_numbers, sp_Shares_numbers, sp_Orders_numbers, sp_Sets_numbers, sp_Pair_numbers, sp_Rows_numbers]
theorem mem_ht6 {K : Fg} (sh : Sh) : (kindOf sh, spHt (kindOf sh) K) ∈ [(("Below" : Str), sp_Below_height K), ("Shares", sp_Shares_height K), ("Orders", sp_Orders_height K), ("Sets", sp_Sets_height K), ("Pair", sp_Pair_height K), ("Rows", sp_Rows_height K)] := by
  cases sh <;> simp [kindOf, sp_Below_height, sp_Shares_height, sp_Orders_height, sp_Sets_height, sp_Pair_height, sp_Rows_height]
theorem mem_ref6 {K : Fg} (sh : Sh) : (kindOf sh, spRef (kindOf sh) K) ∈ [(("Below" : Str), sp_ref_Below K), ("Shares", sp_ref_Shares K), ("Orders", sp_ref_Orders K), ("Sets", sp_ref_Sets K), ("Pair", sp_ref_Pair K), ("Rows", sp_ref_Rows K)] := by
  cases sh <;> simp [kindOf, sp_ref_Below, sp_ref_Shares, sp_ref_Orders, sp_ref_Sets, sp_ref_Pair, sp_ref_Rows]
theorem mem_out4 {K : Fg} {sh : Sh} (h : sh.ht ≤ 0) : (kindOf sh, spOut (kindOf sh) sh.ht K) ∈ [(("Below" : Str), sp_Below_outcome K), ("Shares", sp_Shares_outcome K), ("Orders", sp_Orders_outcome K), ("Sets", sp_Sets_outcome K)] := by
  have h0 : sh.ht = 0 := by omega
  rw [h0]
  rcases simple_kind h0 with e | e | e | e <;> rw [e] <;> simp [sp_Below_outcome, sp_Shares_outcome, sp_Orders_outcome, sp_Sets_outcome]
theorem mem_out6 {K : Fg} {sh : Sh} (h : sh.ht ≤ 1) : (kindOf sh, spOut (kindOf sh) sh.ht K) ∈ [(("Below" : Str), sp_Below_outcome K), ("Shares", sp_Shares_outcome K), ("Orders", sp_Orders_outcome K), ("Sets", sp_Sets_outcome K), ("Pair", sp_Pair_outcome_1 K), ("Rows", sp_Rows_outcome_1 K)] := by
  cases sh with
  | pair a b =>
    have e : (Sh.pair a b).ht = 1 := by
      have : (Sh.pair a b).ht = 1 + max a.ht b.ht := rfl
      omega
    rw [e]
    simp [kindOf, sp_Pair_outcome_1]
  | rows a n =>
    have e : (Sh.rows a n).ht = 1 := by
      have : (Sh.rows a n).ht = 1 + a.ht := rfl
      omega
    rw [e]
    simp [kindOf, sp_Rows_outcome_1]
  | bound b => simp [kindOf, Sh.ht, sp_Below_outcome]
  | shares b => simp [kindOf, Sh.ht, sp_Shares_outcome]
  | orders b => simp [kindOf, Sh.ht, sp_Orders_outcome]
  | sets b c => simp [kindOf, Sh.ht, sp_Sets_outcome]
theorem mem_out8 {K : Fg} {sh : Sh} (h : sh.ht ≤ 2) : (kindOf sh, spOut (kindOf sh) sh.ht K) ∈ [(("Below" : Str), sp_Below_outcome K), ("Shares", sp_Shares_outcome K), ("Orders", sp_Orders_outcome K), ("Sets", sp_Sets_outcome K), ("Pair", sp_Pair_outcome_1 K), ("Rows", sp_Rows_outcome_1 K), ("Pair", sp_Pair_outcome_2 K), ("Rows", sp_Rows_outcome_2 K)] := by
  rcases Nat.lt_or_ge 1 sh.ht with c | c
  · have e2 : sh.ht = 2 := by omega
    rw [e2]
    cases sh with
    | pair a b => simp [kindOf, sp_Pair_outcome_2]
    | rows a b => simp [kindOf, sp_Rows_outcome_2]
    | _ => cases e2
  · exact List.mem_append_left [(("Pair" : Str), sp_Pair_outcome_2 K), ("Rows", sp_Rows_outcome_2 K)] (mem_out6 (K := K) c)
theorem mem_outA {K : Fg} {sh : Sh} (h : sh.ht ≤ 3) : (kindOf sh, spOut (kindOf sh) sh.ht K) ∈ [(("Below" : Str), sp_Below_outcome K), ("Shares", sp_Shares_outcome K), ("Orders", sp_Orders_outcome K), ("Sets", sp_Sets_outcome K), ("Pair", sp_Pair_outcome_1 K), ("Rows", sp_Rows_outcome_1 K), ("Pair", sp_Pair_outcome_2 K), ("Rows", sp_Rows_outcome_2 K), ("Pair", sp_Pair_outcome_3 K), ("Rows", sp_Rows_outcome_3 K)] := by
  rcases Nat.lt_or_ge 2 sh.ht with c | c
  · have e2 : sh.ht = 3 := by omega
    rw [e2]
    cases sh with
    | pair a b => simp [kindOf, sp_Pair_outcome_3]
    | rows a b => simp [kindOf, sp_Rows_outcome_3]
    | _ => cases e2
  · exact List.mem_append_left [(("Pair" : Str), sp_Pair_outcome_3 K), ("Rows", sp_Rows_outcome_3 K)] (mem_out8 (K := K) c)
theorem dig_ok {t : Int} (t0 : 1 ≤ t) : ∀ (n : Nat) (z : Int), ∀ d ∈ dig t n z, 0 ≤ d ∧ d < t
  | 0, _, d, h => by cases h
  | n + 1, z, d, h => by
    rcases List.mem_append.mp h with h | h
    · exact dig_ok t0 n _ d h
    · rw [List.mem_singleton.mp h]
      exact ⟨Int.emod_nonneg _ (by omega), Int.emod_lt_of_pos _ (by omega)⟩
theorem dig_len {t : Int} : ∀ (n : Nat) (z : Int), (dig t n z).length = n
  | 0, _ => rfl
  | n + 1, z => by
    show (dig t n (z / t) ++ [z % t]).length = n + 1
    rw [List.length_append, dig_len n]
    rfl
theorem All2.snoc {α β : Type} {R : α → β → Prop} {a : α} {b : β} (h : R a b) : ∀ {l : List α} {m : List β}, All2 R l m → All2 R (l ++ [a]) (m ++ [b])
  | [], [], _ => ⟨h, True.intro⟩
  | _ :: _, _ :: _, ⟨x, y⟩ => ⟨x, All2.snoc h y⟩
  | [], _ :: _, x => x.elim
  | _ :: _, [], x => x.elim
theorem All2.len {α β : Type} {R : α → β → Prop} : ∀ {l : List α} {m : List β}, All2 R l m → l.length = m.length
  | [], [], _ => rfl
  | _ :: _, _ :: _, ⟨_, y⟩ => congrArg (· + 1) (All2.len y)
  | [], _ :: _, x => x.elim
  | _ :: _, [], x => x.elim
/-- tuples stay -/
def TS (H H' : Hp) : Prop := ∀ p xs, H p = some (.tup xs) → H' p = some (.tup xs)
theorem Rp.ts {H H' : Hp} (s : TS H H') : ∀ {sh : Sh} {z : Int} {v : V}, Rp H sh z v → Rp H' sh z v
  | .bound _, _, _, h => h
  | .shares _, _, _, h => h
  | .orders _, _, _, ⟨p, e, h⟩ => ⟨p, e, s _ _ h⟩
  | .sets _ _, _, _, ⟨p, e, h⟩ => ⟨p, e, s _ _ h⟩
  | .pair a b, _, _, ⟨p, x, y, e, h, h1, h2⟩ => ⟨p, x, y, e, s _ _ h, Rp.ts s (sh := a) h1, Rp.ts s (sh := b) h2⟩
  | .rows a n, _, _, ⟨p, xs, e, h, h1⟩ => ⟨p, xs, e, s _ _ h, All2.imp (fun _ _ k => Rp.ts s (sh := a) k) h1⟩
theorem ts_upd {H : Hp} {D : Addr} {xs : List V} {o : HO} (h : H D = some (.lst xs)) : TS H (upd H D o) := fun p ys e => by
  rw [upd_ne (fun z => by rw [z, h] at e; cases e)]
  exact e
section
variable {P : Program} {w : World} {K : Fg} {mg : Str → Option Value} {base : Heap}
theorem ok_Below_outcome_at (T : Tx K mg w)   : CalM P w K mg base 4 "Below" "outcome_at" ["self", "number"] (sp_Below_outcome_at K) := by
  refine calM_mk (q := "Shape.outcome_at") T.F_Below_outcome_at T.cls_Below T.M_Below_outcome_at sc_Below_outcome_at (len2 _) (fun _ _ _ _ _ _ us hl => match us, hl with | [_, _], _ => rfl) (fun cdv A outer s H vs Q E hr h => ?_)
  obtain ⟨v0, v1, rfl, h⟩ := h
  have hu := hu_of hr.r
  refine ⟨_, (pss_one (ps_ret (pv 1))), ?_⟩
  obtain ⟨sh, z, hk, hh, hok, ho, rfl, z0, z1, q⟩ := h
  cases sh with
  | bound b =>
    simp only [and_assoc, rst, rs, re, ra, rq, rx, ro, rl, rl2, rsp, rz, rix, rln, rg, rd, ri, rv, rk, rdd, rwi, at0, at1, at2, at3, upd_at, List.getElem?_cons_zero, List.getElem?_cons_succ, Option.some.injEq, exists_eq_left', exists_eq_left, List.set_cons_zero, List.set_cons_succ, true_and, and_true, HO.lst.injEq, HO.tup.injEq, exists_and_left, exists_eq, exists_eq', Br.t, Br.f, Be.t, Be.f, List.cons.injEq, List.append_nil, scal, if_true, if_false, ite_true, ite_false, eq_self_iff_true, decide_true, decide_false, Bool.not_true, Bool.not_false, reduceIte, List.nil_append, List.cons_append, reduceCtorEq, false_and, exists_false, false_or, or_false, Int.reduceLT, rmd, rsq, rlu, rdp, Bool.true_or, Bool.false_or, Bool.or_false, Bool.or_true]
    exact q _ _ (fun _ _ e => e) rfl
  | _ => exact absurd hk (by first | (show ¬ (("Shares" : Str) = "Below"); decide +kernel) | (show ¬ (("Orders" : Str) = "Below"); decide +kernel) | (show ¬ (("Sets" : Str) = "Below"); decide +kernel) | (show ¬ (("Pair" : Str) = "Below"); decide +kernel) | (show ¬ (("Rows" : Str) = "Below"); decide +kernel))
theorem ok_Shares_outcome_at (T : Tx K mg w) (c_share_at : Cal P w K mg base 7 "share_at" ["shares", "number"] (sp_share_at K))  : CalM P w K mg base 8 "Shares" "outcome_at" ["self", "number"] (sp_Shares_outcome_at K) := by
  refine calM_mk (q := "Shares.outcome_at") T.F_Shares_outcome_at T.cls_Shares T.M_Shares_outcome_at sc_Shares_outcome_at (len2 _) (fun _ _ _ _ _ _ us hl => match us, hl with | [_, _], _ => rfl) (fun cdv A outer s H vs Q E hr h => ?_)
  obtain ⟨v0, v1, rfl, h⟩ := h
  have hu := hu_of hr.r
  refine ⟨_, (pss_one (ps_ret (pe_cal c_share_at hr (by decide) (passes_call (takes_of rfl rfl rfl rfl) fun _ _ _ _ h => h) rfl (pa_cons (pe_fldC T.cls_Shares T.na_Shares_portions (pv 0)) (pa_cons (pv 1) pa_nil))))), ?_⟩
  obtain ⟨sh, z, hk, hh, hok, ho, rfl, z0, z1, q⟩ := h
  cases sh with
  | shares ps =>
    obtain ⟨a, dx, p, rfl, ha, hp⟩ := ho
    simp only [and_assoc, rst, rs, re, ra, rq, rx, ro, rl, rl2, rsp, rz, rix, rln, rg, rd, ri, rv, rk, rdd, rwi, at0, at1, at2, at3, upd_at, List.getElem?_cons_zero, List.getElem?_cons_succ, Option.some.injEq, exists_eq_left', exists_eq_left, List.set_cons_zero, List.set_cons_succ, true_and, and_true, HO.lst.injEq, HO.tup.injEq, exists_and_left, exists_eq, exists_eq', Br.t, Br.f, Be.t, Be.f, List.cons.injEq, List.append_nil, scal, if_true, if_false, ite_true, ite_false, eq_self_iff_true, decide_true, decide_false, Bool.not_true, Bool.not_false, reduceIte, List.nil_append, List.cons_append, reduceCtorEq, false_and, exists_false, false_or, or_false, Int.reduceLT, rmd, rsq, rlu, rdp, Bool.true_or, Bool.false_or, Bool.or_false, Bool.or_true]
    refine ⟨dx, _, ha, _, rfl, ?_⟩
    exact ⟨_, _, rfl, ps, z, ⟨p, _, rfl, hp, rfl⟩, hok, rfl, z0, z1, fun H' s => q _ _ s rfl⟩
  | _ => exact absurd hk (by first | (show ¬ (("Below" : Str) = "Shares"); decide +kernel) | (show ¬ (("Orders" : Str) = "Shares"); decide +kernel) | (show ¬ (("Sets" : Str) = "Shares"); decide +kernel) | (show ¬ (("Pair" : Str) = "Shares"); decide +kernel) | (show ¬ (("Rows" : Str) = "Shares"); decide +kernel))
theorem ok_Orders_outcome_at (T : Tx K mg w) (c_order_at : Cal P w K mg base 5 "order_at" ["many", "rank"] (sp_order_at K))  : CalM P w K mg base 6 "Orders" "outcome_at" ["self", "number"] (sp_Orders_outcome_at K) := by
  refine calM_mk (q := "Orders.outcome_at") T.F_Orders_outcome_at T.cls_Orders T.M_Orders_outcome_at sc_Orders_outcome_at (len2 _) (fun _ _ _ _ _ _ us hl => match us, hl with | [_, _], _ => rfl) (fun cdv A outer s H vs Q E hr h => ?_)
  obtain ⟨v0, v1, rfl, h⟩ := h
  have hu := hu_of hr.r
  refine ⟨_, (pss_one (ps_ret (pe_cal c_order_at hr (by decide) (passes_call (takes_of rfl rfl rfl rfl) fun _ _ _ _ h => h) rfl (pa_cons (pe_fldC T.cls_Orders T.na_Orders_things (pv 0)) (pa_cons (pv 1) pa_nil))))), ?_⟩
  obtain ⟨sh, z, hk, hh, hok, ho, rfl, z0, z1, q⟩ := h
  cases sh with
  | orders n =>
    obtain ⟨a, dx, rfl, ha⟩ := ho
    simp only [and_assoc, rst, rs, re, ra, rq, rx, ro, rl, rl2, rsp, rz, rix, rln, rg, rd, ri, rv, rk, rdd, rwi, at0, at1, at2, at3, upd_at, List.getElem?_cons_zero, List.getElem?_cons_succ, Option.some.injEq, exists_eq_left', exists_eq_left, List.set_cons_zero, List.set_cons_succ, true_and, and_true, HO.lst.injEq, HO.tup.injEq, exists_and_left, exists_eq, exists_eq', Br.t, Br.f, Be.t, Be.f, List.cons.injEq, List.append_nil, scal, if_true, if_false, ite_true, ite_false, eq_self_iff_true, decide_true, decide_false, Bool.not_true, Bool.not_false, reduceIte, List.nil_append, List.cons_append, reduceCtorEq, false_and, exists_false, false_or, or_false, Int.reduceLT, rmd, rsq, rlu, rdp, Bool.true_or, Bool.false_or, Bool.or_false, Bool.or_true]
    refine ⟨dx, _, ha, _, rfl, ?_⟩
    exact ⟨_, _, rfl, n, z, rfl, rfl, hok, z0, z1, fun p H' s hp => q _ _ s ⟨p, rfl, hp⟩⟩
  | _ => exact absurd hk (by first | (show ¬ (("Below" : Str) = "Orders"); decide +kernel) | (show ¬ (("Shares" : Str) = "Orders"); decide +kernel) | (show ¬ (("Sets" : Str) = "Orders"); decide +kernel) | (show ¬ (("Pair" : Str) = "Orders"); decide +kernel) | (show ¬ (("Rows" : Str) = "Orders"); decide +kernel))
theorem ok_Sets_outcome_at (T : Tx K mg w) (c_set_at : Cal P w K mg base 6 "set_at" ["many", "size", "rank"] (sp_set_at K))  : CalM P w K mg base 7 "Sets" "outcome_at" ["self", "number"] (sp_Sets_outcome_at K) := by
  refine calM_mk (q := "Sets.outcome_at") T.F_Sets_outcome_at T.cls_Sets T.M_Sets_outcome_at sc_Sets_outcome_at (len2 _) (fun _ _ _ _ _ _ us hl => match us, hl with | [_, _], _ => rfl) (fun cdv A outer s H vs Q E hr h => ?_)
  obtain ⟨v0, v1, rfl, h⟩ := h
  have hu := hu_of hr.r
  refine ⟨_, (pss_one (ps_ret (pe_cal c_set_at hr (by decide) (passes_call (takes_of rfl rfl rfl rfl) fun _ _ _ _ h => h) rfl (pa_cons (pe_fldC T.cls_Sets T.na_Sets_things (pv 0)) (pa_cons (pe_fldC T.cls_Sets T.na_Sets_chosen (pv 0)) (pa_cons (pv 1) pa_nil)))))), ?_⟩
  obtain ⟨sh, z, hk, hh, hok, ho, rfl, z0, z1, q⟩ := h
  cases sh with
  | sets n k =>
    obtain ⟨a, dx, rfl, ha⟩ := ho
    simp only [and_assoc, rst, rs, re, ra, rq, rx, ro, rl, rl2, rsp, rz, rix, rln, rg, rd, ri, rv, rk, rdd, rwi, at0, at1, at2, at3, upd_at, List.getElem?_cons_zero, List.getElem?_cons_succ, Option.some.injEq, exists_eq_left', exists_eq_left, List.set_cons_zero, List.set_cons_succ, true_and, and_true, HO.lst.injEq, HO.tup.injEq, exists_and_left, exists_eq, exists_eq', Br.t, Br.f, Be.t, Be.f, List.cons.injEq, List.append_nil, scal, if_true, if_false, ite_true, ite_false, eq_self_iff_true, decide_true, decide_false, Bool.not_true, Bool.not_false, reduceIte, List.nil_append, List.cons_append, reduceCtorEq, false_and, exists_false, false_or, or_false, Int.reduceLT, rmd, rsq, rlu, rdp, Bool.true_or, Bool.false_or, Bool.or_false, Bool.or_true]
    refine ⟨dx, _, ha, _, rfl, dx, _, ha, _, rfl, ?_⟩
    exact ⟨_, _, _, rfl, n, k, z, rfl, rfl, rfl, hok.1, hok.2, z0, z1, fun p H' s hp => q _ _ s ⟨p, rfl, hp⟩⟩
  | _ => exact absurd hk (by first | (show ¬ (("Below" : Str) = "Sets"); decide +kernel) | (show ¬ (("Shares" : Str) = "Sets"); decide +kernel) | (show ¬ (("Orders" : Str) = "Sets"); decide +kernel) | (show ¬ (("Pair" : Str) = "Sets"); decide +kernel) | (show ¬ (("Rows" : Str) = "Sets"); decide +kernel))
theorem ok_Pair_outcome_at_1 (T : Tx K mg w) (c_Shares_numbers : CalM P w K mg base 1 "Shares" "numbers" ["self"] (sp_Shares_numbers K)) (c_Shares_outcome : CalM P w K mg base 9 "Shares" "outcome" ["self", "number"] (sp_Shares_outcome K)) (c_Below_numbers : CalM P w K mg base 1 "Below" "numbers" ["self"] (sp_Below_numbers K)) (c_Orders_outcome : CalM P w K mg base 7 "Orders" "outcome" ["self", "number"] (sp_Orders_outcome K)) (c_Below_outcome : CalM P w K mg base 5 "Below" "outcome" ["self", "number"] (sp_Below_outcome K)) (c_Sets_outcome : CalM P w K mg base 8 "Sets" "outcome" ["self", "number"] (sp_Sets_outcome K)) (c_Orders_numbers : CalM P w K mg base 1 "Orders" "numbers" ["self"] (sp_Orders_numbers K)) (c_Sets_numbers : CalM P w K mg base 1 "Sets" "numbers" ["self"] (sp_Sets_numbers K))  : CalM P w K mg base 10 "Pair" "outcome_at" ["self", "number"] (sp_Pair_outcome_at_1 K) := by
  refine calM_mk (q := "Pair.outcome_at") T.F_Pair_outcome_at_1 T.cls_Pair T.M_Pair_outcome_at_1 sc_Pair_outcome_at_1 (len2 _) (fun _ _ _ _ _ _ us hl => match us, hl with | [_, _], _ => rfl) (fun cdv A outer s H vs Q E hr h => ?_)
  obtain ⟨v0, v1, rfl, h⟩ := h
  have hu := hu_of hr.r
  have D0 := ((Disp.cons c_Below_numbers (by decide) (Disp.cons c_Shares_numbers (by decide) (Disp.cons c_Orders_numbers (by decide) (Disp.cons c_Sets_numbers (by decide) Disp.nil)))) : Disp P w K mg base (9) "numbers" _)
  have D1 := ((Disp.cons c_Below_outcome (by decide) (Disp.cons c_Shares_outcome (by decide) (Disp.cons c_Orders_outcome (by decide) (Disp.cons c_Sets_outcome (by decide) Disp.nil)))) : Disp P w K mg base (9) "outcome" _)
  have D2 := ((Disp.cons c_Below_outcome (by decide) (Disp.cons c_Shares_outcome (by decide) (Disp.cons c_Orders_outcome (by decide) (Disp.cons c_Sets_outcome (by decide) Disp.nil)))) : Disp P w K mg base (9) "outcome" _)
  refine ⟨_, (pss_cons (ps_asg (pe_callB call_divmodW (by rfl) T.n_divmod (by decide +kernel) (pa_cons (pv 1) (pa_cons (pe_mthD0 (K := K) rfl D0 hr (takes_of rfl rfl rfl rfl) (pe_fldC T.cls_Pair T.na_Pair_fast (pv 0))) pa_nil))) (pg_tupQ rfl (pgs_cons (pg_name (i := 2) sc_Pair_outcome_at_1.nd rfl (Or.inl rfl)) (pgs_cons (pg_name (i := 3) sc_Pair_outcome_at_1.nd rfl (Or.inl rfl)) pgs_nil)) (gname_len (gname_len (fun _ _ _ _ h => gnil_len h)))))
      (pss_one (ps_ret (pe_tup (pa_cons (pe_mthD (K := K) rfl D2 hr (takes_of rfl rfl rfl rfl) (pe_fldC T.cls_Pair T.na_Pair_slow (pv 0)) (pa_cons (pv 2) pa_nil)) (pa_cons (pe_mthD (K := K) rfl D1 hr (takes_of rfl rfl rfl rfl) (pe_fldC T.cls_Pair T.na_Pair_fast (pv 0)) (pa_cons (pv 3) pa_nil)) pa_nil)))))), ?_⟩
  obtain ⟨sh, z, hk, hh, hok, ho, rfl, z0, z1, q⟩ := h
  cases sh with
  | pair s t =>
    obtain ⟨a, dx, x, y, rfl, ha, hs, ht⟩ := ho
    have hh2 : 1 + max s.ht t.ht ≤ 1 := hh
    obtain ⟨as, dxs, fss, rfl, has, _, _, _, _, ns, _, _⟩ := id hs.any
    obtain ⟨at', dxt, fst, rfl, hat, _, _, nt0, _, nt, _, _⟩ := id ht.any
    obtain ⟨k1, k2, k3⟩ := hok
    obtain ⟨s0, s1⟩ := tot_ok k1
    obtain ⟨t0, t1⟩ := tot_ok k2
    have zz : z < s.tot * t.tot := z1
    have d0 : 0 ≤ z / t.tot := Int.ediv_nonneg z0 (by omega)
    have d1 : z / t.tot < s.tot := Int.ediv_lt_of_lt_mul (by omega) zz
    have m0 : 0 ≤ z % t.tot := Int.emod_nonneg _ (by omega)
    have m1 : z % t.tot < t.tot := Int.emod_lt_of_pos _ (by omega)
    simp only [and_assoc, rst, rs, re, ra, rq, rx, ro, rl, rl2, rsp, rz, rix, rln, rg, rd, ri, rv, rk, rdd, rwi, at0, at1, at2, at3, upd_at, List.getElem?_cons_zero, List.getElem?_cons_succ, Option.some.injEq, exists_eq_left', exists_eq_left, List.set_cons_zero, List.set_cons_succ, true_and, and_true, HO.lst.injEq, HO.tup.injEq, exists_and_left, exists_eq, exists_eq', Br.t, Br.f, Be.t, Be.f, List.cons.injEq, List.append_nil, scal, if_true, if_false, ite_true, ite_false, eq_self_iff_true, decide_true, decide_false, Bool.not_true, Bool.not_false, reduceIte, List.nil_append, List.cons_append, reduceCtorEq, false_and, exists_false, false_or, or_false, Int.reduceLT, rmd, rsq, rlu, rdp, Bool.true_or, Bool.false_or, Bool.or_false, Bool.or_true]
    refine ⟨dx, _, ha, _, rfl, at', rfl, kindOf t, spNum (kindOf t) K, mem_num4 (by omega), dxt, fst, hat, nt0, ?_⟩
    refine ⟨_, rfl, t, rfl, ht, ?_⟩
    refine ⟨_, rfl, divm z0 (by omega) (by omega), fun p hp => ?_⟩
    have S := Same.new (o := .tup [V.int (z / t.tot), V.int (z % t.tot)]) hp
    refine ⟨dx, _, S _ _ ha, _, rfl, as, rfl, kindOf s, spOut (kindOf s) s.ht K, mem_out4 (by omega), dxs, fss, S _ _ has, ns, ?_⟩
    refine ⟨_, _, rfl, s, _, rfl, Nat.le_refl _, k1, hs.same S, rfl, d0, d1, fun v H1 S1 r1 => ?_⟩
    have S2 := Same.trans S S1
    refine ⟨dx, _, S2 _ _ ha, _, rfl, at', rfl, kindOf t, spOut (kindOf t) t.ht K, mem_out4 (by omega), dxt, fst, S2 _ _ hat, nt, ?_⟩
    refine ⟨_, _, rfl, t, _, rfl, Nat.le_refl _, k2, ht.same S2, rfl, m0, m1, fun u H2 S3 r2 => ?_⟩
    refine fun q1 hq1 => q _ _ (Same.trans S2 (Same.trans S3 (Same.new hq1))) ⟨q1, v, u, rfl, upd_same, Rp.same (Same.trans S3 (Same.new hq1)) r1, Rp.same (Same.new hq1) r2⟩
  | _ => exact absurd hk (by first | (show ¬ (("Below" : Str) = "Pair"); decide +kernel) | (show ¬ (("Shares" : Str) = "Pair"); decide +kernel) | (show ¬ (("Orders" : Str) = "Pair"); decide +kernel) | (show ¬ (("Sets" : Str) = "Pair"); decide +kernel) | (show ¬ (("Rows" : Str) = "Pair"); decide +kernel))
theorem ok_Rows_outcome_at_1 (T : Tx K mg w) (c_unmixed : Cal P w K mg base 4 "unmixed" ["number", "bases"] (sp_unmixed K)) (c_Orders_outcome : CalM P w K mg base 7 "Orders" "outcome" ["self", "number"] (sp_Orders_outcome K)) (c_Below_outcome : CalM P w K mg base 5 "Below" "outcome" ["self", "number"] (sp_Below_outcome K)) (c_Sets_outcome : CalM P w K mg base 8 "Sets" "outcome" ["self", "number"] (sp_Sets_outcome K)) (c_Shares_outcome : CalM P w K mg base 9 "Shares" "outcome" ["self", "number"] (sp_Shares_outcome K))  : CalM P w K mg base 10 "Rows" "outcome_at" ["self", "number"] (sp_Rows_outcome_at_1 K) := by
  refine calM_mk (q := "Rows.outcome_at") T.F_Rows_outcome_at_1 T.cls_Rows T.M_Rows_outcome_at_1 sc_Rows_outcome_at_1 (len2 _) (fun _ _ _ _ _ _ us hl => match us, hl with | [_, _], _ => rfl) (fun cdv A outer s H vs Q E hr h => ?_)
  obtain ⟨v0, v1, rfl, h⟩ := h
  have hu := hu_of hr.r
  have D0 := ((Disp.cons c_Below_outcome (by decide) (Disp.cons c_Shares_outcome (by decide) (Disp.cons c_Orders_outcome (by decide) (Disp.cons c_Sets_outcome (by decide) Disp.nil)))) : Disp P w K mg base (9) "outcome" _)
  refine ⟨_, (pss_one (ps_ret (pe_callTy tup_q (by rfl) T.n_tuple (by decide +kernel) (pa_cons (pe_lc (own := [("part", 2)]) (g := (gName 2)) rfl sc_Rows_outcome_at_1.nd (pi_q (pe_cal c_unmixed hr (by decide) (passes_call (takes_of rfl rfl rfl rfl) fun _ _ _ _ h => h) rfl (pa_cons (pv 1) (pa_cons (pe_fldC T.cls_Rows T.na_Rows_bases (pv 0)) pa_nil)))) (blkOk_by (N := nm_Rows_outcome_at_1) (sc := defScope s_Rows_outcome_at_1) (by decide +kernel)) (fun _ _ _ _ _ => (pg_name (i := 2) sc_Rows_outcome_at_1.nd rfl (Or.inl rfl))) (fun _ _ _ _ _ => pts_nil) (fun _ _ _ _ _ => (pe_mthDP (K := K) rfl D0 hr passL (pe_fldC T.cls_Rows T.na_Rows_single (pv 0)) (pa_cons (pv 2) pa_nil)))) pa_nil)))), ?_⟩
  obtain ⟨sh, z, hk, hh, hok, ho, rfl, z0, z1, q⟩ := h
  cases sh with
  | rows s n =>
    obtain ⟨a, dx, x, bq, rfl, ha, hs, hb⟩ := ho
    have hh2 : 1 + s.ht ≤ 1 := hh
    obtain ⟨as, dxs, fss, rfl, has, _, _, _, _, ns, _, _⟩ := id hs.any
    obtain ⟨k1, k2, k3⟩ := hok
    obtain ⟨s0, s1⟩ := tot_ok k1
    simp only [and_assoc, rst, rs, re, ra, rq, rx, ro, rl, rl2, rsp, rz, rix, rln, rg, rd, ri, rv, rk, rdd, rwi, at0, at1, at2, at3, upd_at, List.getElem?_cons_zero, List.getElem?_cons_succ, Option.some.injEq, exists_eq_left', exists_eq_left, List.set_cons_zero, List.set_cons_succ, true_and, and_true, HO.lst.injEq, HO.tup.injEq, exists_and_left, exists_eq, exists_eq', Br.t, Br.f, Be.t, Be.f, List.cons.injEq, List.append_nil, scal, if_true, if_false, ite_true, ite_false, eq_self_iff_true, decide_true, decide_false, Bool.not_true, Bool.not_false, reduceIte, List.nil_append, List.cons_append, reduceCtorEq, false_and, exists_false, false_or, or_false, Int.reduceLT, rmd, rsq, rlu, rdp, Bool.true_or, Bool.false_or, Bool.or_false, Bool.or_true]
    refine ⟨dx, _, ha, _, rfl, ?_⟩
    refine ⟨_, _, rfl, bq, n, s.tot, z, rfl, hb, rfl, k2, s0, s1, k3, z0, z1, fun p H1 S1 h1 => ?_⟩
    have dok := dig_ok s0 n z
    have dl := dig_len (t := s.tot) n z
    refine ⟨p, rfl, _, h1, _, rfl, LC.seq (o := .lst ((dig s.tot n z).map V.int)) rfl (fun D i H' => ∃ xs, Same H1 H' ∧ H' D = some (.lst xs) ∧ All2 (Rp H' s) ((dig s.tot n z).take i) xs) (fun D hD => ⟨[], Same.new hD, upd_same, True.intro⟩) (fun D i H' _ _ ⟨_, S, _⟩ => S _ _ h1) ?_ ?_⟩
    · rintro D i x H' hD hx ⟨xs, S, hd, al⟩
      obtain ⟨m, hm, rfl⟩ := map_at hx
      obtain ⟨b0, b1⟩ := dok m (List.mem_of_getElem? hm)
      have S2 := Same.trans S1 S
      simp only [and_assoc, rst, rs, re, ra, rq, rx, ro, rl, rl2, rsp, rz, rix, rln, rg, rd, ri, rv, rk, rdd, rwi, at0, at1, at2, at3, upd_at, List.getElem?_cons_zero, List.getElem?_cons_succ, Option.some.injEq, exists_eq_left', exists_eq_left, List.set_cons_zero, List.set_cons_succ, true_and, and_true, HO.lst.injEq, HO.tup.injEq, exists_and_left, exists_eq, exists_eq', Br.t, Br.f, Be.t, Be.f, List.cons.injEq, List.append_nil, scal, if_true, if_false, ite_true, ite_false, eq_self_iff_true, decide_true, decide_false, Bool.not_true, Bool.not_false, reduceIte, List.nil_append, List.cons_append, reduceCtorEq, false_and, exists_false, false_or, or_false, Int.reduceLT, rmd, rsq, rlu, rdp, Bool.true_or, Bool.false_or, Bool.or_false, Bool.or_true]
      refine ⟨dx, _, S2 _ _ ha, _, rfl, as, rfl, kindOf s, spOut (kindOf s) s.ht K, mem_out4 (by omega), dxs, fss, S2 _ _ has, ns, ?_⟩
      refine ⟨_, _, rfl, s, _, rfl, Nat.le_refl _, k1, hs.same S2, rfl, b0, b1, fun v H2 S3 r1 => ?_⟩
      have hl := al.len
      rw [List.length_take] at hl
      refine ⟨_, S3 _ _ hd, by rw [sizeLine_eq]; omega, Same.mut (Same.trans S S3) hD, ?_⟩
      rw [take_snoc hm]
      have hd2 := S3 _ _ hd
      exact All2.snoc (Rp.ts (ts_upd hd2) r1) (All2.imp (fun _ _ r => Rp.ts (ts_upd hd2) (Rp.same S3 r)) al)
    · rintro D H' hD ⟨xs, S, hd, al⟩
      rw [List.length_map, List.take_length] at al
      refine ⟨D, rfl, _, hd, fun q1 hq1 => q _ _ (Same.trans S1 (Same.trans S (Same.new hq1))) ⟨q1, xs, rfl, upd_same, All2.imp (fun _ _ r => Rp.same (Same.new hq1) r) al⟩⟩
  | _ => exact absurd hk (by first | (show ¬ (("Below" : Str) = "Rows"); decide +kernel) | (show ¬ (("Shares" : Str) = "Rows"); decide +kernel) | (show ¬ (("Orders" : Str) = "Rows"); decide +kernel) | (show ¬ (("Sets" : Str) = "Rows"); decide +kernel) | (show ¬ (("Pair" : Str) = "Rows"); decide +kernel))
end
end Law

-- RDX rmd, rsq, rlu, rdp, Bool.true_or, Bool.false_or, Bool.or_false, Bool.or_true
namespace Law
open PySem PySem.Spec PyProof.Rows L2 Sw
section
variable {P : Program} {w : World} {K : Fg} {mg : Str → Option Value} {base : Heap}
theorem ok_Pair_outcome_at_2 (T : Tx K mg w) (c_Shares_numbers : CalM P w K mg base 1 "Shares" "numbers" ["self"] (sp_Shares_numbers K)) (c_Pair_numbers : CalM P w K mg base 1 "Pair" "numbers" ["self"] (sp_Pair_numbers K)) (c_Shares_outcome : CalM P w K mg base 9 "Shares" "outcome" ["self", "number"] (sp_Shares_outcome K)) (c_Pair_outcome_1 : CalM P w K mg base 11 "Pair" "outcome" ["self", "number"] (sp_Pair_outcome_1 K)) (c_Below_numbers : CalM P w K mg base 1 "Below" "numbers" ["self"] (sp_Below_numbers K)) (c_Orders_outcome : CalM P w K mg base 7 "Orders" "outcome" ["self", "number"] (sp_Orders_outcome K)) (c_Rows_outcome_1 : CalM P w K mg base 11 "Rows" "outcome" ["self", "number"] (sp_Rows_outcome_1 K)) (c_Below_outcome : CalM P w K mg base 5 "Below" "outcome" ["self", "number"] (sp_Below_outcome K)) (c_Sets_outcome : CalM P w K mg base 8 "Sets" "outcome" ["self", "number"] (sp_Sets_outcome K)) (c_Rows_numbers : CalM P w K mg base 1 "Rows" "numbers" ["self"] (sp_Rows_numbers K)) (c_Orders_numbers : CalM P w K mg base 1 "Orders" "numbers" ["self"] (sp_Orders_numbers K)) (c_Sets_numbers : CalM P w K mg base 1 "Sets" "numbers" ["self"] (sp_Sets_numbers K))  : CalM P w K mg base 12 "Pair" "outcome_at" ["self", "number"] (sp_Pair_outcome_at_2 K) := by
  refine calM_mk (q := "Pair.outcome_at") T.F_Pair_outcome_at_2 T.cls_Pair T.M_Pair_outcome_at_2 sc_Pair_outcome_at_2 (len2 _) (fun _ _ _ _ _ _ us hl => match us, hl with | [_, _], _ => rfl) (fun cdv A outer s H vs Q E hr h => ?_)
  obtain ⟨v0, v1, rfl, h⟩ := h
  have hu := hu_of hr.r
  have D0 := ((Disp.cons c_Below_numbers (by decide) (Disp.cons c_Shares_numbers (by decide) (Disp.cons c_Orders_numbers (by decide) (Disp.cons c_Sets_numbers (by decide) (Disp.cons c_Pair_numbers (by decide) (Disp.cons c_Rows_numbers (by decide) Disp.nil)))))) : Disp P w K mg base (11) "numbers" _)
  have D1 := ((Disp.cons c_Below_outcome (by decide) (Disp.cons c_Shares_outcome (by decide) (Disp.cons c_Orders_outcome (by decide) (Disp.cons c_Sets_outcome (by decide) (Disp.cons c_Pair_outcome_1 (by decide) (Disp.cons c_Rows_outcome_1 (by decide) Disp.nil)))))) : Disp P w K mg base (11) "outcome" _)
  have D2 := ((Disp.cons c_Below_outcome (by decide) (Disp.cons c_Shares_outcome (by decide) (Disp.cons c_Orders_outcome (by decide) (Disp.cons c_Sets_outcome (by decide) (Disp.cons c_Pair_outcome_1 (by decide) (Disp.cons c_Rows_outcome_1 (by decide) Disp.nil)))))) : Disp P w K mg base (11) "outcome" _)
  refine ⟨_, (pss_cons (ps_asg (pe_callB call_divmodW (by rfl) T.n_divmod (by decide +kernel) (pa_cons (pv 1) (pa_cons (pe_mthD0 (K := K) rfl D0 hr (takes_of rfl rfl rfl rfl) (pe_fldC T.cls_Pair T.na_Pair_fast (pv 0))) pa_nil))) (pg_tupQ rfl (pgs_cons (pg_name (i := 2) sc_Pair_outcome_at_2.nd rfl (Or.inl rfl)) (pgs_cons (pg_name (i := 3) sc_Pair_outcome_at_2.nd rfl (Or.inl rfl)) pgs_nil)) (gname_len (gname_len (fun _ _ _ _ h => gnil_len h)))))
      (pss_one (ps_ret (pe_tup (pa_cons (pe_mthD (K := K) rfl D2 hr (takes_of rfl rfl rfl rfl) (pe_fldC T.cls_Pair T.na_Pair_slow (pv 0)) (pa_cons (pv 2) pa_nil)) (pa_cons (pe_mthD (K := K) rfl D1 hr (takes_of rfl rfl rfl rfl) (pe_fldC T.cls_Pair T.na_Pair_fast (pv 0)) (pa_cons (pv 3) pa_nil)) pa_nil)))))), ?_⟩
  obtain ⟨sh, z, hk, hh, hok, ho, rfl, z0, z1, q⟩ := h
  cases sh with
  | pair s t =>
    obtain ⟨a, dx, x, y, rfl, ha, hs, ht⟩ := ho
    have hh2 : 1 + max s.ht t.ht ≤ 2 := hh
    obtain ⟨as, dxs, fss, rfl, has, _, _, _, _, ns, _, _⟩ := id hs.any
    obtain ⟨at', dxt, fst, rfl, hat, _, _, nt0, _, nt, _, _⟩ := id ht.any
    obtain ⟨k1, k2, k3⟩ := hok
    obtain ⟨s0, s1⟩ := tot_ok k1
    obtain ⟨t0, t1⟩ := tot_ok k2
    have zz : z < s.tot * t.tot := z1
    have d0 : 0 ≤ z / t.tot := Int.ediv_nonneg z0 (by omega)
    have d1 : z / t.tot < s.tot := Int.ediv_lt_of_lt_mul (by omega) zz
    have m0 : 0 ≤ z % t.tot := Int.emod_nonneg _ (by omega)
    have m1 : z % t.tot < t.tot := Int.emod_lt_of_pos _ (by omega)
    simp only [and_assoc, rst, rs, re, ra, rq, rx, ro, rl, rl2, rsp, rz, rix, rln, rg, rd, ri, rv, rk, rdd, rwi, at0, at1, at2, at3, upd_at, List.getElem?_cons_zero, List.getElem?_cons_succ, Option.some.injEq, exists_eq_left', exists_eq_left, List.set_cons_zero, List.set_cons_succ, true_and, and_true, HO.lst.injEq, HO.tup.injEq, exists_and_left, exists_eq, exists_eq', Br.t, Br.f, Be.t, Be.f, List.cons.injEq, List.append_nil, scal, if_true, if_false, ite_true, ite_false, eq_self_iff_true, decide_true, decide_false, Bool.not_true, Bool.not_false, reduceIte, List.nil_append, List.cons_append, reduceCtorEq, false_and, exists_false, false_or, or_false, Int.reduceLT, rmd, rsq, rlu, rdp, Bool.true_or, Bool.false_or, Bool.or_false, Bool.or_true]
    refine ⟨dx, _, ha, _, rfl, at', rfl, kindOf t, spNum (kindOf t) K, mem_num6 t, dxt, fst, hat, nt0, ?_⟩
    refine ⟨_, rfl, t, rfl, ht, ?_⟩
    refine ⟨_, rfl, divm z0 (by omega) (by omega), fun p hp => ?_⟩
    have S := Same.new (o := .tup [V.int (z / t.tot), V.int (z % t.tot)]) hp
    refine ⟨dx, _, S _ _ ha, _, rfl, as, rfl, kindOf s, spOut (kindOf s) s.ht K, mem_out6 (by omega), dxs, fss, S _ _ has, ns, ?_⟩
    refine ⟨_, _, rfl, s, _, rfl, Nat.le_refl _, k1, hs.same S, rfl, d0, d1, fun v H1 S1 r1 => ?_⟩
    have S2 := Same.trans S S1
    refine ⟨dx, _, S2 _ _ ha, _, rfl, at', rfl, kindOf t, spOut (kindOf t) t.ht K, mem_out6 (by omega), dxt, fst, S2 _ _ hat, nt, ?_⟩
    refine ⟨_, _, rfl, t, _, rfl, Nat.le_refl _, k2, ht.same S2, rfl, m0, m1, fun u H2 S3 r2 => ?_⟩
    refine fun q1 hq1 => q _ _ (Same.trans S2 (Same.trans S3 (Same.new hq1))) ⟨q1, v, u, rfl, upd_same, Rp.same (Same.trans S3 (Same.new hq1)) r1, Rp.same (Same.new hq1) r2⟩
  | _ => exact absurd hk (by first | (show ¬ (("Below" : Str) = "Pair"); decide +kernel) | (show ¬ (("Shares" : Str) = "Pair"); decide +kernel) | (show ¬ (("Orders" : Str) = "Pair"); decide +kernel) | (show ¬ (("Sets" : Str) = "Pair"); decide +kernel) | (show ¬ (("Rows" : Str) = "Pair"); decide +kernel))
theorem ok_Rows_outcome_at_2 (T : Tx K mg w) (c_unmixed : Cal P w K mg base 4 "unmixed" ["number", "bases"] (sp_unmixed K)) (c_Pair_outcome_1 : CalM P w K mg base 11 "Pair" "outcome" ["self", "number"] (sp_Pair_outcome_1 K)) (c_Rows_outcome_1 : CalM P w K mg base 11 "Rows" "outcome" ["self", "number"] (sp_Rows_outcome_1 K)) (c_Orders_outcome : CalM P w K mg base 7 "Orders" "outcome" ["self", "number"] (sp_Orders_outcome K)) (c_Below_outcome : CalM P w K mg base 5 "Below" "outcome" ["self", "number"] (sp_Below_outcome K)) (c_Sets_outcome : CalM P w K mg base 8 "Sets" "outcome" ["self", "number"] (sp_Sets_outcome K)) (c_Shares_outcome : CalM P w K mg base 9 "Shares" "outcome" ["self", "number"] (sp_Shares_outcome K))  : CalM P w K mg base 12 "Rows" "outcome_at" ["self", "number"] (sp_Rows_outcome_at_2 K) := by
  refine calM_mk (q := "Rows.outcome_at") T.F_Rows_outcome_at_2 T.cls_Rows T.M_Rows_outcome_at_2 sc_Rows_outcome_at_2 (len2 _) (fun _ _ _ _ _ _ us hl => match us, hl with | [_, _], _ => rfl) (fun cdv A outer s H vs Q E hr h => ?_)
  obtain ⟨v0, v1, rfl, h⟩ := h
  have hu := hu_of hr.r
  have D0 := ((Disp.cons c_Below_outcome (by decide) (Disp.cons c_Shares_outcome (by decide) (Disp.cons c_Orders_outcome (by decide) (Disp.cons c_Sets_outcome (by decide) (Disp.cons c_Pair_outcome_1 (by decide) (Disp.cons c_Rows_outcome_1 (by decide) Disp.nil)))))) : Disp P w K mg base (11) "outcome" _)
  refine ⟨_, (pss_one (ps_ret (pe_callTy tup_q (by rfl) T.n_tuple (by decide +kernel) (pa_cons (pe_lc (own := [("part", 2)]) (g := (gName 2)) rfl sc_Rows_outcome_at_2.nd (pi_q (pe_cal c_unmixed hr (by decide) (passes_call (takes_of rfl rfl rfl rfl) fun _ _ _ _ h => h) rfl (pa_cons (pv 1) (pa_cons (pe_fldC T.cls_Rows T.na_Rows_bases (pv 0)) pa_nil)))) (blkOk_by (N := nm_Rows_outcome_at_2) (sc := defScope s_Rows_outcome_at_2) (by decide +kernel)) (fun _ _ _ _ _ => (pg_name (i := 2) sc_Rows_outcome_at_2.nd rfl (Or.inl rfl))) (fun _ _ _ _ _ => pts_nil) (fun _ _ _ _ _ => (pe_mthDP (K := K) rfl D0 hr passL (pe_fldC T.cls_Rows T.na_Rows_single (pv 0)) (pa_cons (pv 2) pa_nil)))) pa_nil)))), ?_⟩
  obtain ⟨sh, z, hk, hh, hok, ho, rfl, z0, z1, q⟩ := h
  cases sh with
  | rows s n =>
    obtain ⟨a, dx, x, bq, rfl, ha, hs, hb⟩ := ho
    have hh2 : 1 + s.ht ≤ 2 := hh
    obtain ⟨as, dxs, fss, rfl, has, _, _, _, _, ns, _, _⟩ := id hs.any
    obtain ⟨k1, k2, k3⟩ := hok
    obtain ⟨s0, s1⟩ := tot_ok k1
    simp only [and_assoc, rst, rs, re, ra, rq, rx, ro, rl, rl2, rsp, rz, rix, rln, rg, rd, ri, rv, rk, rdd, rwi, at0, at1, at2, at3, upd_at, List.getElem?_cons_zero, List.getElem?_cons_succ, Option.some.injEq, exists_eq_left', exists_eq_left, List.set_cons_zero, List.set_cons_succ, true_and, and_true, HO.lst.injEq, HO.tup.injEq, exists_and_left, exists_eq, exists_eq', Br.t, Br.f, Be.t, Be.f, List.cons.injEq, List.append_nil, scal, if_true, if_false, ite_true, ite_false, eq_self_iff_true, decide_true, decide_false, Bool.not_true, Bool.not_false, reduceIte, List.nil_append, List.cons_append, reduceCtorEq, false_and, exists_false, false_or, or_false, Int.reduceLT, rmd, rsq, rlu, rdp, Bool.true_or, Bool.false_or, Bool.or_false, Bool.or_true]
    refine ⟨dx, _, ha, _, rfl, ?_⟩
    refine ⟨_, _, rfl, bq, n, s.tot, z, rfl, hb, rfl, k2, s0, s1, k3, z0, z1, fun p H1 S1 h1 => ?_⟩
    have dok := dig_ok s0 n z
    have dl := dig_len (t := s.tot) n z
    refine ⟨p, rfl, _, h1, _, rfl, LC.seq (o := .lst ((dig s.tot n z).map V.int)) rfl (fun D i H' => ∃ xs, Same H1 H' ∧ H' D = some (.lst xs) ∧ All2 (Rp H' s) ((dig s.tot n z).take i) xs) (fun D hD => ⟨[], Same.new hD, upd_same, True.intro⟩) (fun D i H' _ _ ⟨_, S, _⟩ => S _ _ h1) ?_ ?_⟩
    · rintro D i x H' hD hx ⟨xs, S, hd, al⟩
      obtain ⟨m, hm, rfl⟩ := map_at hx
      obtain ⟨b0, b1⟩ := dok m (List.mem_of_getElem? hm)
      have S2 := Same.trans S1 S
      simp only [and_assoc, rst, rs, re, ra, rq, rx, ro, rl, rl2, rsp, rz, rix, rln, rg, rd, ri, rv, rk, rdd, rwi, at0, at1, at2, at3, upd_at, List.getElem?_cons_zero, List.getElem?_cons_succ, Option.some.injEq, exists_eq_left', exists_eq_left, List.set_cons_zero, List.set_cons_succ, true_and, and_true, HO.lst.injEq, HO.tup.injEq, exists_and_left, exists_eq, exists_eq', Br.t, Br.f, Be.t, Be.f, List.cons.injEq, List.append_nil, scal, if_true, if_false, ite_true, ite_false, eq_self_iff_true, decide_true, decide_false, Bool.not_true, Bool.not_false, reduceIte, List.nil_append, List.cons_append, reduceCtorEq, false_and, exists_false, false_or, or_false, Int.reduceLT, rmd, rsq, rlu, rdp, Bool.true_or, Bool.false_or, Bool.or_false, Bool.or_true]
      refine ⟨dx, _, S2 _ _ ha, _, rfl, as, rfl, kindOf s, spOut (kindOf s) s.ht K, mem_out6 (by omega), dxs, fss, S2 _ _ has, ns, ?_⟩
      refine ⟨_, _, rfl, s, _, rfl, Nat.le_refl _, k1, hs.same S2, rfl, b0, b1, fun v H2 S3 r1 => ?_⟩
      have hl := al.len
      rw [List.length_take] at hl
      refine ⟨_, S3 _ _ hd, by rw [sizeLine_eq]; omega, Same.mut (Same.trans S S3) hD, ?_⟩
      rw [take_snoc hm]
      have hd2 := S3 _ _ hd
      exact All2.snoc (Rp.ts (ts_upd hd2) r1) (All2.imp (fun _ _ r => Rp.ts (ts_upd hd2) (Rp.same S3 r)) al)
    · rintro D H' hD ⟨xs, S, hd, al⟩
      rw [List.length_map, List.take_length] at al
      refine ⟨D, rfl, _, hd, fun q1 hq1 => q _ _ (Same.trans S1 (Same.trans S (Same.new hq1))) ⟨q1, xs, rfl, upd_same, All2.imp (fun _ _ r => Rp.same (Same.new hq1) r) al⟩⟩
  | _ => exact absurd hk (by first | (show ¬ (("Below" : Str) = "Rows"); decide +kernel) | (show ¬ (("Shares" : Str) = "Rows"); decide +kernel) | (show ¬ (("Orders" : Str) = "Rows"); decide +kernel) | (show ¬ (("Sets" : Str) = "Rows"); decide +kernel) | (show ¬ (("Pair" : Str) = "Rows"); decide +kernel))
theorem ok_Pair_outcome_at_3 (T : Tx K mg w) (c_Pair_numbers : CalM P w K mg base 1 "Pair" "numbers" ["self"] (sp_Pair_numbers K)) (c_Pair_outcome_1 : CalM P w K mg base 11 "Pair" "outcome" ["self", "number"] (sp_Pair_outcome_1 K)) (c_Shares_numbers : CalM P w K mg base 1 "Shares" "numbers" ["self"] (sp_Shares_numbers K)) (c_Orders_outcome : CalM P w K mg base 7 "Orders" "outcome" ["self", "number"] (sp_Orders_outcome K)) (c_Below_outcome : CalM P w K mg base 5 "Below" "outcome" ["self", "number"] (sp_Below_outcome K)) (c_Pair_outcome_2 : CalM P w K mg base 13 "Pair" "outcome" ["self", "number"] (sp_Pair_outcome_2 K)) (c_Sets_numbers : CalM P w K mg base 1 "Sets" "numbers" ["self"] (sp_Sets_numbers K)) (c_Sets_outcome : CalM P w K mg base 8 "Sets" "outcome" ["self", "number"] (sp_Sets_outcome K)) (c_Rows_numbers : CalM P w K mg base 1 "Rows" "numbers" ["self"] (sp_Rows_numbers K)) (c_Orders_numbers : CalM P w K mg base 1 "Orders" "numbers" ["self"] (sp_Orders_numbers K)) (c_Rows_outcome_1 : CalM P w K mg base 11 "Rows" "outcome" ["self", "number"] (sp_Rows_outcome_1 K)) (c_Rows_outcome_2 : CalM P w K mg base 13 "Rows" "outcome" ["self", "number"] (sp_Rows_outcome_2 K)) (c_Below_numbers : CalM P w K mg base 1 "Below" "numbers" ["self"] (sp_Below_numbers K)) (c_Shares_outcome : CalM P w K mg base 9 "Shares" "outcome" ["self", "number"] (sp_Shares_outcome K))  : CalM P w K mg base 14 "Pair" "outcome_at" ["self", "number"] (sp_Pair_outcome_at_3 K) := by
  refine calM_mk (q := "Pair.outcome_at") T.F_Pair_outcome_at_3 T.cls_Pair T.M_Pair_outcome_at_3 sc_Pair_outcome_at_3 (len2 _) (fun _ _ _ _ _ _ us hl => match us, hl with | [_, _], _ => rfl) (fun cdv A outer s H vs Q E hr h => ?_)
  obtain ⟨v0, v1, rfl, h⟩ := h
  have hu := hu_of hr.r
  have D0 := ((Disp.cons c_Below_numbers (by decide) (Disp.cons c_Shares_numbers (by decide) (Disp.cons c_Orders_numbers (by decide) (Disp.cons c_Sets_numbers (by decide) (Disp.cons c_Pair_numbers (by decide) (Disp.cons c_Rows_numbers (by decide) Disp.nil)))))) : Disp P w K mg base (13) "numbers" _)
  have D1 := ((Disp.cons c_Below_outcome (by decide) (Disp.cons c_Shares_outcome (by decide) (Disp.cons c_Orders_outcome (by decide) (Disp.cons c_Sets_outcome (by decide) (Disp.cons c_Pair_outcome_1 (by decide) (Disp.cons c_Rows_outcome_1 (by decide) (Disp.cons c_Pair_outcome_2 (by decide) (Disp.cons c_Rows_outcome_2 (by decide) Disp.nil)))))))) : Disp P w K mg base (13) "outcome" _)
  have D2 := ((Disp.cons c_Below_outcome (by decide) (Disp.cons c_Shares_outcome (by decide) (Disp.cons c_Orders_outcome (by decide) (Disp.cons c_Sets_outcome (by decide) (Disp.cons c_Pair_outcome_1 (by decide) (Disp.cons c_Rows_outcome_1 (by decide) (Disp.cons c_Pair_outcome_2 (by decide) (Disp.cons c_Rows_outcome_2 (by decide) Disp.nil)))))))) : Disp P w K mg base (13) "outcome" _)
  refine ⟨_, (pss_cons (ps_asg (pe_callB call_divmodW (by rfl) T.n_divmod (by decide +kernel) (pa_cons (pv 1) (pa_cons (pe_mthD0 (K := K) rfl D0 hr takes0 (pe_fldC T.cls_Pair T.na_Pair_fast (pv 0))) pa_nil))) (pg_tupQ rfl (pgs_cons (pg_name (i := 2) sc_Pair_outcome_at_3.nd rfl (Or.inl rfl)) (pgs_cons (pg_name (i := 3) sc_Pair_outcome_at_3.nd rfl (Or.inl rfl)) pgs_nil)) (gname_len (gname_len (fun _ _ _ _ h => gnil_len h)))))
      (pss_one (ps_ret (pe_tup (pa_cons (pe_mthD (K := K) rfl D2 hr takes0 (pe_fldC T.cls_Pair T.na_Pair_slow (pv 0)) (pa_cons (pv 2) pa_nil)) (pa_cons (pe_mthD (K := K) rfl D1 hr takes0 (pe_fldC T.cls_Pair T.na_Pair_fast (pv 0)) (pa_cons (pv 3) pa_nil)) pa_nil)))))), ?_⟩
  obtain ⟨sh, z, hk, hh, hok, ho, rfl, z0, z1, q⟩ := h
  cases sh with
  | pair s t =>
    obtain ⟨a, dx, x, y, rfl, ha, hs, ht⟩ := ho
    have hh2 : 1 + max s.ht t.ht ≤ 3 := hh
    obtain ⟨as, dxs, fss, rfl, has, _, _, _, _, ns, _, _⟩ := id hs.any
    obtain ⟨at', dxt, fst, rfl, hat, _, _, nt0, _, nt, _, _⟩ := id ht.any
    obtain ⟨k1, k2, k3⟩ := hok
    obtain ⟨s0, s1⟩ := tot_ok k1
    obtain ⟨t0, t1⟩ := tot_ok k2
    have zz : z < s.tot * t.tot := z1
    have d0 : 0 ≤ z / t.tot := Int.ediv_nonneg z0 (by omega)
    have d1 : z / t.tot < s.tot := Int.ediv_lt_of_lt_mul (by omega) zz
    have m0 : 0 ≤ z % t.tot := Int.emod_nonneg _ (by omega)
    have m1 : z % t.tot < t.tot := Int.emod_lt_of_pos _ (by omega)
    simp only [and_assoc, rst, rs, re, ra, rq, rx, ro, rl, rl2, rsp, rz, rix, rln, rg, rd, ri, rv, rk, rdd, rwi, at0, at1, at2, at3, upd_at, List.getElem?_cons_zero, List.getElem?_cons_succ, Option.some.injEq, exists_eq_left', exists_eq_left, List.set_cons_zero, List.set_cons_succ, true_and, and_true, HO.lst.injEq, HO.tup.injEq, exists_and_left, exists_eq, exists_eq', Br.t, Br.f, Be.t, Be.f, List.cons.injEq, List.append_nil, scal, if_true, if_false, ite_true, ite_false, eq_self_iff_true, decide_true, decide_false, Bool.not_true, Bool.not_false, reduceIte, List.nil_append, List.cons_append, reduceCtorEq, false_and, exists_false, false_or, or_false, Int.reduceLT, rmd, rsq, rlu, rdp, Bool.true_or, Bool.false_or, Bool.or_false, Bool.or_true]
    refine ⟨dx, _, ha, _, rfl, at', rfl, kindOf t, spNum (kindOf t) K, mem_num6 t, dxt, fst, hat, nt0, ?_⟩
    refine ⟨_, rfl, t, rfl, ht, ?_⟩
    refine ⟨_, rfl, divm z0 (by omega) (by omega), fun p hp => ?_⟩
    have S := Same.new (o := .tup [V.int (z / t.tot), V.int (z % t.tot)]) hp
    refine ⟨dx, _, S _ _ ha, _, rfl, as, rfl, kindOf s, spOut (kindOf s) s.ht K, mem_out8 (by omega), dxs, fss, S _ _ has, ns, ?_⟩
    refine ⟨_, _, rfl, s, _, rfl, Nat.le_refl _, k1, hs.same S, rfl, d0, d1, fun v H1 S1 r1 => ?_⟩
    have S2 := Same.trans S S1
    refine ⟨dx, _, S2 _ _ ha, _, rfl, at', rfl, kindOf t, spOut (kindOf t) t.ht K, mem_out8 (by omega), dxt, fst, S2 _ _ hat, nt, ?_⟩
    refine ⟨_, _, rfl, t, _, rfl, Nat.le_refl _, k2, ht.same S2, rfl, m0, m1, fun u H2 S3 r2 => ?_⟩
    refine fun q1 hq1 => q _ _ (Same.trans S2 (Same.trans S3 (Same.new hq1))) ⟨q1, v, u, rfl, upd_same, Rp.same (Same.trans S3 (Same.new hq1)) r1, Rp.same (Same.new hq1) r2⟩
  | _ => exact absurd hk (by first | (show ¬ (("Below" : Str) = "Pair"); decide +kernel) | (show ¬ (("Shares" : Str) = "Pair"); decide +kernel) | (show ¬ (("Orders" : Str) = "Pair"); decide +kernel) | (show ¬ (("Sets" : Str) = "Pair"); decide +kernel) | (show ¬ (("Rows" : Str) = "Pair"); decide +kernel))
theorem ok_Rows_outcome_at_3 (T : Tx K mg w) (c_unmixed : Cal P w K mg base 4 "unmixed" ["number", "bases"] (sp_unmixed K)) (c_Rows_outcome_2 : CalM P w K mg base 13 "Rows" "outcome" ["self", "number"] (sp_Rows_outcome_2 K)) (c_Pair_outcome_1 : CalM P w K mg base 11 "Pair" "outcome" ["self", "number"] (sp_Pair_outcome_1 K)) (c_Rows_outcome_1 : CalM P w K mg base 11 "Rows" "outcome" ["self", "number"] (sp_Rows_outcome_1 K)) (c_Orders_outcome : CalM P w K mg base 7 "Orders" "outcome" ["self", "number"] (sp_Orders_outcome K)) (c_Below_outcome : CalM P w K mg base 5 "Below" "outcome" ["self", "number"] (sp_Below_outcome K)) (c_Sets_outcome : CalM P w K mg base 8 "Sets" "outcome" ["self", "number"] (sp_Sets_outcome K)) (c_Pair_outcome_2 : CalM P w K mg base 13 "Pair" "outcome" ["self", "number"] (sp_Pair_outcome_2 K)) (c_Shares_outcome : CalM P w K mg base 9 "Shares" "outcome" ["self", "number"] (sp_Shares_outcome K))  : CalM P w K mg base 14 "Rows" "outcome_at" ["self", "number"] (sp_Rows_outcome_at_3 K) := by
  refine calM_mk (q := "Rows.outcome_at") T.F_Rows_outcome_at_3 T.cls_Rows T.M_Rows_outcome_at_3 sc_Rows_outcome_at_3 (len2 _) (fun _ _ _ _ _ _ us hl => match us, hl with | [_, _], _ => rfl) (fun cdv A outer s H vs Q E hr h => ?_)
  obtain ⟨v0, v1, rfl, h⟩ := h
  have hu := hu_of hr.r
  have D0 := ((Disp.cons c_Below_outcome (by decide) (Disp.cons c_Shares_outcome (by decide) (Disp.cons c_Orders_outcome (by decide) (Disp.cons c_Sets_outcome (by decide) (Disp.cons c_Pair_outcome_1 (by decide) (Disp.cons c_Rows_outcome_1 (by decide) (Disp.cons c_Pair_outcome_2 (by decide) (Disp.cons c_Rows_outcome_2 (by decide) Disp.nil)))))))) : Disp P w K mg base (13) "outcome" _)
  refine ⟨_, (pss_one (ps_ret (pe_callTy tup_q (by rfl) T.n_tuple (by decide +kernel) (pa_cons (pe_lc (own := [("part", 2)]) (g := (gName 2)) rfl sc_Rows_outcome_at_3.nd (pi_q (pe_cal c_unmixed hr (by decide) passL rfl (pa_cons (pv 1) (pa_cons (pe_fldC T.cls_Rows T.na_Rows_bases (pv 0)) pa_nil)))) (blkOk_by (N := nm_Rows_outcome_at_3) (sc := defScope s_Rows_outcome_at_3) (by decide +kernel)) (fun _ _ _ _ _ => (pg_name (i := 2) sc_Rows_outcome_at_3.nd rfl (Or.inl rfl))) (fun _ _ _ _ _ => pts_nil) (fun _ _ _ _ _ => (pe_mthDP (K := K) rfl D0 hr passL (pe_fldC T.cls_Rows T.na_Rows_single (pv 0)) (pa_cons (pv 2) pa_nil)))) pa_nil)))), ?_⟩
  obtain ⟨sh, z, hk, hh, hok, ho, rfl, z0, z1, q⟩ := h
  cases sh with
  | rows s n =>
    obtain ⟨a, dx, x, bq, rfl, ha, hs, hb⟩ := ho
    have hh2 : 1 + s.ht ≤ 3 := hh
    obtain ⟨as, dxs, fss, rfl, has, _, _, _, _, ns, _, _⟩ := id hs.any
    obtain ⟨k1, k2, k3⟩ := hok
    obtain ⟨s0, s1⟩ := tot_ok k1
    simp only [and_assoc, rst, rs, re, ra, rq, rx, ro, rl, rl2, rsp, rz, rix, rln, rg, rd, ri, rv, rk, rdd, rwi, at0, at1, at2, at3, upd_at, List.getElem?_cons_zero, List.getElem?_cons_succ, Option.some.injEq, exists_eq_left', exists_eq_left, List.set_cons_zero, List.set_cons_succ, true_and, and_true, HO.lst.injEq, HO.tup.injEq, exists_and_left, exists_eq, exists_eq', Br.t, Br.f, Be.t, Be.f, List.cons.injEq, List.append_nil, scal, if_true, if_false, ite_true, ite_false, eq_self_iff_true, decide_true, decide_false, Bool.not_true, Bool.not_false, reduceIte, List.nil_append, List.cons_append, reduceCtorEq, false_and, exists_false, false_or, or_false, Int.reduceLT, rmd, rsq, rlu, rdp, Bool.true_or, Bool.false_or, Bool.or_false, Bool.or_true]
    refine ⟨dx, _, ha, _, rfl, ?_⟩
    refine ⟨_, _, rfl, bq, n, s.tot, z, rfl, hb, rfl, k2, s0, s1, k3, z0, z1, fun p H1 S1 h1 => ?_⟩
    have dok := dig_ok s0 n z
    have dl := dig_len (t := s.tot) n z
    refine ⟨p, rfl, _, h1, _, rfl, LC.seq (o := .lst ((dig s.tot n z).map V.int)) rfl (fun D i H' => ∃ xs, Same H1 H' ∧ H' D = some (.lst xs) ∧ All2 (Rp H' s) ((dig s.tot n z).take i) xs) (fun D hD => ⟨[], Same.new hD, upd_same, True.intro⟩) (fun D i H' _ _ ⟨_, S, _⟩ => S _ _ h1) ?_ ?_⟩
    · rintro D i x H' hD hx ⟨xs, S, hd, al⟩
      obtain ⟨m, hm, rfl⟩ := map_at hx
      obtain ⟨b0, b1⟩ := dok m (List.mem_of_getElem? hm)
      have S2 := Same.trans S1 S
      simp only [and_assoc, rst, rs, re, ra, rq, rx, ro, rl, rl2, rsp, rz, rix, rln, rg, rd, ri, rv, rk, rdd, rwi, at0, at1, at2, at3, upd_at, List.getElem?_cons_zero, List.getElem?_cons_succ, Option.some.injEq, exists_eq_left', exists_eq_left, List.set_cons_zero, List.set_cons_succ, true_and, and_true, HO.lst.injEq, HO.tup.injEq, exists_and_left, exists_eq, exists_eq', Br.t, Br.f, Be.t, Be.f, List.cons.injEq, List.append_nil, scal, if_true, if_false, ite_true, ite_false, eq_self_iff_true, decide_true, decide_false, Bool.not_true, Bool.not_false, reduceIte, List.nil_append, List.cons_append, reduceCtorEq, false_and, exists_false, false_or, or_false, Int.reduceLT, rmd, rsq, rlu, rdp, Bool.true_or, Bool.false_or, Bool.or_false, Bool.or_true]
      refine ⟨dx, _, S2 _ _ ha, _, rfl, as, rfl, kindOf s, spOut (kindOf s) s.ht K, mem_out8 (by omega), dxs, fss, S2 _ _ has, ns, ?_⟩
      refine ⟨_, _, rfl, s, _, rfl, Nat.le_refl _, k1, hs.same S2, rfl, b0, b1, fun v H2 S3 r1 => ?_⟩
      have hl := al.len
      rw [List.length_take] at hl
      refine ⟨_, S3 _ _ hd, by rw [sizeLine_eq]; omega, Same.mut (Same.trans S S3) hD, ?_⟩
      rw [take_snoc hm]
      have hd2 := S3 _ _ hd
      exact All2.snoc (Rp.ts (ts_upd hd2) r1) (All2.imp (fun _ _ r => Rp.ts (ts_upd hd2) (Rp.same S3 r)) al)
    · rintro D H' hD ⟨xs, S, hd, al⟩
      rw [List.length_map, List.take_length] at al
      refine ⟨D, rfl, _, hd, fun q1 hq1 => q _ _ (Same.trans S1 (Same.trans S (Same.new hq1))) ⟨q1, xs, rfl, upd_same, All2.imp (fun _ _ r => Rp.same (Same.new hq1) r) al⟩⟩
  | _ => exact absurd hk (by first | (show ¬ (("Below" : Str) = "Rows"); decide +kernel) | (show ¬ (("Shares" : Str) = "Rows"); decide +kernel) | (show ¬ (("Orders" : Str) = "Rows"); decide +kernel) | (show ¬ (("Sets" : Str) = "Rows"); decide +kernel) | (show ¬ (("Pair" : Str) = "Rows"); decide +kernel))
theorem isShape (T : Tx K mg w) {sh : Sh} : Cls K (He.ga K (kindOf sh)) ∧ InsC K (He.ga K (kindOf sh)) ∧ PySem.W.kitOne K (.ref (He.ga K (kindOf sh))) (.ref (He.ga K "Shape")) = some true := by
  cases sh with
  | bound b => exact ⟨T.cls_Below, T.ins_Below, T.kit_Below_Shape⟩
  | shares b => exact ⟨T.cls_Shares, T.ins_Shares, T.kit_Shares_Shape⟩
  | orders b => exact ⟨T.cls_Orders, T.ins_Orders, T.kit_Orders_Shape⟩
  | sets b c => exact ⟨T.cls_Sets, T.ins_Sets, T.kit_Sets_Shape⟩
  | pair b c => exact ⟨T.cls_Pair, T.ins_Pair, T.kit_Pair_Shape⟩
  | rows b c => exact ⟨T.cls_Rows, T.ins_Rows, T.kit_Rows_Shape⟩
theorem away_same {a : Addr} {H : Hp} : Same (away a H) H := fun b o e => by
  unfold away at e
  split at e
  · cases e
  · exact e
theorem away_upd {a : Addr} {H : Hp} {o : HO} : Same (away a H) (upd H a o) := fun b u e => by
  unfold away at e
  split at e
  · cases e
  · rename_i n
    rw [upd_ne n]
    exact e
theorem flat_rep (v : V) : ∀ n : Nat, (List.replicate n [v]).flatten = List.replicate n v
  | 0 => rfl
  | n + 1 => by
    rw [List.replicate_succ, List.flatten_cons, flat_rep v n, List.replicate_succ]
    rfl
theorem away_ne {a b : Addr} {H : Hp} {o : HO} (h : away a H b = some o) : b ≠ a := fun e => by
  unfold away at h
  rw [if_pos e] at h
  cases h
theorem mul_ok64 {i j : Int} (h0 : 1 ≤ i) (h1 : i ≤ 2 ^ 64) (h2 : 1 ≤ j) (h3 : j ≤ 2 ^ 64) : Sw.MulOk i j := .inr (wide_mul (a := 100) (b := 100) (by omega) (by omega) (by decide) (by decide) (by decide))
theorem wo_mono {p : Addr} {H H' : Hp} (s : Same H H') : Same (wo p H) (wo p H') := fun a o e => by
  unfold wo at e ⊢
  split at e
  · cases e
  · rename_i n
    rw [if_neg n]
    exact s _ _ e
theorem ok_need_shape (T : Tx K mg w) (c_Sets_height : CalM P w K mg base 1 "Sets" "height" ["self"] (sp_Sets_height K)) (c_Shares_height : CalM P w K mg base 1 "Shares" "height" ["self"] (sp_Shares_height K)) (c_Pair_height : CalM P w K mg base 1 "Pair" "height" ["self"] (sp_Pair_height K)) (c_Orders_height : CalM P w K mg base 1 "Orders" "height" ["self"] (sp_Orders_height K)) (c_Rows_height : CalM P w K mg base 1 "Rows" "height" ["self"] (sp_Rows_height K)) (c_Below_height : CalM P w K mg base 1 "Below" "height" ["self"] (sp_Below_height K)) (c_NoShape : Exn P w K mg base "NoShape" "found") : Cal P w K mg base 4 "need_shape" ["thing"] (sp_need_shape K) := by
  refine cal_mk T.F_need_shape T.g_need_shape sc_need_shape (len1 _) (fun _ _ _ _ _ _ us hl => match us, hl with | [_], _ => rfl) (fun cdv A outer s H vs Q E hr h => ?_)
  obtain ⟨v0, rfl, h⟩ := h
  have hu := hu_of hr.r
  have D0 := ((Disp.cons c_Below_height (by decide) (Disp.cons c_Shares_height (by decide) (Disp.cons c_Orders_height (by decide) (Disp.cons c_Sets_height (by decide) (Disp.cons c_Pair_height (by decide) (Disp.cons c_Rows_height (by decide) Disp.nil)))))) : Disp P w K mg base (3) "height" _)
  refine ⟨_, (pss_cons (ps_if (pt_not (pt_val (pe_callB call_isi (by rfl) T.n_isinstance (by decide +kernel) (pa_cons (pv 0) (pa_cons (pe_glob (v := .ref (He.ga K "Shape")) rfl T.g_Shape rfl) pa_nil))))) (pss_one (ps_rs1 c_NoShape rfl (takes_of rfl rfl rfl rfl) hr.r (by decide) rfl (pa_cons (pv 0) pa_nil))) pss_nil)
      (pss_cons (ps_if (pt_cmpR op_ge (pe_mthD0 (K := K) rfl D0 hr (takes_of rfl rfl rfl rfl) (pv 0)) (pe_gint rfl T.k_MOST_HEIGHT) (nomark _)) (pss_one (ps_rs1 c_NoShape rfl (takes_of rfl rfl rfl rfl) hr.r (by decide) rfl (pa_cons (pv 0) pa_nil))) pss_nil)
      (pss_one (ps_ret (pv 0))))), ?_⟩
  obtain ⟨sh, ho, hh, q⟩ := h
  obtain ⟨a, dx, fs, rfl, ha, hw, ht, n1, n2, n3, n4, n5⟩ := id ho.any
  obtain ⟨c1, c2, c3⟩ := isShape T (sh := sh)
  simp only [and_assoc, rst, rs, re, ra, rq, rx, ro, rl, rl2, rsp, rz, rix, rln, rg, rd, ri, rv, rk, rdd, rwi, at0, at1, at2, at3, upd_at, List.getElem?_cons_zero, List.getElem?_cons_succ, Option.some.injEq, exists_eq_left', exists_eq_left, List.set_cons_zero, List.set_cons_succ, true_and, and_true, HO.lst.injEq, HO.tup.injEq, exists_and_left, exists_eq, exists_eq', Br.t, Br.f, Be.t, Be.f, List.cons.injEq, List.append_nil, scal, if_true, if_false, ite_true, ite_false, eq_self_iff_true, decide_true, decide_false, Bool.not_true, Bool.not_false, reduceIte, List.nil_append, List.cons_append, reduceCtorEq, false_and, exists_false, false_or, or_false, Int.reduceLT, rmd, rsq, rlu, rdp, Bool.true_or, Bool.false_or, Bool.or_false, Bool.or_true]
  refine ⟨_, _, _, _, true, rfl, .own _, tyX_ins ha c1 c2, c3, ?_⟩
  simp only [and_assoc, rst, rs, re, ra, rq, rx, ro, rl, rl2, rsp, rz, rix, rln, rg, rd, ri, rv, rk, rdd, rwi, at0, at1, at2, at3, upd_at, List.getElem?_cons_zero, List.getElem?_cons_succ, Option.some.injEq, exists_eq_left', exists_eq_left, List.set_cons_zero, List.set_cons_succ, true_and, and_true, HO.lst.injEq, HO.tup.injEq, exists_and_left, exists_eq, exists_eq', Br.t, Br.f, Be.t, Be.f, List.cons.injEq, List.append_nil, scal, if_true, if_false, ite_true, ite_false, eq_self_iff_true, decide_true, decide_false, Bool.not_true, Bool.not_false, reduceIte, List.nil_append, List.cons_append, reduceCtorEq, false_and, exists_false, false_or, or_false, Int.reduceLT, rmd, rsq, rlu, rdp, Bool.true_or, Bool.false_or, Bool.or_false, Bool.or_true]
  refine ⟨kindOf sh, spHt (kindOf sh) K, mem_ht6 sh, dx, fs, ha, n2, ?_⟩
  refine ⟨_, rfl, sh, rfl, ho, ?_⟩
  refine ⟨_, rfl, Br.d (fun c => absurd c (by omega)) fun c => ?_⟩
  simp only [and_assoc, rst, rs, re, ra, rq, rx, ro, rl, rl2, rsp, rz, rix, rln, rg, rd, ri, rv, rk, rdd, rwi, at0, at1, at2, at3, upd_at, List.getElem?_cons_zero, List.getElem?_cons_succ, Option.some.injEq, exists_eq_left', exists_eq_left, List.set_cons_zero, List.set_cons_succ, true_and, and_true, HO.lst.injEq, HO.tup.injEq, exists_and_left, exists_eq, exists_eq', Br.t, Br.f, Be.t, Be.f, List.cons.injEq, List.append_nil, scal, if_true, if_false, ite_true, ite_false, eq_self_iff_true, decide_true, decide_false, Bool.not_true, Bool.not_false, reduceIte, List.nil_append, List.cons_append, reduceCtorEq, false_and, exists_false, false_or, or_false, Int.reduceLT, rmd, rsq, rlu, rdp, Bool.true_or, Bool.false_or, Bool.or_false, Bool.or_true]
  exact q
theorem ok_Below_init (T : Tx K mg w) (c_is_whole : Cal P w K mg base 1 "is_whole" ["thing"] (sp_is_whole K)) (c_sinit_Below : CalM P w K mg base 4 "Shape" "__init__" ["self", "whole", "tallness"] (sp_sinit_Below K)) (c_NoNumber : Exn P w K mg base "NoNumber" "found") : CalM P w K mg base 6 "Below" "__init__" ["self", "bound"] (sp_Below_init K) := by
  refine calM_mk (q := "Below.__init__") T.F_Below_init T.cls_Below T.M_Below_init sc_Below_init (len2 _) (fun _ _ _ _ _ _ us hl => match us, hl with | [_, _], _ => rfl) (fun cdv A outer s H vs Q E hr h => ?_)
  obtain ⟨v0, v1, rfl, h⟩ := h
  have hu := hu_of hr.r
  refine ⟨_, (pss_cons (ps_if (PW.pt (pw_or (pt_not (pt_val (pe_cal c_is_whole hr (by decide) (passes_call (takes_of rfl rfl rfl rfl) fun _ _ _ _ h => h) rfl (pa_cons (pv 1) pa_nil)))) (pw_or1 (pt_cmpR op_lt (pv 1) pe_int (nomark _))))) (pss_one (ps_rs1 c_NoNumber rfl (takes_of rfl rfl rfl rfl) hr.r (by decide) rfl (pa_cons (pv 1) pa_nil))) pss_nil)
      (pss_one (ps_expr (pe_clsM c_sinit_Below T.cf_Shape_init hr (by decide) (takes_of rfl rfl rfl rfl) rfl T.g_Shape (pa_cons (pv 0) (pa_cons (pv 1) (pa_cons pe_int pa_nil))))))), ?_⟩
  obtain ⟨a, t, ⟨rfl, dx, ha⟩, rfl, hok, q⟩ := h
  simp only [and_assoc, rst, rs, re, ra, rq, rx, ro, rl, rl2, rsp, rz, rix, rln, rg, rd, ri, rv, rk, rdd, rwi, at0, at1, at2, at3, upd_at, List.getElem?_cons_zero, List.getElem?_cons_succ, Option.some.injEq, exists_eq_left', exists_eq_left, List.set_cons_zero, List.set_cons_succ, true_and, and_true, HO.lst.injEq, HO.tup.injEq, exists_and_left, exists_eq, exists_eq', Br.t, Br.f, Be.t, Be.f, List.cons.injEq, List.append_nil, scal, if_true, if_false, ite_true, ite_false, eq_self_iff_true, decide_true, decide_false, Bool.not_true, Bool.not_false, reduceIte, List.nil_append, List.cons_append, reduceCtorEq, false_and, exists_false, false_or, or_false, Int.reduceLT, rmd, rsq, rlu, rdp, Bool.true_or, Bool.false_or, Bool.or_false, Bool.or_true]
  refine ⟨_, rfl, ⟨_, rfl⟩, ?_⟩
  simp only [and_assoc, rst, rs, re, ra, rq, rx, ro, rl, rl2, rsp, rz, rix, rln, rg, rd, ri, rv, rk, rdd, rwi, at0, at1, at2, at3, upd_at, List.getElem?_cons_zero, List.getElem?_cons_succ, Option.some.injEq, exists_eq_left', exists_eq_left, List.set_cons_zero, List.set_cons_succ, true_and, and_true, HO.lst.injEq, HO.tup.injEq, exists_and_left, exists_eq, exists_eq', Br.t, Br.f, Be.t, Be.f, List.cons.injEq, List.append_nil, scal, if_true, if_false, ite_true, ite_false, eq_self_iff_true, decide_true, decide_false, Bool.not_true, Bool.not_false, reduceIte, List.nil_append, List.cons_append, reduceCtorEq, false_and, exists_false, false_or, or_false, Int.reduceLT, rmd, rsq, rlu, rdp, Bool.true_or, Bool.false_or, Bool.or_false, Bool.or_true, show whole (.int t) = true from rfl]
  refine Br.d (fun c => absurd c (by have := hok.1; omega)) fun c => ?_
  simp only [and_assoc, rst, rs, re, ra, rq, rx, ro, rl, rl2, rsp, rz, rix, rln, rg, rd, ri, rv, rk, rdd, rwi, at0, at1, at2, at3, upd_at, List.getElem?_cons_zero, List.getElem?_cons_succ, Option.some.injEq, exists_eq_left', exists_eq_left, List.set_cons_zero, List.set_cons_succ, true_and, and_true, HO.lst.injEq, HO.tup.injEq, exists_and_left, exists_eq, exists_eq', Br.t, Br.f, Be.t, Be.f, List.cons.injEq, List.append_nil, scal, if_true, if_false, ite_true, ite_false, eq_self_iff_true, decide_true, decide_false, Bool.not_true, Bool.not_false, reduceIte, List.nil_append, List.cons_append, reduceCtorEq, false_and, exists_false, false_or, or_false, Int.reduceLT, rmd, rsq, rlu, rdp, Bool.true_or, Bool.false_or, Bool.or_false, Bool.or_true]
  refine ⟨_, _, _, rfl, a, dx, [], t, 0, rfl, ha, by simp, rfl, rfl, hok.2, ?_⟩
  exact q _ (fun b o n e => by rw [upd_ne n]; exact e) ⟨a, dx, rfl, upd_same⟩
theorem ok_Shares_init (T : Tx K mg w) (c_shares_many : Cal P w K mg base 5 "shares_many" ["shares"] (sp_shares_many K)) (c_sinit_Shares : CalM P w K mg base 4 "Shape" "__init__" ["self", "whole", "tallness"] (sp_sinit_Shares K))  : CalM P w K mg base 6 "Shares" "__init__" ["self", "shares"] (sp_Shares_init K) := by
  refine calM_mk (q := "Shares.__init__") T.F_Shares_init T.cls_Shares T.M_Shares_init sc_Shares_init (len2 _) (fun _ _ _ _ _ _ us hl => match us, hl with | [_, _], _ => rfl) (fun cdv A outer s H vs Q E hr h => ?_)
  obtain ⟨v0, v1, rfl, h⟩ := h
  have hu := hu_of hr.r
  refine ⟨_, (pss_cons (ps_expr (pe_clsM c_sinit_Shares T.cf_Shape_init hr (by decide) (takes_of rfl rfl rfl rfl) rfl T.g_Shape (pa_cons (pv 0) (pa_cons (pe_cal c_shares_many hr (by decide) (passes_call (takes_of rfl rfl rfl rfl) fun _ _ _ _ h => h) rfl (pa_cons (pv 1) pa_nil)) (pa_cons pe_int pa_nil)))))
      (pss_one (ps_fldC T.cls_Shares T.na_Shares_portions (pv 0) (pe_callTy tup_q (by rfl) T.n_tuple (by decide +kernel) (pa_cons (pv 1) pa_nil))))), ?_⟩
  obtain ⟨a, p, ps, ⟨rfl, dx, ha⟩, rfl, np, hp, hok, q⟩ := h
  simp only [and_assoc, rst, rs, re, ra, rq, rx, ro, rl, rl2, rsp, rz, rix, rln, rg, rd, ri, rv, rk, rdd, rwi, at0, at1, at2, at3, upd_at, List.getElem?_cons_zero, List.getElem?_cons_succ, Option.some.injEq, exists_eq_left', exists_eq_left, List.set_cons_zero, List.set_cons_succ, true_and, and_true, HO.lst.injEq, HO.tup.injEq, exists_and_left, exists_eq, exists_eq', Br.t, Br.f, Be.t, Be.f, List.cons.injEq, List.append_nil, scal, if_true, if_false, ite_true, ite_false, eq_self_iff_true, decide_true, decide_false, Bool.not_true, Bool.not_false, reduceIte, List.nil_append, List.cons_append, reduceCtorEq, false_and, exists_false, false_or, or_false, Int.reduceLT, rmd, rsq, rlu, rdp, Bool.true_or, Bool.false_or, Bool.or_false, Bool.or_true]
  refine ⟨_, rfl, ps, ⟨p, _, rfl, hp, rfl⟩, hok, fun H1 s1 => ?_⟩
  refine ⟨_, _, _, rfl, a, dx, [], ps.sum, 0, rfl, s1 _ _ ha, by simp, rfl, rfl, (tot_ok (sh := .shares ps) hok).2, ?_⟩
  simp only [and_assoc, rst, rs, re, ra, rq, rx, ro, rl, rl2, rsp, rz, rix, rln, rg, rd, ri, rv, rk, rdd, rwi, at0, at1, at2, at3, upd_at, List.getElem?_cons_zero, List.getElem?_cons_succ, Option.some.injEq, exists_eq_left', exists_eq_left, List.set_cons_zero, List.set_cons_succ, true_and, and_true, HO.lst.injEq, HO.tup.injEq, exists_and_left, exists_eq, exists_eq', Br.t, Br.f, Be.t, Be.f, List.cons.injEq, List.append_nil, scal, if_true, if_false, ite_true, ite_false, eq_self_iff_true, decide_true, decide_false, Bool.not_true, Bool.not_false, reduceIte, List.nil_append, List.cons_append, reduceCtorEq, false_and, exists_false, false_or, or_false, Int.reduceLT, rmd, rsq, rlu, rdp, Bool.true_or, Bool.false_or, Bool.or_false, Bool.or_true, eq_false np, s1 _ _ hp]
  intro l hl
  obtain ⟨nl, fl⟩ := ite_none hl
  rw [if_neg (fun z => nl z.symm)]
  refine ⟨_, _, rfl, by show 2 < 1000; decide, q _ (fun b o n e => ?_) ⟨a, dx, l, rfl, upd_same, ?_⟩⟩
  · rw [upd_ne n, upd_ne (ne_of_none (s1 _ _ e) fl), upd_ne n]
    exact s1 _ _ e
  · rw [upd_ne nl, upd_same]
theorem ok_Orders_init (T : Tx K mg w) (c_orders_many : Cal P w K mg base 4 "orders_many" ["many"] (sp_orders_many K)) (c_need_number : Cal P w K mg base 4 "need_number" ["thing", "low", "high"] (sp_need_number K)) (c_sinit_Orders : CalM P w K mg base 4 "Shape" "__init__" ["self", "whole", "tallness"] (sp_sinit_Orders K))  : CalM P w K mg base 6 "Orders" "__init__" ["self", "many"] (sp_Orders_init K) := by
  refine calM_mk (q := "Orders.__init__") T.F_Orders_init T.cls_Orders T.M_Orders_init sc_Orders_init (len2 _) (fun _ _ _ _ _ _ us hl => match us, hl with | [_, _], _ => rfl) (fun cdv A outer s H vs Q E hr h => ?_)
  obtain ⟨v0, v1, rfl, h⟩ := h
  have hu := hu_of hr.r
  refine ⟨_, (pss_cons (ps_expr (pe_cal c_need_number hr (by decide) (passes_call (takes_of rfl rfl rfl rfl) fun _ _ _ _ h => h) rfl (pa_cons (pv 1) (pa_cons pe_int (pa_cons (pe_gint rfl T.k_MOST_ORDERED) pa_nil)))))
      (pss_cons (ps_expr (pe_clsM c_sinit_Orders T.cf_Shape_init hr (by decide) (takes_of rfl rfl rfl rfl) rfl T.g_Shape (pa_cons (pv 0) (pa_cons (pe_cal c_orders_many hr (by decide) (passes_call (takes_of rfl rfl rfl rfl) fun _ _ _ _ h => h) rfl (pa_cons (pv 1) pa_nil)) (pa_cons pe_int pa_nil)))))
      (pss_one (ps_fldC T.cls_Orders T.na_Orders_things (pv 0) (pv 1))))), ?_⟩
  obtain ⟨a, n, ⟨rfl, dx, ha⟩, rfl, hok, q⟩ := h
  simp only [and_assoc, rst, rs, re, ra, rq, rx, ro, rl, rl2, rsp, rz, rix, rln, rg, rd, ri, rv, rk, rdd, rwi, at0, at1, at2, at3, upd_at, List.getElem?_cons_zero, List.getElem?_cons_succ, Option.some.injEq, exists_eq_left', exists_eq_left, List.set_cons_zero, List.set_cons_succ, true_and, and_true, HO.lst.injEq, HO.tup.injEq, exists_and_left, exists_eq, exists_eq', Br.t, Br.f, Be.t, Be.f, List.cons.injEq, List.append_nil, scal, if_true, if_false, ite_true, ite_false, eq_self_iff_true, decide_true, decide_false, Bool.not_true, Bool.not_false, reduceIte, List.nil_append, List.cons_append, reduceCtorEq, false_and, exists_false, false_or, or_false, Int.reduceLT, rmd, rsq, rlu, rdp, Bool.true_or, Bool.false_or, Bool.or_false, Bool.or_true]
  refine ⟨_, _, _, rfl, _, _, rfl, rfl, ⟨_, rfl⟩, fun _ => ?_, fun c => absurd (c.symm.trans (decide_eq_true (show (0 : Int) ≤ (n : Int) ∧ (n : Int) ≤ 20 from ⟨by omega, by have : n ≤ 20 := hok; omega⟩))) (by decide)⟩
  simp only [and_assoc, rst, rs, re, ra, rq, rx, ro, rl, rl2, rsp, rz, rix, rln, rg, rd, ri, rv, rk, rdd, rwi, at0, at1, at2, at3, upd_at, List.getElem?_cons_zero, List.getElem?_cons_succ, Option.some.injEq, exists_eq_left', exists_eq_left, List.set_cons_zero, List.set_cons_succ, true_and, and_true, HO.lst.injEq, HO.tup.injEq, exists_and_left, exists_eq, exists_eq', Br.t, Br.f, Be.t, Be.f, List.cons.injEq, List.append_nil, scal, if_true, if_false, ite_true, ite_false, eq_self_iff_true, decide_true, decide_false, Bool.not_true, Bool.not_false, reduceIte, List.nil_append, List.cons_append, reduceCtorEq, false_and, exists_false, false_or, or_false, Int.reduceLT, rmd, rsq, rlu, rdp, Bool.true_or, Bool.false_or, Bool.or_false, Bool.or_true]
  refine ⟨_, rfl, n, rfl, hok, fun H1 s1 => ?_⟩
  refine ⟨_, _, _, rfl, a, dx, [], fac n, 0, rfl, s1 _ _ ha, by simp, rfl, rfl, (tot_ok (sh := .orders n) hok).2, ?_⟩
  simp only [and_assoc, rst, rs, re, ra, rq, rx, ro, rl, rl2, rsp, rz, rix, rln, rg, rd, ri, rv, rk, rdd, rwi, at0, at1, at2, at3, upd_at, List.getElem?_cons_zero, List.getElem?_cons_succ, Option.some.injEq, exists_eq_left', exists_eq_left, List.set_cons_zero, List.set_cons_succ, true_and, and_true, HO.lst.injEq, HO.tup.injEq, exists_and_left, exists_eq, exists_eq', Br.t, Br.f, Be.t, Be.f, List.cons.injEq, List.append_nil, scal, if_true, if_false, ite_true, ite_false, eq_self_iff_true, decide_true, decide_false, Bool.not_true, Bool.not_false, reduceIte, List.nil_append, List.cons_append, reduceCtorEq, false_and, exists_false, false_or, or_false, Int.reduceLT, rmd, rsq, rlu, rdp, Bool.true_or, Bool.false_or, Bool.or_false, Bool.or_true]
  refine ⟨_, _, rfl, by show 2 < 1000; decide, ?_⟩
  rw [L2.upd_upd]
  exact q _ (fun b o n e => by rw [upd_ne n]; exact s1 _ _ e) ⟨a, dx, rfl, upd_same⟩
theorem ok_Sets_init (T : Tx K mg w) (c_sets_many : Cal P w K mg base 5 "sets_many" ["many", "size"] (sp_sets_many K)) (c_need_number : Cal P w K mg base 4 "need_number" ["thing", "low", "high"] (sp_need_number K)) (c_sinit_Sets : CalM P w K mg base 4 "Shape" "__init__" ["self", "whole", "tallness"] (sp_sinit_Sets K))  : CalM P w K mg base 6 "Sets" "__init__" ["self", "many", "size"] (sp_Sets_init K) := by
  refine calM_mk (q := "Sets.__init__") T.F_Sets_init T.cls_Sets T.M_Sets_init sc_Sets_init (len3 _) (fun _ _ _ _ _ _ us hl => match us, hl with | [_, _, _], _ => rfl) (fun cdv A outer s H vs Q E hr h => ?_)
  obtain ⟨v0, v1, v2, rfl, h⟩ := h
  have hu := hu_of hr.r
  refine ⟨_, (pss_cons (ps_expr (pe_cal c_need_number hr (by decide) (passes_call (takes_of rfl rfl rfl rfl) fun _ _ _ _ h => h) rfl (pa_cons (pv 1) (pa_cons pe_int (pa_cons (pe_gint rfl T.k_MOST_THINGS) pa_nil)))))
      (pss_cons (ps_expr (pe_cal c_need_number hr (by decide) (passes_call (takes_of rfl rfl rfl rfl) fun _ _ _ _ h => h) rfl (pa_cons (pv 2) (pa_cons pe_int (pa_cons (pv 1) pa_nil)))))
      (pss_cons (ps_expr (pe_clsM c_sinit_Sets T.cf_Shape_init hr (by decide) (takes_of rfl rfl rfl rfl) rfl T.g_Shape (pa_cons (pv 0) (pa_cons (pe_cal c_sets_many hr (by decide) (passes_call (takes_of rfl rfl rfl rfl) fun _ _ _ _ h => h) rfl (pa_cons (pv 1) (pa_cons (pv 2) pa_nil))) (pa_cons pe_int pa_nil)))))
      (pss_cons (ps_fldC T.cls_Sets T.na_Sets_things (pv 0) (pv 1))
      (pss_one (ps_fldC T.cls_Sets T.na_Sets_chosen (pv 0) (pv 2))))))), ?_⟩
  obtain ⟨a, n, k, ⟨rfl, dx, ha⟩, rfl, rfl, hok, q⟩ := h
  obtain ⟨o1, o2⟩ := id hok
  simp only [and_assoc, rst, rs, re, ra, rq, rx, ro, rl, rl2, rsp, rz, rix, rln, rg, rd, ri, rv, rk, rdd, rwi, at0, at1, at2, at3, upd_at, List.getElem?_cons_zero, List.getElem?_cons_succ, Option.some.injEq, exists_eq_left', exists_eq_left, List.set_cons_zero, List.set_cons_succ, true_and, and_true, HO.lst.injEq, HO.tup.injEq, exists_and_left, exists_eq, exists_eq', Br.t, Br.f, Be.t, Be.f, List.cons.injEq, List.append_nil, scal, if_true, if_false, ite_true, ite_false, eq_self_iff_true, decide_true, decide_false, Bool.not_true, Bool.not_false, reduceIte, List.nil_append, List.cons_append, reduceCtorEq, false_and, exists_false, false_or, or_false, Int.reduceLT, rmd, rsq, rlu, rdp, Bool.true_or, Bool.false_or, Bool.or_false, Bool.or_true]
  refine ⟨_, _, _, rfl, _, _, rfl, rfl, ⟨_, rfl⟩, fun _ => ?_, fun c => absurd (c.symm.trans (decide_eq_true (show (0 : Int) ≤ (n : Int) ∧ (n : Int) ≤ 60 from ⟨by omega, by omega⟩))) (by decide)⟩
  simp only [and_assoc, rst, rs, re, ra, rq, rx, ro, rl, rl2, rsp, rz, rix, rln, rg, rd, ri, rv, rk, rdd, rwi, at0, at1, at2, at3, upd_at, List.getElem?_cons_zero, List.getElem?_cons_succ, Option.some.injEq, exists_eq_left', exists_eq_left, List.set_cons_zero, List.set_cons_succ, true_and, and_true, HO.lst.injEq, HO.tup.injEq, exists_and_left, exists_eq, exists_eq', Br.t, Br.f, Be.t, Be.f, List.cons.injEq, List.append_nil, scal, if_true, if_false, ite_true, ite_false, eq_self_iff_true, decide_true, decide_false, Bool.not_true, Bool.not_false, reduceIte, List.nil_append, List.cons_append, reduceCtorEq, false_and, exists_false, false_or, or_false, Int.reduceLT, rmd, rsq, rlu, rdp, Bool.true_or, Bool.false_or, Bool.or_false, Bool.or_true]
  refine ⟨_, _, _, rfl, _, _, rfl, rfl, ⟨_, rfl⟩, fun _ => ?_, fun c => absurd (c.symm.trans (decide_eq_true (show (0 : Int) ≤ (k : Int) ∧ (k : Int) ≤ (n : Int) from ⟨by omega, by omega⟩))) (by decide)⟩
  simp only [and_assoc, rst, rs, re, ra, rq, rx, ro, rl, rl2, rsp, rz, rix, rln, rg, rd, ri, rv, rk, rdd, rwi, at0, at1, at2, at3, upd_at, List.getElem?_cons_zero, List.getElem?_cons_succ, Option.some.injEq, exists_eq_left', exists_eq_left, List.set_cons_zero, List.set_cons_succ, true_and, and_true, HO.lst.injEq, HO.tup.injEq, exists_and_left, exists_eq, exists_eq', Br.t, Br.f, Be.t, Be.f, List.cons.injEq, List.append_nil, scal, if_true, if_false, ite_true, ite_false, eq_self_iff_true, decide_true, decide_false, Bool.not_true, Bool.not_false, reduceIte, List.nil_append, List.cons_append, reduceCtorEq, false_and, exists_false, false_or, or_false, Int.reduceLT, rmd, rsq, rlu, rdp, Bool.true_or, Bool.false_or, Bool.or_false, Bool.or_true]
  refine ⟨_, _, rfl, n, k, rfl, rfl, o1, by omega, ?_⟩
  refine ⟨_, _, _, rfl, a, dx, [], wys n k, 0, rfl, ha, by simp, rfl, rfl, (tot_ok (sh := .sets n k) hok).2, ?_⟩
  simp only [and_assoc, rst, rs, re, ra, rq, rx, ro, rl, rl2, rsp, rz, rix, rln, rg, rd, ri, rv, rk, rdd, rwi, at0, at1, at2, at3, upd_at, List.getElem?_cons_zero, List.getElem?_cons_succ, Option.some.injEq, exists_eq_left', exists_eq_left, List.set_cons_zero, List.set_cons_succ, true_and, and_true, HO.lst.injEq, HO.tup.injEq, exists_and_left, exists_eq, exists_eq', Br.t, Br.f, Be.t, Be.f, List.cons.injEq, List.append_nil, scal, if_true, if_false, ite_true, ite_false, eq_self_iff_true, decide_true, decide_false, Bool.not_true, Bool.not_false, reduceIte, List.nil_append, List.cons_append, reduceCtorEq, false_and, exists_false, false_or, or_false, Int.reduceLT, rmd, rsq, rlu, rdp, Bool.true_or, Bool.false_or, Bool.or_false, Bool.or_true]
  refine ⟨_, _, rfl, by show 2 < 1000; decide, _, _, rfl, by show 3 < 1000; decide, ?_⟩
  rw [L2.upd_upd, L2.upd_upd]
  exact q _ (fun b o n e => by rw [upd_ne n]; exact e) ⟨a, dx, rfl, upd_same⟩
theorem ok_Pair_init (T : Tx K mg w) (c_Pair_numbers : CalM P w K mg base 1 "Pair" "numbers" ["self"] (sp_Pair_numbers K)) (c_Shares_height : CalM P w K mg base 1 "Shares" "height" ["self"] (sp_Shares_height K)) (c_Rows_height : CalM P w K mg base 1 "Rows" "height" ["self"] (sp_Rows_height K)) (c_Shares_numbers : CalM P w K mg base 1 "Shares" "numbers" ["self"] (sp_Shares_numbers K)) (c_Pair_height : CalM P w K mg base 1 "Pair" "height" ["self"] (sp_Pair_height K)) (c_Sets_numbers : CalM P w K mg base 1 "Sets" "numbers" ["self"] (sp_Sets_numbers K)) (c_Orders_height : CalM P w K mg base 1 "Orders" "height" ["self"] (sp_Orders_height K)) (c_Rows_numbers : CalM P w K mg base 1 "Rows" "numbers" ["self"] (sp_Rows_numbers K)) (c_Orders_numbers : CalM P w K mg base 1 "Orders" "numbers" ["self"] (sp_Orders_numbers K)) (c_Sets_height : CalM P w K mg base 1 "Sets" "height" ["self"] (sp_Sets_height K)) (c_Below_numbers : CalM P w K mg base 1 "Below" "numbers" ["self"] (sp_Below_numbers K)) (c_sinit_Pair : CalM P w K mg base 4 "Shape" "__init__" ["self", "whole", "tallness"] (sp_sinit_Pair K)) (c_Below_height : CalM P w K mg base 1 "Below" "height" ["self"] (sp_Below_height K)) (c_need_shape : Cal P w K mg base 4 "need_shape" ["thing"] (sp_need_shape K))  : CalM P w K mg base 6 "Pair" "__init__" ["self", "one", "other"] (sp_Pair_init K) := by
  refine calM_mk (q := "Pair.__init__") T.F_Pair_init T.cls_Pair T.M_Pair_init sc_Pair_init (len3 _) (fun _ _ _ _ _ _ us hl => match us, hl with | [_, _, _], _ => rfl) (fun cdv A outer s H vs Q E hr h => ?_)
  obtain ⟨v0, v1, v2, rfl, h⟩ := h
  have hu := hu_of hr.r
  have D0 := ((Disp.cons c_Below_height (by decide) (Disp.cons c_Shares_height (by decide) (Disp.cons c_Orders_height (by decide) (Disp.cons c_Sets_height (by decide) (Disp.cons c_Pair_height (by decide) (Disp.cons c_Rows_height (by decide) Disp.nil)))))) : Disp P w K mg base (5) "height" _)
  have D1 := ((Disp.cons c_Below_height (by decide) (Disp.cons c_Shares_height (by decide) (Disp.cons c_Orders_height (by decide) (Disp.cons c_Sets_height (by decide) (Disp.cons c_Pair_height (by decide) (Disp.cons c_Rows_height (by decide) Disp.nil)))))) : Disp P w K mg base (5) "height" _)
  have D2 := ((Disp.cons c_Below_numbers (by decide) (Disp.cons c_Shares_numbers (by decide) (Disp.cons c_Orders_numbers (by decide) (Disp.cons c_Sets_numbers (by decide) (Disp.cons c_Pair_numbers (by decide) (Disp.cons c_Rows_numbers (by decide) Disp.nil)))))) : Disp P w K mg base (5) "numbers" _)
  have D3 := ((Disp.cons c_Below_numbers (by decide) (Disp.cons c_Shares_numbers (by decide) (Disp.cons c_Orders_numbers (by decide) (Disp.cons c_Sets_numbers (by decide) (Disp.cons c_Pair_numbers (by decide) (Disp.cons c_Rows_numbers (by decide) Disp.nil)))))) : Disp P w K mg base (5) "numbers" _)
  refine ⟨_, (pss_cons (ps_fldC T.cls_Pair T.na_Pair_slow (pv 0) (pe_cal c_need_shape hr (by decide) (passes_call (takes_of rfl rfl rfl rfl) fun _ _ _ _ h => h) rfl (pa_cons (pv 1) pa_nil)))
      (pss_cons (ps_fldC T.cls_Pair T.na_Pair_fast (pv 0) (pe_cal c_need_shape hr (by decide) (passes_call (takes_of rfl rfl rfl rfl) fun _ _ _ _ h => h) rfl (pa_cons (pv 2) pa_nil)))
      (pss_one (ps_expr (pe_clsM c_sinit_Pair T.cf_Shape_init hr (by decide) (takes_of rfl rfl rfl rfl) rfl T.g_Shape (pa_cons (pv 0) (pa_cons (pe_op op_mulA (pe_mthD0 (K := K) rfl D2 hr (takes_of rfl rfl rfl rfl) (pv 1)) (pe_mthD0 (K := K) rfl D3 hr (takes_of rfl rfl rfl rfl) (pv 2))) (pa_cons (pe_op op_add pe_int (pe_callB (call_max2 rfl) (by rfl) T.n_max (by decide +kernel) (pa_cons (pe_mthD0 (K := K) rfl D1 hr (takes_of rfl rfl rfl rfl) (pv 1)) (pa_cons (pe_mthD0 (K := K) rfl D0 hr (takes_of rfl rfl rfl rfl) (pv 2)) pa_nil)))) pa_nil)))))))), ?_⟩
  obtain ⟨a, s, t, pf, ⟨rfl, dx, ha⟩, hok, hs, ht, npf, hpf, osf, otf, q⟩ := h
  have os := osf.same wo_same
  have ot := otf.same wo_same
  obtain ⟨k1, k2, k3⟩ := hok
  obtain ⟨as, dxs, fss, rfl, has, _, _, ns1, ns2, _, _, _⟩ := id os.any
  obtain ⟨at', dxt, fst, rfl, hat, _, _, nt1, nt2, _, _, _⟩ := id ot.any
  simp only [and_assoc, rst, rs, re, ra, rq, rx, ro, rl, rl2, rsp, rz, rix, rln, rg, rd, ri, rv, rk, rdd, rwi, at0, at1, at2, at3, upd_at, List.getElem?_cons_zero, List.getElem?_cons_succ, Option.some.injEq, exists_eq_left', exists_eq_left, List.set_cons_zero, List.set_cons_succ, true_and, and_true, HO.lst.injEq, HO.tup.injEq, exists_and_left, exists_eq, exists_eq', Br.t, Br.f, Be.t, Be.f, List.cons.injEq, List.append_nil, scal, if_true, if_false, ite_true, ite_false, eq_self_iff_true, decide_true, decide_false, Bool.not_true, Bool.not_false, reduceIte, List.nil_append, List.cons_append, reduceCtorEq, false_and, exists_false, false_or, or_false, Int.reduceLT, rmd, rsq, rlu, rdp, Bool.true_or, Bool.false_or, Bool.or_false, Bool.or_true]
  refine ⟨_, rfl, s, os.same away_same, hs, ?_⟩
  refine ⟨_, _, ha, by simp, _, rfl, t, ot.same away_upd, ht, ?_⟩
  have nas := away_ne has
  have nat' := away_ne hat
  have gas := away_same _ _ has
  have gat := away_same _ _ hat
  obtain ⟨s0, s1⟩ := tot_ok k1
  obtain ⟨t0, t1⟩ := tot_ok k2
  simp only [and_assoc, rst, rs, re, ra, rq, rx, ro, rl, rl2, rsp, rz, rix, rln, rg, rd, ri, rv, rk, rdd, rwi, at0, at1, at2, at3, upd_at, List.getElem?_cons_zero, List.getElem?_cons_succ, Option.some.injEq, exists_eq_left', exists_eq_left, List.set_cons_zero, List.set_cons_succ, true_and, and_true, HO.lst.injEq, HO.tup.injEq, exists_and_left, exists_eq, exists_eq', Br.t, Br.f, Be.t, Be.f, List.cons.injEq, List.append_nil, scal, if_true, if_false, ite_true, ite_false, eq_self_iff_true, decide_true, decide_false, Bool.not_true, Bool.not_false, reduceIte, List.nil_append, List.cons_append, reduceCtorEq, false_and, exists_false, false_or, or_false, Int.reduceLT, rmd, rsq, rlu, rdp, Bool.true_or, Bool.false_or, Bool.or_false, Bool.or_true, eq_false nas, eq_false nat']
  refine ⟨_, _, rfl, by show 1 < 1000; decide, kindOf s, spNum (kindOf s) K, mem_num6 s, dxs, fss, gas, ns1, ?_⟩
  rw [L2.upd_upd]
  refine ⟨_, rfl, s, rfl, os.same away_upd, ?_⟩
  simp only [and_assoc, rst, rs, re, ra, rq, rx, ro, rl, rl2, rsp, rz, rix, rln, rg, rd, ri, rv, rk, rdd, rwi, at0, at1, at2, at3, upd_at, List.getElem?_cons_zero, List.getElem?_cons_succ, Option.some.injEq, exists_eq_left', exists_eq_left, List.set_cons_zero, List.set_cons_succ, true_and, and_true, HO.lst.injEq, HO.tup.injEq, exists_and_left, exists_eq, exists_eq', Br.t, Br.f, Be.t, Be.f, List.cons.injEq, List.append_nil, scal, if_true, if_false, ite_true, ite_false, eq_self_iff_true, decide_true, decide_false, Bool.not_true, Bool.not_false, reduceIte, List.nil_append, List.cons_append, reduceCtorEq, false_and, exists_false, false_or, or_false, Int.reduceLT, rmd, rsq, rlu, rdp, Bool.true_or, Bool.false_or, Bool.or_false, Bool.or_true, eq_false nat']
  refine ⟨kindOf t, spNum (kindOf t) K, mem_num6 t, dxt, fst, gat, nt1, ?_⟩
  refine ⟨_, rfl, t, rfl, ot.same away_upd, ?_⟩
  refine ⟨_, rfl, mul_ok64 s0 s1 t0 t1, ?_⟩
  simp only [and_assoc, rst, rs, re, ra, rq, rx, ro, rl, rl2, rsp, rz, rix, rln, rg, rd, ri, rv, rk, rdd, rwi, at0, at1, at2, at3, upd_at, List.getElem?_cons_zero, List.getElem?_cons_succ, Option.some.injEq, exists_eq_left', exists_eq_left, List.set_cons_zero, List.set_cons_succ, true_and, and_true, HO.lst.injEq, HO.tup.injEq, exists_and_left, exists_eq, exists_eq', Br.t, Br.f, Be.t, Be.f, List.cons.injEq, List.append_nil, scal, if_true, if_false, ite_true, ite_false, eq_self_iff_true, decide_true, decide_false, Bool.not_true, Bool.not_false, reduceIte, List.nil_append, List.cons_append, reduceCtorEq, false_and, exists_false, false_or, or_false, Int.reduceLT, rmd, rsq, rlu, rdp, Bool.true_or, Bool.false_or, Bool.or_false, Bool.or_true, eq_false nas]
  refine ⟨kindOf s, spHt (kindOf s) K, mem_ht6 s, dxs, fss, gas, ns2, ?_⟩
  refine ⟨_, rfl, s, rfl, os.same away_upd, ?_⟩
  simp only [and_assoc, rst, rs, re, ra, rq, rx, ro, rl, rl2, rsp, rz, rix, rln, rg, rd, ri, rv, rk, rdd, rwi, at0, at1, at2, at3, upd_at, List.getElem?_cons_zero, List.getElem?_cons_succ, Option.some.injEq, exists_eq_left', exists_eq_left, List.set_cons_zero, List.set_cons_succ, true_and, and_true, HO.lst.injEq, HO.tup.injEq, exists_and_left, exists_eq, exists_eq', Br.t, Br.f, Be.t, Be.f, List.cons.injEq, List.append_nil, scal, if_true, if_false, ite_true, ite_false, eq_self_iff_true, decide_true, decide_false, Bool.not_true, Bool.not_false, reduceIte, List.nil_append, List.cons_append, reduceCtorEq, false_and, exists_false, false_or, or_false, Int.reduceLT, rmd, rsq, rlu, rdp, Bool.true_or, Bool.false_or, Bool.or_false, Bool.or_true, eq_false nat']
  refine ⟨kindOf t, spHt (kindOf t) K, mem_ht6 t, dxt, fst, gat, nt2, ?_⟩
  refine ⟨_, rfl, t, rfl, ot.same away_upd, ?_⟩
  have eh : (1 + if (t.ht : Int) > (s.ht : Int) then (t.ht : Int) else (s.ht : Int)) = (((Sh.pair s t).ht : Nat) : Int) := by
    show _ = ((1 + max s.ht t.ht : Nat) : Int)
    split <;> omega
  refine ⟨_, rfl, ?_⟩
  rw [eh]
  refine ⟨_, _, _, rfl, a, dx, _, s.tot * t.tot, _, rfl, upd_same, by show 2 ≤ 10; decide, rfl, rfl, k3, ?_⟩
  rw [L2.upd_upd]
  exact q _ (fun b o nb e => by rw [upd_ne nb]; exact e) ⟨a, dx, .ref as, .ref at', rfl, (wo_at npf.symm).trans upd_same, osf.same (wo_mono away_upd), otf.same (wo_mono away_upd)⟩
theorem ok_Rows_init (T : Tx K mg w) (c_product : Cal P w K mg base 1 "product" ["bases"] (sp_product K)) (c_need_number : Cal P w K mg base 4 "need_number" ["thing", "low", "high"] (sp_need_number K)) (c_Pair_numbers : CalM P w K mg base 1 "Pair" "numbers" ["self"] (sp_Pair_numbers K)) (c_sinit_Rows : CalM P w K mg base 4 "Shape" "__init__" ["self", "whole", "tallness"] (sp_sinit_Rows K)) (c_Shares_height : CalM P w K mg base 1 "Shares" "height" ["self"] (sp_Shares_height K)) (c_Rows_height : CalM P w K mg base 1 "Rows" "height" ["self"] (sp_Rows_height K)) (c_Shares_numbers : CalM P w K mg base 1 "Shares" "numbers" ["self"] (sp_Shares_numbers K)) (c_Pair_height : CalM P w K mg base 1 "Pair" "height" ["self"] (sp_Pair_height K)) (c_Sets_numbers : CalM P w K mg base 1 "Sets" "numbers" ["self"] (sp_Sets_numbers K)) (c_Orders_height : CalM P w K mg base 1 "Orders" "height" ["self"] (sp_Orders_height K)) (c_Rows_numbers : CalM P w K mg base 1 "Rows" "numbers" ["self"] (sp_Rows_numbers K)) (c_Orders_numbers : CalM P w K mg base 1 "Orders" "numbers" ["self"] (sp_Orders_numbers K)) (c_Sets_height : CalM P w K mg base 1 "Sets" "height" ["self"] (sp_Sets_height K)) (c_Below_numbers : CalM P w K mg base 1 "Below" "numbers" ["self"] (sp_Below_numbers K)) (c_Below_height : CalM P w K mg base 1 "Below" "height" ["self"] (sp_Below_height K)) (c_need_shape : Cal P w K mg base 4 "need_shape" ["thing"] (sp_need_shape K))  : CalM P w K mg base 6 "Rows" "__init__" ["self", "shape", "many"] (sp_Rows_init K) := by
  refine calM_mk (q := "Rows.__init__") T.F_Rows_init T.cls_Rows T.M_Rows_init sc_Rows_init (len3 _) (fun _ _ _ _ _ _ us hl => match us, hl with | [_, _, _], _ => rfl) (fun cdv A outer s H vs Q E hr h => ?_)
  obtain ⟨v0, v1, v2, rfl, h⟩ := h
  have hu := hu_of hr.r
  have D0 := ((Disp.cons c_Below_numbers (by decide) (Disp.cons c_Shares_numbers (by decide) (Disp.cons c_Orders_numbers (by decide) (Disp.cons c_Sets_numbers (by decide) (Disp.cons c_Pair_numbers (by decide) (Disp.cons c_Rows_numbers (by decide) Disp.nil)))))) : Disp P w K mg base (5) "numbers" _)
  have D1 := ((Disp.cons c_Below_height (by decide) (Disp.cons c_Shares_height (by decide) (Disp.cons c_Orders_height (by decide) (Disp.cons c_Sets_height (by decide) (Disp.cons c_Pair_height (by decide) (Disp.cons c_Rows_height (by decide) Disp.nil)))))) : Disp P w K mg base (5) "height" _)
  refine ⟨_, (pss_cons (ps_fldC T.cls_Rows T.na_Rows_single (pv 0) (pe_cal c_need_shape hr (by decide) (passes_call (takes_of rfl rfl rfl rfl) fun _ _ _ _ h => h) rfl (pa_cons (pv 1) pa_nil)))
      (pss_cons (ps_expr (pe_cal c_need_number hr (by decide) (passes_call (takes_of rfl rfl rfl rfl) fun _ _ _ _ h => h) rfl (pa_cons (pv 2) (pa_cons pe_int (pa_cons (pe_gint rfl T.k_MOST_TIMES) pa_nil)))))
      (pss_cons (ps_fldC T.cls_Rows T.na_Rows_bases (pv 0) (pe_op op_rep (pe_lst (pa_cons (pe_mthD0 (K := K) rfl D0 hr (takes_of rfl rfl rfl rfl) (pv 1)) pa_nil)) (pv 2)))
      (pss_one (ps_expr (pe_clsM c_sinit_Rows T.cf_Shape_init hr (by decide) (takes_of rfl rfl rfl rfl) rfl T.g_Shape (pa_cons (pv 0) (pa_cons (pe_cal c_product hr (by decide) (passes_call (takes_of rfl rfl rfl rfl) fun _ _ _ _ h => h) rfl (pa_cons (pe_fldC T.cls_Rows T.na_Rows_bases (pv 0)) pa_nil)) (pa_cons (pe_op op_add pe_int (pe_mthD0 (K := K) rfl D1 hr (takes_of rfl rfl rfl rfl) (pv 1))) pa_nil))))))))), ?_⟩
  obtain ⟨a, s, n, pf, ⟨rfl, dx, ha⟩, hok, hs, npf, hpf, osf, rfl, q⟩ := h
  have os := osf.same wo_same
  obtain ⟨k1, k2, k3⟩ := hok
  obtain ⟨as, dxs, fss, rfl, has, _, _, ns1, ns2, _, _, _⟩ := id os.any
  simp only [and_assoc, rst, rs, re, ra, rq, rx, ro, rl, rl2, rsp, rz, rix, rln, rg, rd, ri, rv, rk, rdd, rwi, at0, at1, at2, at3, upd_at, List.getElem?_cons_zero, List.getElem?_cons_succ, Option.some.injEq, exists_eq_left', exists_eq_left, List.set_cons_zero, List.set_cons_succ, true_and, and_true, HO.lst.injEq, HO.tup.injEq, exists_and_left, exists_eq, exists_eq', Br.t, Br.f, Be.t, Be.f, List.cons.injEq, List.append_nil, scal, if_true, if_false, ite_true, ite_false, eq_self_iff_true, decide_true, decide_false, Bool.not_true, Bool.not_false, reduceIte, List.nil_append, List.cons_append, reduceCtorEq, false_and, exists_false, false_or, or_false, Int.reduceLT, rmd, rsq, rlu, rdp, Bool.true_or, Bool.false_or, Bool.or_false, Bool.or_true]
  refine ⟨_, rfl, s, os.same away_same, hs, ?_⟩
  refine ⟨_, _, ha, by simp, ?_⟩
  have nas := away_ne has
  have gas := away_same _ _ has
  obtain ⟨s0, s1⟩ := tot_ok k1
  refine ⟨_, _, _, rfl, _, _, rfl, rfl, ⟨_, rfl⟩, fun _ => ?_, fun c => absurd (c.symm.trans (decide_eq_true (show (0 : Int) ≤ (n : Int) ∧ (n : Int) ≤ 12 from ⟨by omega, by omega⟩))) (by decide)⟩
  simp only [and_assoc, rst, rs, re, ra, rq, rx, ro, rl, rl2, rsp, rz, rix, rln, rg, rd, ri, rv, rk, rdd, rwi, at0, at1, at2, at3, upd_at, List.getElem?_cons_zero, List.getElem?_cons_succ, Option.some.injEq, exists_eq_left', exists_eq_left, List.set_cons_zero, List.set_cons_succ, true_and, and_true, HO.lst.injEq, HO.tup.injEq, exists_and_left, exists_eq, exists_eq', Br.t, Br.f, Be.t, Be.f, List.cons.injEq, List.append_nil, scal, if_true, if_false, ite_true, ite_false, eq_self_iff_true, decide_true, decide_false, Bool.not_true, Bool.not_false, reduceIte, List.nil_append, List.cons_append, reduceCtorEq, false_and, exists_false, false_or, or_false, Int.reduceLT, rmd, rsq, rlu, rdp, Bool.true_or, Bool.false_or, Bool.or_false, Bool.or_true, eq_false nas]
  refine ⟨kindOf s, spNum (kindOf s) K, mem_num6 s, dxs, fss, gas, ns1, ?_⟩
  refine ⟨_, rfl, s, rfl, os.same away_upd, fun p hp => ⟨by omega, by omega, by rw [sizeLine_eq]; simp <;> omega, fun p1 hp1 => ?_⟩⟩
  have hp0 : H p = none := by
    rcases Decidable.em (p = a) with e | e
    · subst e
      rw [upd_same] at hp
      cases hp
    · rw [upd_ne e] at hp
      exact hp
  have npa : a ≠ p := ne_of_none ha hp0
  obtain ⟨n1p, hp1⟩ := ite_none hp1
  have hp10 : H p1 = none := by
    rcases Decidable.em (p1 = a) with e | e
    · subst e
      rw [upd_same] at hp1
      cases hp1
    · rw [upd_ne e] at hp1
      exact hp1
  have npb : a ≠ p1 := ne_of_none ha hp10
  have rep : (List.replicate (n : Int).toNat [V.int s.tot]).flatten = List.replicate n (V.int s.tot) := by
    rw [Int.toNat_natCast, flat_rep]
  rw [rep]
  simp only [and_assoc, rst, rs, re, ra, rq, rx, ro, rl, rl2, rsp, rz, rix, rln, rg, rd, ri, rv, rk, rdd, rwi, at0, at1, at2, at3, upd_at, List.getElem?_cons_zero, List.getElem?_cons_succ, Option.some.injEq, exists_eq_left', exists_eq_left, List.set_cons_zero, List.set_cons_succ, true_and, and_true, HO.lst.injEq, HO.tup.injEq, exists_and_left, exists_eq, exists_eq', Br.t, Br.f, Be.t, Be.f, List.cons.injEq, List.append_nil, scal, if_true, if_false, ite_true, ite_false, eq_self_iff_true, decide_true, decide_false, Bool.not_true, Bool.not_false, reduceIte, List.nil_append, List.cons_append, reduceCtorEq, false_and, exists_false, false_or, or_false, Int.reduceLT, rmd, rsq, rlu, rdp, Bool.true_or, Bool.false_or, Bool.or_false, Bool.or_true, eq_false npb, eq_false npa]
  refine ⟨_, _, rfl, by show 1 < 1000; decide, _, _, rfl, _, rfl, ?_⟩
  have S : Same (away a H) (upd (upd (upd (upd H a (.ins (He.ga K "Rows") dx (putF "single" (.ref as) []))) p (.lst [V.int s.tot])) p1 (.lst (List.replicate n (V.int s.tot)))) a (.ins (He.ga K "Rows") dx (putF "bases" (.ref p1) (putF "single" (.ref as) [])))) := fun b o e => by
    have nb := away_ne e
    have eb := away_same _ _ e
    rw [upd_ne nb, upd_ne (ne_of_none eb hp10), upd_ne (ne_of_none eb hp0), upd_ne nb]
    exact eb
  have hb1 : (upd (upd (upd (upd H a (.ins (He.ga K "Rows") dx (putF "single" (.ref as) []))) p (.lst [V.int s.tot])) p1 (.lst (List.replicate n (V.int s.tot)))) a (.ins (He.ga K "Rows") dx (putF "bases" (.ref p1) (putF "single" (.ref as) [])))) p1 = some (.lst (List.replicate n (V.int s.tot))) := by
    rw [upd_ne npb.symm, upd_same]
  have ha1 : (upd (upd (upd (upd H a (.ins (He.ga K "Rows") dx (putF "single" (.ref as) []))) p (.lst [V.int s.tot])) p1 (.lst (List.replicate n (V.int s.tot)))) a (.ins (He.ga K "Rows") dx (putF "bases" (.ref p1) (putF "single" (.ref as) [])))) a = some (.ins (He.ga K "Rows") dx (putF "bases" (.ref p1) (putF "single" (.ref as) []))) := upd_same
  generalize upd (upd (upd (upd H a _) p _) p1 _) a _ = G at S hb1 ha1 ⊢
  refine ⟨_, rfl, p1, n, s.tot, rfl, hb1, k2, by omega, s1, ?_⟩
  simp only [and_assoc, rst, rs, re, ra, rq, rx, ro, rl, rl2, rsp, rz, rix, rln, rg, rd, ri, rv, rk, rdd, rwi, at0, at1, at2, at3, upd_at, List.getElem?_cons_zero, List.getElem?_cons_succ, Option.some.injEq, exists_eq_left', exists_eq_left, List.set_cons_zero, List.set_cons_succ, true_and, and_true, HO.lst.injEq, HO.tup.injEq, exists_and_left, exists_eq, exists_eq', Br.t, Br.f, Be.t, Be.f, List.cons.injEq, List.append_nil, scal, if_true, if_false, ite_true, ite_false, eq_self_iff_true, decide_true, decide_false, Bool.not_true, Bool.not_false, reduceIte, List.nil_append, List.cons_append, reduceCtorEq, false_and, exists_false, false_or, or_false, Int.reduceLT, rmd, rsq, rlu, rdp, Bool.true_or, Bool.false_or, Bool.or_false, Bool.or_true]
  refine ⟨kindOf s, spHt (kindOf s) K, mem_ht6 s, dxs, fss, S _ _ has, ns2, ?_⟩
  refine ⟨_, rfl, s, rfl, os.same S, _, rfl, ?_⟩
  refine ⟨_, _, _, rfl, a, dx, _, s.tot ^ n, 1 + (s.ht : Int), rfl, ha1, by show 2 ≤ 10; decide, rfl, rfl, k3, ?_⟩
  refine q _ (fun b o nb e => ?_) ⟨a, dx, .ref as, p1, rfl, ?_, osf.same (wo_mono ?_), ?_⟩
  · rw [upd_ne nb]
    exact S b o (by unfold away; rw [if_neg nb]; exact e)
  · rw [wo_at npf.symm, upd_same]
    have : (((Sh.rows s n).ht : Nat) : Int) = 1 + (s.ht : Int) := by
      show ((1 + s.ht : Nat) : Int) = _
      omega
    rw [this]
    rfl
  · exact fun b o e => by
      rw [upd_ne (away_ne e)]
      exact S b o e
  · rw [wo_at (fun z => hpf (by rw [← z]; exact hp10)), upd_ne npb.symm]
    exact hb1
end
end Law

-- RDX rmd, rsq, rlu, rdp, Bool.true_or, Bool.false_or, Bool.or_false, Bool.or_true
namespace Law
open PySem PySem.Spec PyProof.Rows L2 Sw
section
variable {P : Program} {w : World} {K : Fg} {mg : Str → Option Value} {base : Heap}
theorem ok__law_take (T : Tx K mg w)   : Cal P w K mg base 1 "_law_take" ["box", "many"] (sp__law_take K) := by
  refine cal_mk T.F__law_take T.g__law_take sc__law_take (len2 _) (fun _ _ _ _ _ _ us hl => match us, hl with | [_, _], _ => rfl) (fun cdv A outer s H vs Q E hr h => ?_)
  obtain ⟨v0, v1, rfl, h⟩ := h
  have hu := hu_of hr.r
  refine ⟨_, (pss_cons (ps_if (pt_cmpR op_gt (pe_ix ix_q (pv 0) pe_int (fun _ _ => rfl)) pe_int (nomark _)) (pss_cons (ps_set (i := 2) sc__law_take.nd rfl (Or.inl rfl) (pe_op op_mod (pe_ix ix_q (pv 0) pe_int (fun _ _ => rfl)) (pv 1)))
      (pss_cons (ps_asg (pe_op op_fdivW (pe_ix ix_q (pv 0) pe_int (fun _ _ => rfl)) (pv 1)) (pg_sub (pv 0) pe_int set_list))
      (pss_one (ps_ret (pv 2))))) pss_nil)
      (pss_cons (ps_asg (pe_op op_add (pe_ix ix_q (pv 0) pe_int (fun _ _ => rfl)) pe_int) (pg_sub (pv 0) pe_int set_list))
      (pss_cons (ps_set (i := 2) sc__law_take.nd rfl (Or.inl rfl) (pe_op op_mod (pe_op op_add (pe_op op_add (pe_op op_mulA (pe_ix ix_q (pv 0) pe_int (fun _ _ => rfl)) pe_int) (pe_op op_mulA pe_int (pe_ix ix_q (pv 0) pe_int (fun _ _ => rfl)))) pe_int) pe_int))
      (pss_cons (ps_set (i := 2) sc__law_take.nd rfl (Or.inl rfl) (pe_op op_mod (pe_op op_add (pe_op op_add (pe_op op_mulA (pv 2) (pv 2)) (pe_op op_mulA pe_int (pe_ix ix_q (pv 0) pe_int (fun _ _ => rfl)))) pe_int) pe_int))
      (pss_one (ps_ret (pe_op op_mod (pe_op op_mod (pe_op op_mulA (pv 2) (pv 2)) pe_int) (pv 1)))))))), ?_⟩
  obtain ⟨p, n, rfl, ⟨x0, x1, x2, hb⟩, rfl, n0, n1, q⟩ := h
  have n2 : CDivW x0 n := wide_div n0 (b := 65) (by omega) (by decide) (by decide)
  simp only [and_assoc, rst, rs, re, ra, rq, rx, ro, rl, rl2, rsp, rz, rix, rln, rg, rd, ri, rv, rk, rdd, rwi, at0, at1, at2, at3, upd_at, List.getElem?_cons_zero, List.getElem?_cons_succ, Option.some.injEq, exists_eq_left', exists_eq_left, List.set_cons_zero, List.set_cons_succ, true_and, and_true, HO.lst.injEq, HO.tup.injEq, exists_and_left, exists_eq, exists_eq', Br.t, Br.f, Be.t, Be.f, List.cons.injEq, List.append_nil, scal, if_true, if_false, ite_true, ite_false, eq_self_iff_true, decide_true, decide_false, Bool.not_true, Bool.not_false, reduceIte, List.nil_append, List.cons_append, reduceCtorEq, false_and, exists_false, false_or, or_false, Int.reduceLT, rmd, rsq, rlu, rdp, Bool.true_or, Bool.false_or, Bool.or_false, Bool.or_true, hb]
  refine Br.d (fun c => ?_) fun c => ?_
  · simp only [and_assoc, rst, rs, re, ra, rq, rx, ro, rl, rl2, rsp, rz, rix, rln, rg, rd, ri, rv, rk, rdd, rwi, at0, at1, at2, at3, upd_at, List.getElem?_cons_zero, List.getElem?_cons_succ, Option.some.injEq, exists_eq_left', exists_eq_left, List.set_cons_zero, List.set_cons_succ, true_and, and_true, HO.lst.injEq, HO.tup.injEq, exists_and_left, exists_eq, exists_eq', Br.t, Br.f, Be.t, Be.f, List.cons.injEq, List.append_nil, scal, if_true, if_false, ite_true, ite_false, eq_self_iff_true, decide_true, decide_false, Bool.not_true, Bool.not_false, reduceIte, List.nil_append, List.cons_append, reduceCtorEq, false_and, exists_false, false_or, or_false, Int.reduceLT, rmd, rsq, rlu, rdp, Bool.true_or, Bool.false_or, Bool.or_false, Bool.or_true, hb]
    exact ⟨n0, n2, q _ _ (Int.emod_nonneg _ (by omega)) (Int.emod_lt_of_pos _ n0) ⟨_, _, _, upd_same⟩ fun a ha => upd_ne ha⟩
  · simp only [and_assoc, rst, rs, re, ra, rq, rx, ro, rl, rl2, rsp, rz, rix, rln, rg, rd, ri, rv, rk, rdd, rwi, at0, at1, at2, at3, upd_at, List.getElem?_cons_zero, List.getElem?_cons_succ, Option.some.injEq, exists_eq_left', exists_eq_left, List.set_cons_zero, List.set_cons_succ, true_and, and_true, HO.lst.injEq, HO.tup.injEq, exists_and_left, exists_eq, exists_eq', Br.t, Br.f, Be.t, Be.f, List.cons.injEq, List.append_nil, scal, if_true, if_false, ite_true, ite_false, eq_self_iff_true, decide_true, decide_false, Bool.not_true, Bool.not_false, reduceIte, List.nil_append, List.cons_append, reduceCtorEq, false_and, exists_false, false_or, or_false, Int.reduceLT, rmd, rsq, rlu, rdp, Bool.true_or, Bool.false_or, Bool.or_false, Bool.or_true, hb]
    exact ⟨small_mul (by decide) (by decide), small_mul' (by decide) (by decide), mod_mul _ _ (by decide) (by decide), small_mul' (by decide) (by decide), mod_mul _ _ (by decide) (by decide), n0, q _ _ (Int.emod_nonneg _ (by omega)) (Int.emod_lt_of_pos _ n0) ⟨_, _, _, upd_same⟩ fun a ha => upd_ne ha⟩
theorem ok__law_box (T : Tx K mg w)   : Cal P w K mg base 1 "_law_box" ["cell"] (sp__law_box K) := by
  refine cal_mk T.F__law_box T.g__law_box sc__law_box (len1 _) (fun _ _ _ _ _ _ us hl => match us, hl with | [_], _ => rfl) (fun cdv A outer s H vs Q E hr h => ?_)
  obtain ⟨v0, rfl, h⟩ := h
  have hu := hu_of hr.r
  refine ⟨_, (pss_cons (ps_if (pt_cmpR op_ge (pv 0) (pe_op op_pow pe_int pe_int) (nomark _)) (pss_one (ps_ret (pe_lst (pa_cons (pv 0) (pa_cons (pe_op op_mod (pv 0) pe_int) (pa_cons pe_int pa_nil)))))) pss_nil)
      (pss_one (ps_ret (pe_lst (pa_cons pe_int (pa_cons (pe_op op_mod (pv 0) pe_int) (pa_cons pe_int pa_nil))))))), ?_⟩
  obtain ⟨z, rfl, q⟩ := h
  simp only [and_assoc, rst, rs, re, ra, rq, rx, ro, rl, rl2, rsp, rz, rix, rln, rg, rd, ri, rv, rk, rdd, rwi, at0, at1, at2, at3, upd_at, List.getElem?_cons_zero, List.getElem?_cons_succ, Option.some.injEq, exists_eq_left', exists_eq_left, List.set_cons_zero, List.set_cons_succ, true_and, and_true, HO.lst.injEq, HO.tup.injEq, exists_and_left, exists_eq, exists_eq', Br.t, Br.f, Be.t, Be.f, List.cons.injEq, List.append_nil, scal, if_true, if_false, ite_true, ite_false, eq_self_iff_true, decide_true, decide_false, Bool.not_true, Bool.not_false, reduceIte, List.nil_append, List.cons_append, reduceCtorEq, false_and, exists_false, false_or, or_false, Int.reduceLT, rmd, rsq, rlu, rdp, Bool.true_or, Bool.false_or, Bool.or_false, Bool.or_true]
  refine ⟨⟨by decide, by decide, by decide⟩, ?_⟩
  refine Br.d (fun c => ?_) fun c => ?_
  · simp only [and_assoc, rst, rs, re, ra, rq, rx, ro, rl, rl2, rsp, rz, rix, rln, rg, rd, ri, rv, rk, rdd, rwi, at0, at1, at2, at3, upd_at, List.getElem?_cons_zero, List.getElem?_cons_succ, Option.some.injEq, exists_eq_left', exists_eq_left, List.set_cons_zero, List.set_cons_succ, true_and, and_true, HO.lst.injEq, HO.tup.injEq, exists_and_left, exists_eq, exists_eq', Br.t, Br.f, Be.t, Be.f, List.cons.injEq, List.append_nil, scal, if_true, if_false, ite_true, ite_false, eq_self_iff_true, decide_true, decide_false, Bool.not_true, Bool.not_false, reduceIte, List.nil_append, List.cons_append, reduceCtorEq, false_and, exists_false, false_or, or_false, Int.reduceLT, rmd, rsq, rlu, rdp, Bool.true_or, Bool.false_or, Bool.or_false, Bool.or_true]
    exact fun p hp => q p _ (Same.new hp) hp ⟨_, _, _, upd_same⟩
  · simp only [and_assoc, rst, rs, re, ra, rq, rx, ro, rl, rl2, rsp, rz, rix, rln, rg, rd, ri, rv, rk, rdd, rwi, at0, at1, at2, at3, upd_at, List.getElem?_cons_zero, List.getElem?_cons_succ, Option.some.injEq, exists_eq_left', exists_eq_left, List.set_cons_zero, List.set_cons_succ, true_and, and_true, HO.lst.injEq, HO.tup.injEq, exists_and_left, exists_eq, exists_eq', Br.t, Br.f, Be.t, Be.f, List.cons.injEq, List.append_nil, scal, if_true, if_false, ite_true, ite_false, eq_self_iff_true, decide_true, decide_false, Bool.not_true, Bool.not_false, reduceIte, List.nil_append, List.cons_append, reduceCtorEq, false_and, exists_false, false_or, or_false, Int.reduceLT, rmd, rsq, rlu, rdp, Bool.true_or, Bool.false_or, Bool.or_false, Bool.or_true]
    exact fun p hp => q p _ (Same.new hp) hp ⟨_, _, _, upd_same⟩
theorem ok__law_cell_at (T : Tx K mg w)   : Cal P w K mg base 1 "_law_cell_at" ["script", "k"] (sp__law_cell_at K) := by
  refine cal_mk T.F__law_cell_at T.g__law_cell_at sc__law_cell_at (len2 _) (fun _ _ _ _ _ _ us hl => match us, hl with | [_, _], _ => rfl) (fun cdv A outer s H vs Q E hr h => ?_)
  obtain ⟨v0, v1, rfl, h⟩ := h
  have hu := hu_of hr.r
  refine ⟨_, (pss_cons (ps_if (pt_cmpR op_lt (pv 1) (pe_callB call_len_seq (by rfl) T.n_len (by decide +kernel) (pa_cons (pv 0) pa_nil)) (nomark _)) (pss_one (ps_ret (pe_ix ix_list (pv 0) (pv 1) (fun _ _ => rfl)))) pss_nil)
      (pss_one (ps_ret (pe_op op_add (pe_op op_mulA pe_int (pv 1)) pe_int)))), ?_⟩
  obtain ⟨a, ns, i, rfl, hS, rfl, hl, q⟩ := h
  simp only [and_assoc, rst, rs, re, ra, rq, rx, ro, rl, rl2, rsp, rz, rix, rln, rg, rd, ri, rv, rk, rdd, rwi, at0, at1, at2, at3, upd_at, List.getElem?_cons_zero, List.getElem?_cons_succ, Option.some.injEq, exists_eq_left', exists_eq_left, List.set_cons_zero, List.set_cons_succ, true_and, and_true, HO.lst.injEq, HO.tup.injEq, exists_and_left, exists_eq, exists_eq', Br.t, Br.f, Be.t, Be.f, List.cons.injEq, List.append_nil, scal, if_true, if_false, ite_true, ite_false, eq_self_iff_true, decide_true, decide_false, Bool.not_true, Bool.not_false, reduceIte, List.nil_append, List.cons_append, reduceCtorEq, false_and, exists_false, false_or, or_false, Int.reduceLT, rmd, rsq, rlu, rdp, Bool.true_or, Bool.false_or, Bool.or_false, Bool.or_true]
  refine ⟨_, .inl hS, ?_⟩
  refine Br.d (fun c => ?_) fun c => ?_
  · simp only [and_assoc, rst, rs, re, ra, rq, rx, ro, rl, rl2, rsp, rz, rix, rln, rg, rd, ri, rv, rk, rdd, rwi, at0, at1, at2, at3, upd_at, List.getElem?_cons_zero, List.getElem?_cons_succ, Option.some.injEq, exists_eq_left', exists_eq_left, List.set_cons_zero, List.set_cons_succ, true_and, and_true, HO.lst.injEq, HO.tup.injEq, exists_and_left, exists_eq, exists_eq', Br.t, Br.f, Be.t, Be.f, List.cons.injEq, List.append_nil, scal, if_true, if_false, ite_true, ite_false, eq_self_iff_true, decide_true, decide_false, Bool.not_true, Bool.not_false, reduceIte, List.nil_append, List.cons_append, reduceCtorEq, false_and, exists_false, false_or, or_false, Int.reduceLT, rmd, rsq, rlu, rdp, Bool.true_or, Bool.false_or, Bool.or_false, Bool.or_true]
    rw [List.length_map] at c
    have c2 : i < ns.length := by omega
    refine ⟨a, _, _, .int ns[i], rfl, rfl, hS, atI_nat (by rw [List.getElem?_map, List.getElem?_eq_getElem c2]; rfl), q _⟩
  · simp only [and_assoc, rst, rs, re, ra, rq, rx, ro, rl, rl2, rsp, rz, rix, rln, rg, rd, ri, rv, rk, rdd, rwi, at0, at1, at2, at3, upd_at, List.getElem?_cons_zero, List.getElem?_cons_succ, Option.some.injEq, exists_eq_left', exists_eq_left, List.set_cons_zero, List.set_cons_succ, true_and, and_true, HO.lst.injEq, HO.tup.injEq, exists_and_left, exists_eq, exists_eq', Br.t, Br.f, Be.t, Be.f, List.cons.injEq, List.append_nil, scal, if_true, if_false, ite_true, ite_false, eq_self_iff_true, decide_true, decide_false, Bool.not_true, Bool.not_false, reduceIte, List.nil_append, List.cons_append, reduceCtorEq, false_and, exists_false, false_or, or_false, Int.reduceLT, rmd, rsq, rlu, rdp, Bool.true_or, Bool.false_or, Bool.or_false, Bool.or_true]
    exact ⟨small_mul' (by decide) (by decide), q _⟩
theorem ok__law_orders (T : Tx K mg w)   : Cal P w K mg base 1 "_law_orders" ["many"] (sp__law_orders K) := by
  refine cal_mk T.F__law_orders T.g__law_orders sc__law_orders (len1 _) (fun _ _ _ _ _ _ us hl => match us, hl with | [_], _ => rfl) (fun cdv A outer s H vs Q E hr h => ?_)
  obtain ⟨v0, rfl, h⟩ := h
  have hu := hu_of hr.r
  refine ⟨_, (pss_cons (ps_set (i := 1) sc__law_orders.nd rfl (Or.inl rfl) pe_int)
      (pss_cons (ps_for (passes_of rfl) rfl (pi_range2 (by rfl) T.n_range (pa_cons pe_int (pa_cons (pe_op op_add (pv 0) pe_int) pa_nil))) (pg_name (i := 2) sc__law_orders.nd rfl (Or.inl rfl)) (pss_one (ps_set (i := 1) sc__law_orders.nd rfl (Or.inl rfl) (pe_op op_mulA (pv 1) (pv 2)))))
      (pss_one (ps_ret (pv 1))))), ?_⟩
  obtain ⟨k, rfl, hk, q⟩ := h
  simp only [and_assoc, rst, rs, re, ra, rq, rx, ro, rl, rl2, rsp, rz, rix, rln, rg, rd, ri, rv, rk, rdd, rwi, at0, at1, at2, at3, upd_at, List.getElem?_cons_zero, List.getElem?_cons_succ, Option.some.injEq, exists_eq_left', exists_eq_left, List.set_cons_zero, List.set_cons_succ, true_and, and_true, HO.lst.injEq, HO.tup.injEq, exists_and_left, exists_eq, exists_eq', Br.t, Br.f, Be.t, Be.f, List.cons.injEq, List.append_nil, scal, if_true, if_false, ite_true, ite_false, eq_self_iff_true, decide_true, decide_false, Bool.not_true, Bool.not_false, reduceIte, List.nil_append, List.cons_append, reduceCtorEq, false_and, exists_false, false_or, or_false, Int.reduceLT, rmd, rsq, rlu, rdp, Bool.true_or, Bool.false_or, Bool.or_false, Bool.or_true]
  refine ⟨by decide, by decide, by omega, by omega, ?_⟩
  refine FI.rng (fun i σ H' => ∃ v2, H' = H ∧ σ = [some (.int k), some (.int (fac (i + 1))), v2]) ⟨none, rfl, rfl⟩ ?_ ?_
  · rintro i σ H' hi ⟨v2, rfl, rfl⟩
    simp only [and_assoc, rst, rs, re, ra, rq, rx, ro, rl, rl2, rsp, rz, rix, rln, rg, rd, ri, rv, rk, rdd, rwi, at0, at1, at2, at3, upd_at, List.getElem?_cons_zero, List.getElem?_cons_succ, Option.some.injEq, exists_eq_left', exists_eq_left, List.set_cons_zero, List.set_cons_succ, true_and, and_true, HO.lst.injEq, HO.tup.injEq, exists_and_left, exists_eq, exists_eq', Br.t, Br.f, Be.t, Be.f, List.cons.injEq, List.append_nil, scal, if_true, if_false, ite_true, ite_false, eq_self_iff_true, decide_true, decide_false, Bool.not_true, Bool.not_false, reduceIte, List.nil_append, List.cons_append, reduceCtorEq, false_and, exists_false, false_or, or_false, Int.reduceLT, rmd, rsq, rlu, rdp, Bool.true_or, Bool.false_or, Bool.or_false, Bool.or_true]
    refine ⟨small_mul (by omega) (by omega), ?_⟩
    show fac (i + 1) * (2 + (i : Int)) = fac (i + 1) * (((i + 1 : Nat) : Int) + 1)
    congr 1
    omega
  · rintro σ H' ⟨v2, rfl, rfl⟩
    simp only [and_assoc, rst, rs, re, ra, rq, rx, ro, rl, rl2, rsp, rz, rix, rln, rg, rd, ri, rv, rk, rdd, rwi, at0, at1, at2, at3, upd_at, List.getElem?_cons_zero, List.getElem?_cons_succ, Option.some.injEq, exists_eq_left', exists_eq_left, List.set_cons_zero, List.set_cons_succ, true_and, and_true, HO.lst.injEq, HO.tup.injEq, exists_and_left, exists_eq, exists_eq', Br.t, Br.f, Be.t, Be.f, List.cons.injEq, List.append_nil, scal, if_true, if_false, ite_true, ite_false, eq_self_iff_true, decide_true, decide_false, Bool.not_true, Bool.not_false, reduceIte, List.nil_append, List.cons_append, reduceCtorEq, false_and, exists_false, false_or, or_false, Int.reduceLT, rmd, rsq, rlu, rdp, Bool.true_or, Bool.false_or, Bool.or_false, Bool.or_true]
    rcases Nat.eq_zero_or_pos k with e | e
    · subst e
      exact q
    · rw [show ((k : Int) + 1 - 2).toNat + 1 = k by omega]
      exact q
theorem wl_zero (n : Nat) : ∀ j : Nat, wl n (n + 1 + j) = 0
  | 0 => by
    show wl n n * ((n : Int) - n) / _ = 0
    rw [Int.sub_self, Int.mul_zero, Int.zero_ediv]
  | j + 1 => by
    show wl n (n + 1 + j) * _ / _ = 0
    rw [wl_zero n j, Int.zero_mul, Int.zero_ediv]
theorem wys_wl (n k : Nat) : wys n k = wl n k := by
  unfold wys
  split
  · obtain ⟨j, rfl⟩ : ∃ j, k = n + 1 + j := ⟨k - (n + 1), by omega⟩
    rw [wl_zero]
  · rfl
theorem ok__law_sets (T : Tx K mg w)   : Cal P w K mg base 1 "_law_sets" ["many", "size"] (sp__law_sets K) := by
  refine cal_mk T.F__law_sets T.g__law_sets sc__law_sets (len2 _) (fun _ _ _ _ _ _ us hl => match us, hl with | [_, _], _ => rfl) (fun cdv A outer s H vs Q E hr h => ?_)
  obtain ⟨v0, v1, rfl, h⟩ := h
  have hu := hu_of hr.r
  refine ⟨_, (pss_cons (ps_set (i := 2) sc__law_sets.nd rfl (Or.inl rfl) pe_int)
      (pss_cons (ps_for (passes_of rfl) rfl (pi_range1 (by rfl) T.n_range (pa_cons (pv 1) pa_nil)) (pg_name (i := 3) sc__law_sets.nd rfl (Or.inl rfl)) (pss_one (ps_set (i := 2) sc__law_sets.nd rfl (Or.inl rfl) (pe_op op_fdivW (pe_op op_mulA (pv 2) (pe_op op_sub (pv 0) (pv 3))) (pe_op op_add (pv 3) pe_int)))))
      (pss_one (ps_ret (pv 2))))), ?_⟩
  obtain ⟨n, k, rfl, rfl, hn, hk, q⟩ := h
  simp only [and_assoc, rst, rs, re, ra, rq, rx, ro, rl, rl2, rsp, rz, rix, rln, rg, rd, ri, rv, rk, rdd, rwi, at0, at1, at2, at3, upd_at, List.getElem?_cons_zero, List.getElem?_cons_succ, Option.some.injEq, exists_eq_left', exists_eq_left, List.set_cons_zero, List.set_cons_succ, true_and, and_true, HO.lst.injEq, HO.tup.injEq, exists_and_left, exists_eq, exists_eq', Br.t, Br.f, Be.t, Be.f, List.cons.injEq, List.append_nil, scal, if_true, if_false, ite_true, ite_false, eq_self_iff_true, decide_true, decide_false, Bool.not_true, Bool.not_false, reduceIte, List.nil_append, List.cons_append, reduceCtorEq, false_and, exists_false, false_or, or_false, Int.reduceLT, rmd, rsq, rlu, rdp, Bool.true_or, Bool.false_or, Bool.or_false, Bool.or_true]
  rw [wys_wl] at q
  refine ⟨by omega, by omega, ?_⟩
  rw [Int.toNat_natCast]
  refine FI.rng (fun i σ H' => ∃ v3, H' = H ∧ σ = [some (.int n), some (.int k), some (.int (wl n i)), v3]) ⟨none, rfl, rfl⟩ ?_ ?_
  · rintro i σ H' hi ⟨v3, rfl, rfl⟩
    simp only [and_assoc, rst, rs, re, ra, rq, rx, ro, rl, rl2, rsp, rz, rix, rln, rg, rd, ri, rv, rk, rdd, rwi, at0, at1, at2, at3, upd_at, List.getElem?_cons_zero, List.getElem?_cons_succ, Option.some.injEq, exists_eq_left', exists_eq_left, List.set_cons_zero, List.set_cons_succ, true_and, and_true, HO.lst.injEq, HO.tup.injEq, exists_and_left, exists_eq, exists_eq', Br.t, Br.f, Be.t, Be.f, List.cons.injEq, List.append_nil, scal, if_true, if_false, ite_true, ite_false, eq_self_iff_true, decide_true, decide_false, Bool.not_true, Bool.not_false, reduceIte, List.nil_append, List.cons_append, reduceCtorEq, false_and, exists_false, false_or, or_false, Int.reduceLT, rmd, rsq, rlu, rdp, Bool.true_or, Bool.false_or, Bool.or_false, Bool.or_true]
    rw [Int.zero_add]
    exact ⟨small_mul (by omega) (by omega), wide_div (by omega) (b := 64) (by omega) (by decide) (by decide), rfl⟩
  · rintro σ H' ⟨v3, rfl, rfl⟩
    simp only [and_assoc, rst, rs, re, ra, rq, rx, ro, rl, rl2, rsp, rz, rix, rln, rg, rd, ri, rv, rk, rdd, rwi, at0, at1, at2, at3, upd_at, List.getElem?_cons_zero, List.getElem?_cons_succ, Option.some.injEq, exists_eq_left', exists_eq_left, List.set_cons_zero, List.set_cons_succ, true_and, and_true, HO.lst.injEq, HO.tup.injEq, exists_and_left, exists_eq, exists_eq', Br.t, Br.f, Be.t, Be.f, List.cons.injEq, List.append_nil, scal, if_true, if_false, ite_true, ite_false, eq_self_iff_true, decide_true, decide_false, Bool.not_true, Bool.not_false, reduceIte, List.nil_append, List.cons_append, reduceCtorEq, false_and, exists_false, false_or, or_false, Int.reduceLT, rmd, rsq, rlu, rdp, Bool.true_or, Bool.false_or, Bool.or_false, Bool.or_true]
    exact q
theorem ok__law_share (T : Tx K mg w)   : Cal P w K mg base 1 "_law_share" ["portions", "number"] (sp__law_share K) := by
  refine cal_mk T.F__law_share T.g__law_share sc__law_share (len2 _) (fun _ _ _ _ _ _ us hl => match us, hl with | [_, _], _ => rfl) (fun cdv A outer s H vs Q E hr h => ?_)
  obtain ⟨v0, v1, rfl, h⟩ := h
  have hu := hu_of hr.r
  refine ⟨_, (pss_cons (ps_set (i := 2) sc__law_share.nd rfl (Or.inl rfl) pe_int)
      (pss_cons (ps_while (passes_of rfl) (pt_cmpR op_ge (pv 1) (pe_ix ix_q (pv 0) (pv 2) (fun _ _ => rfl)) (nomark _)) (pss_cons (ps_set (i := 1) sc__law_share.nd rfl (Or.inl rfl) (pe_op op_sub (pv 1) (pe_ix ix_q (pv 0) (pv 2) (fun _ _ => rfl))))
      (pss_one (ps_set (i := 2) sc__law_share.nd rfl (Or.inl rfl) (pe_op op_add (pv 2) pe_int)))))
      (pss_one (ps_ret (pv 2))))), ?_⟩
  obtain ⟨ps, zz, ⟨p, o, rfl, hp, hs⟩, ho, rfl, z0, z1, q⟩ := h
  simp only [and_assoc, rst, rs, re, ra, rq, rx, ro, rl, rl2, rsp, rz, rix, rln, rg, rd, ri, rv, rk, rdd, rwi, at0, at1, at2, at3, upd_at, List.getElem?_cons_zero, List.getElem?_cons_succ, Option.some.injEq, exists_eq_left', exists_eq_left, List.set_cons_zero, List.set_cons_succ, true_and, and_true, HO.lst.injEq, HO.tup.injEq, exists_and_left, exists_eq, exists_eq', Br.t, Br.f, Be.t, Be.f, List.cons.injEq, List.append_nil, scal, if_true, if_false, ite_true, ite_false, eq_self_iff_true, decide_true, decide_false, Bool.not_true, Bool.not_false, reduceIte, List.nil_append, List.cons_append, reduceCtorEq, false_and, exists_false, false_or, or_false, Int.reduceLT, rmd, rsq, rlu, rdp, Bool.true_or, Bool.false_or, Bool.or_false, Bool.or_true]
  refine wh (fun m σ H' => ∃ (i : Nat) (z : Int), H' = H ∧ i + m = ps.length ∧ 0 ≤ z ∧ z < (ps.drop i).sum ∧ i + shGo (ps.drop i) z = shGo ps zz ∧ σ = [some (.ref p), some (.int z), some (.int (i : Int))]) ps.length ⟨0, zz, rfl, by omega, z0, z1, Nat.zero_add _, rfl⟩ ?_
  rintro m σ H' ⟨i, z, rfl, hm, z0, z1, hg, rfl⟩
  have hi : i < ps.length := by
    rcases Nat.lt_or_ge i ps.length with c | c
    · exact c
    · rw [List.drop_eq_nil_of_le c] at z1
      simp at z1
      omega
  rw [List.drop_eq_getElem_cons hi, List.sum_cons] at z1
  rw [List.drop_eq_getElem_cons hi] at hg
  have gi : atI (ps.map V.int) (i : Int) = some (V.int ps[i]) := atI_nat (by rw [List.getElem?_map, List.getElem?_eq_getElem hi]; rfl)
  simp only [and_assoc, rst, rs, re, ra, rq, rx, ro, rl, rl2, rsp, rz, rix, rln, rg, rd, ri, rv, rk, rdd, rwi, at0, at1, at2, at3, upd_at, List.getElem?_cons_zero, List.getElem?_cons_succ, Option.some.injEq, exists_eq_left', exists_eq_left, List.set_cons_zero, List.set_cons_succ, true_and, and_true, HO.lst.injEq, HO.tup.injEq, exists_and_left, exists_eq, exists_eq', Br.t, Br.f, Be.t, Be.f, List.cons.injEq, List.append_nil, scal, if_true, if_false, ite_true, ite_false, eq_self_iff_true, decide_true, decide_false, Bool.not_true, Bool.not_false, reduceIte, List.nil_append, List.cons_append, reduceCtorEq, false_and, exists_false, false_or, or_false, Int.reduceLT, rmd, rsq, rlu, rdp, Bool.true_or, Bool.false_or, Bool.or_false, Bool.or_true]
  refine ⟨o, hp, _, hs, _, gi, _, rfl, Br.d (fun c => ?_) fun c => ?_⟩
  · refine Nx.go ?_
    simp only [and_assoc, rst, rs, re, ra, rq, rx, ro, rl, rl2, rsp, rz, rix, rln, rg, rd, ri, rv, rk, rdd, rwi, at0, at1, at2, at3, upd_at, List.getElem?_cons_zero, List.getElem?_cons_succ, Option.some.injEq, exists_eq_left', exists_eq_left, List.set_cons_zero, List.set_cons_succ, true_and, and_true, HO.lst.injEq, HO.tup.injEq, exists_and_left, exists_eq, exists_eq', Br.t, Br.f, Be.t, Be.f, List.cons.injEq, List.append_nil, scal, if_true, if_false, ite_true, ite_false, eq_self_iff_true, decide_true, decide_false, Bool.not_true, Bool.not_false, reduceIte, List.nil_append, List.cons_append, reduceCtorEq, false_and, exists_false, false_or, or_false, Int.reduceLT, rmd, rsq, rlu, rdp, Bool.true_or, Bool.false_or, Bool.or_false, Bool.or_true]
    refine ⟨o, hp, _, hs, _, gi, _, rfl, ?_⟩
    refine ⟨m - 1, by omega, i + 1, by omega, _, by omega, by omega, ?_, rfl, by omega⟩
    rw [← hg]
    show i + 1 + _ = i + (if ps[i] ≤ z then _ else 0)
    rw [if_pos c]
    omega
  · simp only [and_assoc, rst, rs, re, ra, rq, rx, ro, rl, rl2, rsp, rz, rix, rln, rg, rd, ri, rv, rk, rdd, rwi, at0, at1, at2, at3, upd_at, List.getElem?_cons_zero, List.getElem?_cons_succ, Option.some.injEq, exists_eq_left', exists_eq_left, List.set_cons_zero, List.set_cons_succ, true_and, and_true, HO.lst.injEq, HO.tup.injEq, exists_and_left, exists_eq, exists_eq', Br.t, Br.f, Be.t, Be.f, List.cons.injEq, List.append_nil, scal, if_true, if_false, ite_true, ite_false, eq_self_iff_true, decide_true, decide_false, Bool.not_true, Bool.not_false, reduceIte, List.nil_append, List.cons_append, reduceCtorEq, false_and, exists_false, false_or, or_false, Int.reduceLT, rmd, rsq, rlu, rdp, Bool.true_or, Bool.false_or, Bool.or_false, Bool.or_true]
    rw [← hg] at q
    have : shGo (ps[i] :: ps.drop (i + 1)) z = 0 := by
      show (if ps[i] ≤ z then _ else 0) = 0
      rw [if_neg c]
    rw [this] at q
    exact q
theorem ok__law_order (T : Tx K mg w) (c__law_orders : Cal P w K mg base 1 "_law_orders" ["many"] (sp__law_orders K))  : Cal P w K mg base 2 "_law_order" ["many", "rank"] (sp__law_order K) := by
  refine cal_mk T.F__law_order T.g__law_order sc__law_order (len2 _) (fun _ _ _ _ _ _ us hl => match us, hl with | [_, _], _ => rfl) (fun cdv A outer s H vs Q E hr h => ?_)
  obtain ⟨v0, v1, rfl, h⟩ := h
  have hu := hu_of hr.r
  refine ⟨_, (pss_cons (ps_set (i := 2) sc__law_order.nd rfl (Or.inl rfl) (pe_listRg rfl (by rfl) T.n_list (prg_1 (by rfl) T.n_range (pv 0))))
      (pss_cons (ps_set (i := 3) sc__law_order.nd rfl (Or.inl rfl) (pe_lst pa_nil))
      (pss_cons (ps_for (passes_of rfl) rfl (pi_range1 (by rfl) T.n_range (pa_cons (pv 0) pa_nil)) (pg_name (i := 4) sc__law_order.nd rfl (Or.inl rfl)) (pss_cons (ps_set (i := 5) sc__law_order.nd rfl (Or.inl rfl) (pe_cal c__law_orders hr (by decide) passL rfl (pa_cons (pe_op op_sub (pe_op op_sub (pv 0) pe_int) (pv 4)) pa_nil)))
      (pss_cons (ps_expr (pe_ml PySem.F.slot_list_append PySem.F.type_list_append mt_append (pv 3) (pa_cons (pe_ml PySem.F.slot_list_pop PySem.F.type_list_pop mt_popAt (pv 2) (pa_cons (pe_op op_fdivW (pv 1) (pv 5)) pa_nil)) pa_nil)))
      (pss_one (ps_set (i := 1) sc__law_order.nd rfl (Or.inl rfl) (pe_op op_mod (pv 1) (pv 5)))))))
      (pss_one (ps_ret (pe_callTy tup_q (by rfl) T.n_tuple (by decide +kernel) (pa_cons (pv 3) pa_nil))))))), ?_⟩
  obtain ⟨k, zz, rfl, rfl, hk, z0, z1, q⟩ := h
  simp only [and_assoc, rst, rs, re, ra, rq, rx, ro, rl, rl2, rsp, rz, rix, rln, rg, rd, ri, rv, rk, rdd, rwi, at0, at1, at2, at3, upd_at, List.getElem?_cons_zero, List.getElem?_cons_succ, Option.some.injEq, exists_eq_left', exists_eq_left, List.set_cons_zero, List.set_cons_succ, true_and, and_true, HO.lst.injEq, HO.tup.injEq, exists_and_left, exists_eq, exists_eq', Br.t, Br.f, Be.t, Be.f, List.cons.injEq, List.append_nil, scal, if_true, if_false, ite_true, ite_false, eq_self_iff_true, decide_true, decide_false, Bool.not_true, Bool.not_false, reduceIte, List.nil_append, List.cons_append, reduceCtorEq, false_and, exists_false, false_or, or_false, Int.reduceLT, rmd, rsq, rlu, rdp, Bool.true_or, Bool.false_or, Bool.or_false, Bool.or_true]
  refine ⟨⟨by decide, by decide, by omega, by omega, by omega⟩, fun l hl f hf => ⟨by omega, by omega, ?_⟩⟩
  have n3 := ne_of_none (upd_same (H := H) (a := l) (o := .lst (rgV 0 k))) hf
  have sl : Same H (upd H l (.lst (rgV 0 k))) := Same.new hl
  have ff : H f = none := Same.free sl hf
  rw [Int.toNat_natCast]
  refine FI.rng (fun i σ H' => ∃ v5 v6 z xs ys, Same H H' ∧ H' l = some (.lst (xs.map V.int)) ∧ xs.length + i = k ∧ H' f = some (.lst (ys.map V.int)) ∧ ys.length = i ∧ 0 ≤ z ∧ z < fac (k - i) ∧ ys ++ ordGo (k - i) z xs = ordAt k zz ∧ σ = [some (.int k), some (.int z), some (.ref l), some (.ref f), v5, v6])
    ⟨none, none, zz, (List.range k).map fun j : Nat => (j : Int), [], Same.trans sl (Same.new hf), ?_, by simp, upd_same, rfl, z0, z1, rfl, rfl⟩ ?_ ?_
  · rw [upd_ne n3, upd_same, rgV, List.map_map]
    simp [Function.comp_def]
  · rintro i σ H' hi ⟨v5, v6, z, xs, ys, s, h2, h3, h4, h5, z0, z1, hg, rfl⟩
    obtain ⟨j, hj⟩ : ∃ j, k - i = j + 1 := ⟨k - i - 1, by omega⟩
    rw [hj] at z1 hg
    have f0 := fac_pos j
    have f1 := fac_small j (by omega)
    obtain ⟨a, ea, al⟩ := div_lt (f := fac j) (by omega) z0 z1
    simp only [and_assoc, rst, rs, re, ra, rq, rx, ro, rl, rl2, rsp, rz, rix, rln, rg, rd, ri, rv, rk, rdd, rwi, at0, at1, at2, at3, upd_at, List.getElem?_cons_zero, List.getElem?_cons_succ, Option.some.injEq, exists_eq_left', exists_eq_left, List.set_cons_zero, List.set_cons_succ, true_and, and_true, HO.lst.injEq, HO.tup.injEq, exists_and_left, exists_eq, exists_eq', Br.t, Br.f, Be.t, Be.f, List.cons.injEq, List.append_nil, scal, if_true, if_false, ite_true, ite_false, eq_self_iff_true, decide_true, decide_false, Bool.not_true, Bool.not_false, reduceIte, List.nil_append, List.cons_append, reduceCtorEq, false_and, exists_false, false_or, or_false, Int.reduceLT, rmd, rsq, rlu, rdp, Bool.true_or, Bool.false_or, Bool.or_false, Bool.or_true]
    rw [show (k : Int) - 1 - (0 + (i : Int)) = (j : Int) by omega]
    refine ⟨_, rfl, j, rfl, by omega, ?_⟩
    have zs := fac_small (j + 1) (by omega)
    simp only [and_assoc, rst, rs, re, ra, rq, rx, ro, rl, rl2, rsp, rz, rix, rln, rg, rd, ri, rv, rk, rdd, rwi, at0, at1, at2, at3, upd_at, List.getElem?_cons_zero, List.getElem?_cons_succ, Option.some.injEq, exists_eq_left', exists_eq_left, List.set_cons_zero, List.set_cons_succ, true_and, and_true, HO.lst.injEq, HO.tup.injEq, exists_and_left, exists_eq, exists_eq', Br.t, Br.f, Be.t, Be.f, List.cons.injEq, List.append_nil, scal, if_true, if_false, ite_true, ite_false, eq_self_iff_true, decide_true, decide_false, Bool.not_true, Bool.not_false, reduceIte, List.nil_append, List.cons_append, reduceCtorEq, false_and, exists_false, false_or, or_false, Int.reduceLT, rmd, rsq, rlu, rdp, Bool.true_or, Bool.false_or, Bool.or_false, Bool.or_true]
    have a4 : (f = l) = False := eq_false fun z => n3 z.symm
    have a5 : (l = f) = False := eq_false n3
    rw [ea]
    have ax : a < xs.length := by omega
    have gx : (xs.map V.int)[a]? = some (V.int xs[a]) := by rw [List.getElem?_map, List.getElem?_eq_getElem ax]; rfl
    simp only [and_assoc, rst, rs, re, ra, rq, rx, ro, rl, rl2, rsp, rz, rix, rln, rg, rd, ri, rv, rk, rdd, rwi, at0, at1, at2, at3, upd_at, List.getElem?_cons_zero, List.getElem?_cons_succ, Option.some.injEq, exists_eq_left', exists_eq_left, List.set_cons_zero, List.set_cons_succ, true_and, and_true, HO.lst.injEq, HO.tup.injEq, exists_and_left, exists_eq, exists_eq', Br.t, Br.f, Be.t, Be.f, List.cons.injEq, List.append_nil, scal, if_true, if_false, ite_true, ite_false, eq_self_iff_true, decide_true, decide_false, Bool.not_true, Bool.not_false, reduceIte, List.nil_append, List.cons_append, reduceCtorEq, false_and, exists_false, false_or, or_false, Int.reduceLT, rmd, rsq, rlu, rdp, Bool.true_or, Bool.false_or, Bool.or_false, Bool.or_true, a4, a5, h2, h4]
    refine ⟨wide_div (by omega) (b := 64) (by omega) (by decide) (by decide), by omega, by omega, a, by rw [List.length_map]; exact seq_nat ax, _, gx, by rw [sizeLine_eq, List.length_map]; omega, by omega, Same.mut (Same.mut s hl) ff, _, _, z % fac j, xs.eraseIdx a, erase_map, ?_, ys ++ [xs[a]], by rw [List.map_append]; rfl, ?_, Int.emod_nonneg _ (by omega), ?_, ?_, rfl, rfl, rfl⟩
    · rw [List.length_eraseIdx_of_lt ax]
      omega
    · rw [List.length_append, h5]
      rfl
    · rw [show k - (i + 1) = j by omega]
      exact Int.emod_lt_of_pos _ (by omega)
    · rw [show k - (i + 1) = j by omega, ← hg]
      show ys ++ [xs[a]] ++ ordGo j (z % fac j) (xs.eraseIdx a) = ys ++ (xs.getD (z / fac j).toNat 0 :: ordGo j (z % fac j) (xs.eraseIdx (z / fac j).toNat))
      rw [ea, Int.toNat_natCast, List.append_assoc, List.getD_eq_getElem?_getD, List.getElem?_eq_getElem ax]
      rfl
  · rintro σ H' ⟨v5, v6, z, xs, ys, s, h2, h3, h4, h5, z0, z1, hg, rfl⟩
    simp only [and_assoc, rst, rs, re, ra, rq, rx, ro, rl, rl2, rsp, rz, rix, rln, rg, rd, ri, rv, rk, rdd, rwi, at0, at1, at2, at3, upd_at, List.getElem?_cons_zero, List.getElem?_cons_succ, Option.some.injEq, exists_eq_left', exists_eq_left, List.set_cons_zero, List.set_cons_succ, true_and, and_true, HO.lst.injEq, HO.tup.injEq, exists_and_left, exists_eq, exists_eq', Br.t, Br.f, Be.t, Be.f, List.cons.injEq, List.append_nil, scal, if_true, if_false, ite_true, ite_false, eq_self_iff_true, decide_true, decide_false, Bool.not_true, Bool.not_false, reduceIte, List.nil_append, List.cons_append, reduceCtorEq, false_and, exists_false, false_or, or_false, Int.reduceLT, rmd, rsq, rlu, rdp, Bool.true_or, Bool.false_or, Bool.or_false, Bool.or_true, h4]
    refine fun q1 hq => q _ _ (Same.trans s (Same.new hq)) ?_
    rw [upd_same, ← hg, Nat.sub_self]
    show _ = some (HO.tup ((ys ++ []).map V.int))
    rw [List.append_nil]
theorem ok__law_set (T : Tx K mg w) (c__law_sets : Cal P w K mg base 1 "_law_sets" ["many", "size"] (sp__law_sets K))  : Cal P w K mg base 2 "_law_set" ["many", "size", "rank"] (sp__law_set K) := by
  refine cal_mk T.F__law_set T.g__law_set sc__law_set (len3 _) (fun _ _ _ _ _ _ us hl => match us, hl with | [_, _, _], _ => rfl) (fun cdv A outer s H vs Q E hr h => ?_)
  obtain ⟨v0, v1, v2, rfl, h⟩ := h
  have hu := hu_of hr.r
  refine ⟨_, (pss_cons (ps_set (i := 3) sc__law_set.nd rfl (Or.inl rfl) (pe_lst pa_nil))
      (pss_cons (ps_for (passes_of rfl) rfl (pi_range1 (by rfl) T.n_range (pa_cons (pv 0) pa_nil)) (pg_name (i := 4) sc__law_set.nd rfl (Or.inl rfl)) (pss_one (ps_if (pt_cmpR op_lt (pe_callB len_q (by rfl) T.n_len (by decide +kernel) (pa_cons (pv 3) pa_nil)) (pv 1) (nomark _)) (pss_cons (ps_set (i := 5) sc__law_set.nd rfl (Or.inl rfl) (pe_cal c__law_sets hr (by decide) passL rfl (pa_cons (pe_op op_sub (pe_op op_sub (pv 0) pe_int) (pv 4)) (pa_cons (pe_op op_sub (pe_op op_sub (pv 1) pe_int) (pe_callB len_q (by rfl) T.n_len (by decide +kernel) (pa_cons (pv 3) pa_nil))) pa_nil))))
      (pss_one (ps_if (pt_cmpR op_lt (pv 2) (pv 5) (nomark _)) (pss_one (ps_expr (pe_ml PySem.F.slot_list_append PySem.F.type_list_append mt_append (pv 3) (pa_cons (pv 4) pa_nil)))) (pss_one (ps_set (i := 2) sc__law_set.nd rfl (Or.inl rfl) (pe_op op_sub (pv 2) (pv 5))))))) pss_nil)))
      (pss_one (ps_ret (pe_callTy tup_q (by rfl) T.n_tuple (by decide +kernel) (pa_cons (pv 3) pa_nil)))))), ?_⟩
  obtain ⟨n, k, z, rfl, rfl, rfl, hn, hk, z0, z1, q⟩ := h
  simp only [and_assoc, rst, rs, re, ra, rq, rx, ro, rl, rl2, rsp, rz, rix, rln, rg, rd, ri, rv, rk, rdd, rwi, at0, at1, at2, at3, upd_at, List.getElem?_cons_zero, List.getElem?_cons_succ, Option.some.injEq, exists_eq_left', exists_eq_left, List.set_cons_zero, List.set_cons_succ, true_and, and_true, HO.lst.injEq, HO.tup.injEq, exists_and_left, exists_eq, exists_eq', Br.t, Br.f, Be.t, Be.f, List.cons.injEq, List.append_nil, scal, if_true, if_false, ite_true, ite_false, eq_self_iff_true, decide_true, decide_false, Bool.not_true, Bool.not_false, reduceIte, List.nil_append, List.cons_append, reduceCtorEq, false_and, exists_false, false_or, or_false, Int.reduceLT, rmd, rsq, rlu, rdp, Bool.true_or, Bool.false_or, Bool.or_false, Bool.or_true]
  intro f hf
  refine ⟨by omega, by omega, ?_⟩
  rw [Int.toNat_natCast]
  refine FI.rng (fun i σ H' => ∃ v4 v5, Same H H' ∧ H' f = some (.lst ((setTo n k z i).2.map V.int)) ∧ σ = [some (.int n), some (.int k), some (.int (setTo n k z i).1), some (.ref f), v4, v5]) ⟨none, none, Same.new hf, upd_same, rfl⟩ ?_ ?_
  · rintro i σ H' hi ⟨v4, v5, s, h1, rfl⟩
    obtain ⟨r0, l1, l2⟩ := setTo_ok (z := z) hn hk z0 i
    have e3 : setTo n k z (i + 1) = setStep n k (setTo n k z i) i := rfl
    generalize setTo n k z i = st at h1 r0 l1 l2 e3 ⊢
    obtain ⟨rr, fs⟩ := st
    simp only [and_assoc, rst, rs, re, ra, rq, rx, ro, rl, rl2, rsp, rz, rix, rln, rg, rd, ri, rv, rk, rdd, rwi, at0, at1, at2, at3, upd_at, List.getElem?_cons_zero, List.getElem?_cons_succ, Option.some.injEq, exists_eq_left', exists_eq_left, List.set_cons_zero, List.set_cons_succ, true_and, and_true, HO.lst.injEq, HO.tup.injEq, exists_and_left, exists_eq, exists_eq', Br.t, Br.f, Be.t, Be.f, List.cons.injEq, List.append_nil, scal, if_true, if_false, ite_true, ite_false, eq_self_iff_true, decide_true, decide_false, Bool.not_true, Bool.not_false, reduceIte, List.nil_append, List.cons_append, reduceCtorEq, false_and, exists_false, false_or, or_false, Int.reduceLT, rmd, rsq, rlu, rdp, Bool.true_or, Bool.false_or, Bool.or_false, Bool.or_true, h1]
    rw [List.length_map, e3]
    refine Br.d (fun c => ?_) fun c => ?_
    · simp only [and_assoc, rst, rs, re, ra, rq, rx, ro, rl, rl2, rsp, rz, rix, rln, rg, rd, ri, rv, rk, rdd, rwi, at0, at1, at2, at3, upd_at, List.getElem?_cons_zero, List.getElem?_cons_succ, Option.some.injEq, exists_eq_left', exists_eq_left, List.set_cons_zero, List.set_cons_succ, true_and, and_true, HO.lst.injEq, HO.tup.injEq, exists_and_left, exists_eq, exists_eq', Br.t, Br.f, Be.t, Be.f, List.cons.injEq, List.append_nil, scal, if_true, if_false, ite_true, ite_false, eq_self_iff_true, decide_true, decide_false, Bool.not_true, Bool.not_false, reduceIte, List.nil_append, List.cons_append, reduceCtorEq, false_and, exists_false, false_or, or_false, Int.reduceLT, rmd, rsq, rlu, rdp, Bool.true_or, Bool.false_or, Bool.or_false, Bool.or_true, h1]
      rw [List.length_map]
      refine ⟨_, _, rfl, n - i - 1, k - fs.length - 1, by rw [show (n : Int) - 1 - (0 + (i : Int)) = ((n - i - 1 : Nat) : Int) by omega], by rw [show (k : Int) - 1 - (fs.length : Int) = ((k - fs.length - 1 : Nat) : Int) by omega], by omega, by omega, ?_⟩
      simp only [and_assoc, rst, rs, re, ra, rq, rx, ro, rl, rl2, rsp, rz, rix, rln, rg, rd, ri, rv, rk, rdd, rwi, at0, at1, at2, at3, upd_at, List.getElem?_cons_zero, List.getElem?_cons_succ, Option.some.injEq, exists_eq_left', exists_eq_left, List.set_cons_zero, List.set_cons_succ, true_and, and_true, HO.lst.injEq, HO.tup.injEq, exists_and_left, exists_eq, exists_eq', Br.t, Br.f, Be.t, Be.f, List.cons.injEq, List.append_nil, scal, if_true, if_false, ite_true, ite_false, eq_self_iff_true, decide_true, decide_false, Bool.not_true, Bool.not_false, reduceIte, List.nil_append, List.cons_append, reduceCtorEq, false_and, exists_false, false_or, or_false, Int.reduceLT, rmd, rsq, rlu, rdp, Bool.true_or, Bool.false_or, Bool.or_false, Bool.or_true]
      refine Br.d (fun c2 => ?_) fun c2 => ?_
      · have e4 : setStep n k (rr, fs) i = (rr, fs ++ [(i : Int)]) := by
          unfold setStep
          rw [if_pos (by show fs.length < k; omega), if_pos c2]
        rw [e4]
        simp only [and_assoc, rst, rs, re, ra, rq, rx, ro, rl, rl2, rsp, rz, rix, rln, rg, rd, ri, rv, rk, rdd, rwi, at0, at1, at2, at3, upd_at, List.getElem?_cons_zero, List.getElem?_cons_succ, Option.some.injEq, exists_eq_left', exists_eq_left, List.set_cons_zero, List.set_cons_succ, true_and, and_true, HO.lst.injEq, HO.tup.injEq, exists_and_left, exists_eq, exists_eq', Br.t, Br.f, Be.t, Be.f, List.cons.injEq, List.append_nil, scal, if_true, if_false, ite_true, ite_false, eq_self_iff_true, decide_true, decide_false, Bool.not_true, Bool.not_false, reduceIte, List.nil_append, List.cons_append, reduceCtorEq, false_and, exists_false, false_or, or_false, Int.reduceLT, rmd, rsq, rlu, rdp, Bool.true_or, Bool.false_or, Bool.or_false, Bool.or_true, h1]
        refine ⟨by rw [sizeLine_eq, List.length_map]; omega, Same.mut s hf, ?_⟩
        rw [List.map_append, Int.zero_add]
        rfl
      · have e4 : setStep n k (rr, fs) i = (rr - wys (n - i - 1) (k - fs.length - 1), fs) := by
          unfold setStep
          rw [if_pos (by show fs.length < k; omega), if_neg c2]
        rw [e4]
        simp only [and_assoc, rst, rs, re, ra, rq, rx, ro, rl, rl2, rsp, rz, rix, rln, rg, rd, ri, rv, rk, rdd, rwi, at0, at1, at2, at3, upd_at, List.getElem?_cons_zero, List.getElem?_cons_succ, Option.some.injEq, exists_eq_left', exists_eq_left, List.set_cons_zero, List.set_cons_succ, true_and, and_true, HO.lst.injEq, HO.tup.injEq, exists_and_left, exists_eq, exists_eq', Br.t, Br.f, Be.t, Be.f, List.cons.injEq, List.append_nil, scal, if_true, if_false, ite_true, ite_false, eq_self_iff_true, decide_true, decide_false, Bool.not_true, Bool.not_false, reduceIte, List.nil_append, List.cons_append, reduceCtorEq, false_and, exists_false, false_or, or_false, Int.reduceLT, rmd, rsq, rlu, rdp, Bool.true_or, Bool.false_or, Bool.or_false, Bool.or_true, h1]
        exact s
    · have e4 : setStep n k (rr, fs) i = (rr, fs) := by
        unfold setStep
        rw [if_neg (by show ¬ fs.length < k; omega)]
      rw [e4]
      simp only [and_assoc, rst, rs, re, ra, rq, rx, ro, rl, rl2, rsp, rz, rix, rln, rg, rd, ri, rv, rk, rdd, rwi, at0, at1, at2, at3, upd_at, List.getElem?_cons_zero, List.getElem?_cons_succ, Option.some.injEq, exists_eq_left', exists_eq_left, List.set_cons_zero, List.set_cons_succ, true_and, and_true, HO.lst.injEq, HO.tup.injEq, exists_and_left, exists_eq, exists_eq', Br.t, Br.f, Be.t, Be.f, List.cons.injEq, List.append_nil, scal, if_true, if_false, ite_true, ite_false, eq_self_iff_true, decide_true, decide_false, Bool.not_true, Bool.not_false, reduceIte, List.nil_append, List.cons_append, reduceCtorEq, false_and, exists_false, false_or, or_false, Int.reduceLT, rmd, rsq, rlu, rdp, Bool.true_or, Bool.false_or, Bool.or_false, Bool.or_true, h1]
      exact s
  · rintro σ H' ⟨v4, v5, s, h1, rfl⟩
    simp only [and_assoc, rst, rs, re, ra, rq, rx, ro, rl, rl2, rsp, rz, rix, rln, rg, rd, ri, rv, rk, rdd, rwi, at0, at1, at2, at3, upd_at, List.getElem?_cons_zero, List.getElem?_cons_succ, Option.some.injEq, exists_eq_left', exists_eq_left, List.set_cons_zero, List.set_cons_succ, true_and, and_true, HO.lst.injEq, HO.tup.injEq, exists_and_left, exists_eq, exists_eq', Br.t, Br.f, Be.t, Be.f, List.cons.injEq, List.append_nil, scal, if_true, if_false, ite_true, ite_false, eq_self_iff_true, decide_true, decide_false, Bool.not_true, Bool.not_false, reduceIte, List.nil_append, List.cons_append, reduceCtorEq, false_and, exists_false, false_or, or_false, Int.reduceLT, rmd, rsq, rlu, rdp, Bool.true_or, Bool.false_or, Bool.or_false, Bool.or_true, h1]
    refine fun q1 hq => q _ _ (Same.trans s (Same.new hq)) ?_
    rw [upd_same]
    rfl
end
end Law

-- RDX ral, rmd, rsq, rlu, rdp, Bool.true_or, Bool.false_or, Bool.or_false, Bool.or_true
namespace Law
open PySem PySem.Spec PyProof.Rows L2 Sw
section
variable {P : Program} {w : World} {K : Fg} {mg : Str → Option Value} {base : Heap}
theorem rz__law_total {H : Hp} {x : V} {Q : VK} (h : ∃ sh : Sh, sh.ht < 0 ∧ okS sh ∧ Td H sh x ∧ Q (.int sh.tot) H) : False := by
  obtain ⟨sh, h, _⟩ := h
  omega
theorem ok_okS {sh : Sh} (h : sh.ok) : okS sh := by
  cases sh with
  | pair a b => exact ⟨h.1, h.2.1⟩
  | rows a n => exact ⟨h.1, h.2.1⟩
  | bound b => exact h
  | shares b => exact h
  | orders b => exact h
  | sets b c => exact h
theorem newW {p d : Addr} {H1 : Hp} {o : HO} (b : Well H1 p) (hd : H1 d = none) : d ≠ p ∧ Wl p H1 (upd H1 d o) := ⟨by
  obtain ⟨_, _, _, e⟩ := b
  exact (ne_of_none e hd).symm, Wl.of_same b (Same.new hd)⟩
theorem All2.at {α β : Type} {R : α → β → Prop} : ∀ {l : List α} {m : List β} {i : Nat}, All2 R l m → i < l.length → ∃ a b, l[i]? = some a ∧ m[i]? = some b ∧ R a b
  | a :: _, b :: _, 0, ⟨x, _⟩, _ => ⟨a, b, rfl, rfl, x⟩
  | _ :: _, _ :: _, i + 1, ⟨_, y⟩, h => All2.at (i := i) y (by simp at h; omega)
  | [], [], _, _, h => absurd h (by simp)
theorem isB_sameF {H H' : Hp} (s : Same H H') {x : V} {T : String} {b : Bool} (h : isB H x T = some b) : isB H' x T = some b := isB_same s h
theorem okn__law_total (T : Tx K mg w) (c__law_orders : Cal P w K mg base 1 "_law_orders" ["many"] (sp__law_orders K)) (c__law_sets : Cal P w K mg base 1 "_law_sets" ["many", "size"] (sp__law_sets K)) : ∀ n, Cal P w K mg base (2 + n) "_law_total" ["told"] (spn__law_total K n) := by
  intro n
  induction n with
  | zero =>
    refine cal_mk T.F__law_total T.g__law_total sc__law_total (len1 _) (fun _ _ _ _ _ _ us hl => match us, hl with | [_], _ => rfl) (fun cdv A outer s H vs Q E hr h => ?_)
    obtain ⟨v0, rfl, h⟩ := h
    exact (rz__law_total h).elim
  | succ n c__law_total =>
    refine cal_mk T.F__law_total T.g__law_total sc__law_total (len1 _) (fun _ _ _ _ _ _ us hl => match us, hl with | [_], _ => rfl) (fun cdv A outer s H vs Q E hr h => ?_)
    obtain ⟨v0, rfl, h⟩ := h
    have hu := hu_of hr.r
    refine ⟨_, (pss_cons (ps_if (pt_cmpR op_eq (pe_ix ix_q (pv 0) pe_int (fun _ _ => rfl)) pe_str (nomark _)) (pss_one (ps_ret (pe_ix ix_q (pv 0) pe_int (fun _ _ => rfl)))) pss_nil)
      (pss_cons (ps_if (pt_cmpR op_eq (pe_ix ix_q (pv 0) pe_int (fun _ _ => rfl)) pe_str (nomark _)) (pss_one (ps_ret (pe_callB (sum_q rfl) (by rfl) T.n_sum (by decide +kernel) (pa_cons (pe_ix ix_q (pv 0) pe_int (fun _ _ => rfl)) pa_nil)))) pss_nil)
      (pss_cons (ps_if (pt_cmpR op_eq (pe_ix ix_q (pv 0) pe_int (fun _ _ => rfl)) pe_str (nomark _)) (pss_one (ps_ret (pe_cal c__law_orders hr (Nat.le_trans (by decide : 1 ≤ 2) (Nat.le_add_right _ _)) passL rfl (pa_cons (pe_ix ix_q (pv 0) pe_int (fun _ _ => rfl)) pa_nil)))) pss_nil)
      (pss_cons (ps_if (pt_cmpR op_eq (pe_ix ix_q (pv 0) pe_int (fun _ _ => rfl)) pe_str (nomark _)) (pss_one (ps_ret (pe_cal c__law_sets hr (Nat.le_trans (by decide : 1 ≤ 2) (Nat.le_add_right _ _)) passL rfl (pa_cons (pe_ix ix_q (pv 0) pe_int (fun _ _ => rfl)) (pa_cons (pe_ix ix_q (pv 0) pe_int (fun _ _ => rfl)) pa_nil))))) pss_nil)
      (pss_cons (ps_if (pt_cmpR op_eq (pe_ix ix_q (pv 0) pe_int (fun _ _ => rfl)) pe_str (nomark _)) (pss_one (ps_ret (pe_op op_mulA (pe_cal c__law_total hr (Nat.le_refl _) passL rfl (pa_cons (pe_ix ix_q (pv 0) pe_int (fun _ _ => rfl)) pa_nil)) (pe_cal c__law_total hr (Nat.le_refl _) passL rfl (pa_cons (pe_ix ix_q (pv 0) pe_int (fun _ _ => rfl)) pa_nil))))) pss_nil)
      (pss_cons (ps_set (i := 1) sc__law_total.nd rfl (Or.inl rfl) pe_int)
      (pss_cons (ps_for (passes_of rfl) rfl (pi_range1 (by rfl) T.n_range (pa_cons (pe_ix ix_q (pv 0) pe_int (fun _ _ => rfl)) pa_nil)) (pg_name (i := 2) sc__law_total.nd rfl (Or.inl rfl)) (pss_one (ps_set (i := 1) sc__law_total.nd rfl (Or.inl rfl) (pe_op op_mulA (pv 1) (pe_cal c__law_total hr (Nat.le_refl _) passL rfl (pa_cons (pe_ix ix_q (pv 0) pe_int (fun _ _ => rfl)) pa_nil))))))
      (pss_one (ps_ret (pv 1)))))))))), ?_⟩
    obtain ⟨sh, hh, hok, ht, q⟩ := h
    cases sh with
    | bound b =>
      obtain ⟨p, rfl, hp⟩ := ht
      simp only [and_assoc, rst, rs, re, ra, rq, rx, ro, rl, rl2, rsp, rz, rix, rln, rg, rd, ri, rv, rk, rdd, rwi, at0, at1, at2, at3, upd_at, List.getElem?_cons_zero, List.getElem?_cons_succ, Option.some.injEq, exists_eq_left', exists_eq_left, List.set_cons_zero, List.set_cons_succ, true_and, and_true, HO.lst.injEq, HO.tup.injEq, exists_and_left, exists_eq, exists_eq', Br.t, Br.f, Be.t, Be.f, List.cons.injEq, List.append_nil, scal, if_true, if_false, ite_true, ite_false, eq_self_iff_true, decide_true, decide_false, Bool.not_true, Bool.not_false, reduceIte, List.nil_append, List.cons_append, reduceCtorEq, false_and, exists_false, false_or, or_false, Int.reduceLT, ral, rmd, rsq, rlu, rdp, Bool.true_or, Bool.false_or, Bool.or_false, Bool.or_true, hp]
      exact q
    | shares ps =>
      obtain ⟨p, p2, rfl, hp, hp2⟩ := ht
      simp only [and_assoc, rst, rs, re, ra, rq, rx, ro, rl, rl2, rsp, rz, rix, rln, rg, rd, ri, rv, rk, rdd, rwi, at0, at1, at2, at3, upd_at, List.getElem?_cons_zero, List.getElem?_cons_succ, Option.some.injEq, exists_eq_left', exists_eq_left, List.set_cons_zero, List.set_cons_succ, true_and, and_true, HO.lst.injEq, HO.tup.injEq, exists_and_left, exists_eq, exists_eq', Br.t, Br.f, Be.t, Be.f, List.cons.injEq, List.append_nil, scal, if_true, if_false, ite_true, ite_false, eq_self_iff_true, decide_true, decide_false, Bool.not_true, Bool.not_false, reduceIte, List.nil_append, List.cons_append, reduceCtorEq, false_and, exists_false, false_or, or_false, Int.reduceLT, ral, rmd, rsq, rlu, rdp, Bool.true_or, Bool.false_or, Bool.or_false, Bool.or_true, hp]
      refine Br.d (fun c => absurd c (by decide +kernel)) fun _ => ?_
      simp only [and_assoc, rst, rs, re, ra, rq, rx, ro, rl, rl2, rsp, rz, rix, rln, rg, rd, ri, rv, rk, rdd, rwi, at0, at1, at2, at3, upd_at, List.getElem?_cons_zero, List.getElem?_cons_succ, Option.some.injEq, exists_eq_left', exists_eq_left, List.set_cons_zero, List.set_cons_succ, true_and, and_true, HO.lst.injEq, HO.tup.injEq, exists_and_left, exists_eq, exists_eq', Br.t, Br.f, Be.t, Be.f, List.cons.injEq, List.append_nil, scal, if_true, if_false, ite_true, ite_false, eq_self_iff_true, decide_true, decide_false, Bool.not_true, Bool.not_false, reduceIte, List.nil_append, List.cons_append, reduceCtorEq, false_and, exists_false, false_or, or_false, Int.reduceLT, ral, rmd, rsq, rlu, rdp, Bool.true_or, Bool.false_or, Bool.or_false, Bool.or_true, hp]
      exact ⟨_, hp2, ps, rfl, q⟩
    | orders k =>
      obtain ⟨p, rfl, hp⟩ := ht
      simp only [and_assoc, rst, rs, re, ra, rq, rx, ro, rl, rl2, rsp, rz, rix, rln, rg, rd, ri, rv, rk, rdd, rwi, at0, at1, at2, at3, upd_at, List.getElem?_cons_zero, List.getElem?_cons_succ, Option.some.injEq, exists_eq_left', exists_eq_left, List.set_cons_zero, List.set_cons_succ, true_and, and_true, HO.lst.injEq, HO.tup.injEq, exists_and_left, exists_eq, exists_eq', Br.t, Br.f, Be.t, Be.f, List.cons.injEq, List.append_nil, scal, if_true, if_false, ite_true, ite_false, eq_self_iff_true, decide_true, decide_false, Bool.not_true, Bool.not_false, reduceIte, List.nil_append, List.cons_append, reduceCtorEq, false_and, exists_false, false_or, or_false, Int.reduceLT, ral, rmd, rsq, rlu, rdp, Bool.true_or, Bool.false_or, Bool.or_false, Bool.or_true, hp]
      refine Br.d (fun c => absurd c (by decide +kernel)) fun _ => ?_
      simp only [and_assoc, rst, rs, re, ra, rq, rx, ro, rl, rl2, rsp, rz, rix, rln, rg, rd, ri, rv, rk, rdd, rwi, at0, at1, at2, at3, upd_at, List.getElem?_cons_zero, List.getElem?_cons_succ, Option.some.injEq, exists_eq_left', exists_eq_left, List.set_cons_zero, List.set_cons_succ, true_and, and_true, HO.lst.injEq, HO.tup.injEq, exists_and_left, exists_eq, exists_eq', Br.t, Br.f, Be.t, Be.f, List.cons.injEq, List.append_nil, scal, if_true, if_false, ite_true, ite_false, eq_self_iff_true, decide_true, decide_false, Bool.not_true, Bool.not_false, reduceIte, List.nil_append, List.cons_append, reduceCtorEq, false_and, exists_false, false_or, or_false, Int.reduceLT, ral, rmd, rsq, rlu, rdp, Bool.true_or, Bool.false_or, Bool.or_false, Bool.or_true, hp]
      refine Br.d (fun c => absurd c (by decide +kernel)) fun _ => ?_
      simp only [and_assoc, rst, rs, re, ra, rq, rx, ro, rl, rl2, rsp, rz, rix, rln, rg, rd, ri, rv, rk, rdd, rwi, at0, at1, at2, at3, upd_at, List.getElem?_cons_zero, List.getElem?_cons_succ, Option.some.injEq, exists_eq_left', exists_eq_left, List.set_cons_zero, List.set_cons_succ, true_and, and_true, HO.lst.injEq, HO.tup.injEq, exists_and_left, exists_eq, exists_eq', Br.t, Br.f, Be.t, Be.f, List.cons.injEq, List.append_nil, scal, if_true, if_false, ite_true, ite_false, eq_self_iff_true, decide_true, decide_false, Bool.not_true, Bool.not_false, reduceIte, List.nil_append, List.cons_append, reduceCtorEq, false_and, exists_false, false_or, or_false, Int.reduceLT, ral, rmd, rsq, rlu, rdp, Bool.true_or, Bool.false_or, Bool.or_false, Bool.or_true, hp]
      exact ⟨_, rfl, k, rfl, hok, q⟩
    | sets m k =>
      obtain ⟨p, rfl, hp⟩ := ht
      obtain ⟨o1, o2⟩ := id hok
      simp only [and_assoc, rst, rs, re, ra, rq, rx, ro, rl, rl2, rsp, rz, rix, rln, rg, rd, ri, rv, rk, rdd, rwi, at0, at1, at2, at3, upd_at, List.getElem?_cons_zero, List.getElem?_cons_succ, Option.some.injEq, exists_eq_left', exists_eq_left, List.set_cons_zero, List.set_cons_succ, true_and, and_true, HO.lst.injEq, HO.tup.injEq, exists_and_left, exists_eq, exists_eq', Br.t, Br.f, Be.t, Be.f, List.cons.injEq, List.append_nil, scal, if_true, if_false, ite_true, ite_false, eq_self_iff_true, decide_true, decide_false, Bool.not_true, Bool.not_false, reduceIte, List.nil_append, List.cons_append, reduceCtorEq, false_and, exists_false, false_or, or_false, Int.reduceLT, ral, rmd, rsq, rlu, rdp, Bool.true_or, Bool.false_or, Bool.or_false, Bool.or_true, hp]
      refine Br.d (fun c => absurd c (by decide +kernel)) fun _ => ?_
      simp only [and_assoc, rst, rs, re, ra, rq, rx, ro, rl, rl2, rsp, rz, rix, rln, rg, rd, ri, rv, rk, rdd, rwi, at0, at1, at2, at3, upd_at, List.getElem?_cons_zero, List.getElem?_cons_succ, Option.some.injEq, exists_eq_left', exists_eq_left, List.set_cons_zero, List.set_cons_succ, true_and, and_true, HO.lst.injEq, HO.tup.injEq, exists_and_left, exists_eq, exists_eq', Br.t, Br.f, Be.t, Be.f, List.cons.injEq, List.append_nil, scal, if_true, if_false, ite_true, ite_false, eq_self_iff_true, decide_true, decide_false, Bool.not_true, Bool.not_false, reduceIte, List.nil_append, List.cons_append, reduceCtorEq, false_and, exists_false, false_or, or_false, Int.reduceLT, ral, rmd, rsq, rlu, rdp, Bool.true_or, Bool.false_or, Bool.or_false, Bool.or_true, hp]
      refine Br.d (fun c => absurd c (by decide +kernel)) fun _ => ?_
      simp only [and_assoc, rst, rs, re, ra, rq, rx, ro, rl, rl2, rsp, rz, rix, rln, rg, rd, ri, rv, rk, rdd, rwi, at0, at1, at2, at3, upd_at, List.getElem?_cons_zero, List.getElem?_cons_succ, Option.some.injEq, exists_eq_left', exists_eq_left, List.set_cons_zero, List.set_cons_succ, true_and, and_true, HO.lst.injEq, HO.tup.injEq, exists_and_left, exists_eq, exists_eq', Br.t, Br.f, Be.t, Be.f, List.cons.injEq, List.append_nil, scal, if_true, if_false, ite_true, ite_false, eq_self_iff_true, decide_true, decide_false, Bool.not_true, Bool.not_false, reduceIte, List.nil_append, List.cons_append, reduceCtorEq, false_and, exists_false, false_or, or_false, Int.reduceLT, ral, rmd, rsq, rlu, rdp, Bool.true_or, Bool.false_or, Bool.or_false, Bool.or_true, hp]
      refine Br.d (fun c => absurd c (by decide +kernel)) fun _ => ?_
      simp only [and_assoc, rst, rs, re, ra, rq, rx, ro, rl, rl2, rsp, rz, rix, rln, rg, rd, ri, rv, rk, rdd, rwi, at0, at1, at2, at3, upd_at, List.getElem?_cons_zero, List.getElem?_cons_succ, Option.some.injEq, exists_eq_left', exists_eq_left, List.set_cons_zero, List.set_cons_succ, true_and, and_true, HO.lst.injEq, HO.tup.injEq, exists_and_left, exists_eq, exists_eq', Br.t, Br.f, Be.t, Be.f, List.cons.injEq, List.append_nil, scal, if_true, if_false, ite_true, ite_false, eq_self_iff_true, decide_true, decide_false, Bool.not_true, Bool.not_false, reduceIte, List.nil_append, List.cons_append, reduceCtorEq, false_and, exists_false, false_or, or_false, Int.reduceLT, ral, rmd, rsq, rlu, rdp, Bool.true_or, Bool.false_or, Bool.or_false, Bool.or_true, hp]
      exact ⟨_, _, rfl, m, k, rfl, rfl, o1, by omega, q⟩
    | pair s t =>
      obtain ⟨p, x, y, rfl, hp, hx, hy⟩ := ht
      obtain ⟨o1, o2⟩ := id hok
      have hh2 : 1 + max s.ht t.ht < n + 1 := hh
      simp only [and_assoc, rst, rs, re, ra, rq, rx, ro, rl, rl2, rsp, rz, rix, rln, rg, rd, ri, rv, rk, rdd, rwi, at0, at1, at2, at3, upd_at, List.getElem?_cons_zero, List.getElem?_cons_succ, Option.some.injEq, exists_eq_left', exists_eq_left, List.set_cons_zero, List.set_cons_succ, true_and, and_true, HO.lst.injEq, HO.tup.injEq, exists_and_left, exists_eq, exists_eq', Br.t, Br.f, Be.t, Be.f, List.cons.injEq, List.append_nil, scal, if_true, if_false, ite_true, ite_false, eq_self_iff_true, decide_true, decide_false, Bool.not_true, Bool.not_false, reduceIte, List.nil_append, List.cons_append, reduceCtorEq, false_and, exists_false, false_or, or_false, Int.reduceLT, ral, rmd, rsq, rlu, rdp, Bool.true_or, Bool.false_or, Bool.or_false, Bool.or_true, hp]
      refine Br.d (fun c => absurd c (by decide +kernel)) fun _ => ?_
      simp only [and_assoc, rst, rs, re, ra, rq, rx, ro, rl, rl2, rsp, rz, rix, rln, rg, rd, ri, rv, rk, rdd, rwi, at0, at1, at2, at3, upd_at, List.getElem?_cons_zero, List.getElem?_cons_succ, Option.some.injEq, exists_eq_left', exists_eq_left, List.set_cons_zero, List.set_cons_succ, true_and, and_true, HO.lst.injEq, HO.tup.injEq, exists_and_left, exists_eq, exists_eq', Br.t, Br.f, Be.t, Be.f, List.cons.injEq, List.append_nil, scal, if_true, if_false, ite_true, ite_false, eq_self_iff_true, decide_true, decide_false, Bool.not_true, Bool.not_false, reduceIte, List.nil_append, List.cons_append, reduceCtorEq, false_and, exists_false, false_or, or_false, Int.reduceLT, ral, rmd, rsq, rlu, rdp, Bool.true_or, Bool.false_or, Bool.or_false, Bool.or_true, hp]
      refine Br.d (fun c => absurd c (by decide +kernel)) fun _ => ?_
      simp only [and_assoc, rst, rs, re, ra, rq, rx, ro, rl, rl2, rsp, rz, rix, rln, rg, rd, ri, rv, rk, rdd, rwi, at0, at1, at2, at3, upd_at, List.getElem?_cons_zero, List.getElem?_cons_succ, Option.some.injEq, exists_eq_left', exists_eq_left, List.set_cons_zero, List.set_cons_succ, true_and, and_true, HO.lst.injEq, HO.tup.injEq, exists_and_left, exists_eq, exists_eq', Br.t, Br.f, Be.t, Be.f, List.cons.injEq, List.append_nil, scal, if_true, if_false, ite_true, ite_false, eq_self_iff_true, decide_true, decide_false, Bool.not_true, Bool.not_false, reduceIte, List.nil_append, List.cons_append, reduceCtorEq, false_and, exists_false, false_or, or_false, Int.reduceLT, ral, rmd, rsq, rlu, rdp, Bool.true_or, Bool.false_or, Bool.or_false, Bool.or_true, hp]
      refine Br.d (fun c => absurd c (by decide +kernel)) fun _ => ?_
      simp only [and_assoc, rst, rs, re, ra, rq, rx, ro, rl, rl2, rsp, rz, rix, rln, rg, rd, ri, rv, rk, rdd, rwi, at0, at1, at2, at3, upd_at, List.getElem?_cons_zero, List.getElem?_cons_succ, Option.some.injEq, exists_eq_left', exists_eq_left, List.set_cons_zero, List.set_cons_succ, true_and, and_true, HO.lst.injEq, HO.tup.injEq, exists_and_left, exists_eq, exists_eq', Br.t, Br.f, Be.t, Be.f, List.cons.injEq, List.append_nil, scal, if_true, if_false, ite_true, ite_false, eq_self_iff_true, decide_true, decide_false, Bool.not_true, Bool.not_false, reduceIte, List.nil_append, List.cons_append, reduceCtorEq, false_and, exists_false, false_or, or_false, Int.reduceLT, ral, rmd, rsq, rlu, rdp, Bool.true_or, Bool.false_or, Bool.or_false, Bool.or_true, hp]
      refine Br.d (fun c => absurd c (by decide +kernel)) fun _ => ?_
      simp only [and_assoc, rst, rs, re, ra, rq, rx, ro, rl, rl2, rsp, rz, rix, rln, rg, rd, ri, rv, rk, rdd, rwi, at0, at1, at2, at3, upd_at, List.getElem?_cons_zero, List.getElem?_cons_succ, Option.some.injEq, exists_eq_left', exists_eq_left, List.set_cons_zero, List.set_cons_succ, true_and, and_true, HO.lst.injEq, HO.tup.injEq, exists_and_left, exists_eq, exists_eq', Br.t, Br.f, Be.t, Be.f, List.cons.injEq, List.append_nil, scal, if_true, if_false, ite_true, ite_false, eq_self_iff_true, decide_true, decide_false, Bool.not_true, Bool.not_false, reduceIte, List.nil_append, List.cons_append, reduceCtorEq, false_and, exists_false, false_or, or_false, Int.reduceLT, ral, rmd, rsq, rlu, rdp, Bool.true_or, Bool.false_or, Bool.or_false, Bool.or_true, hp]
      refine ⟨_, rfl, s, by omega, ok_okS o1, hx, ?_⟩
      simp only [and_assoc, rst, rs, re, ra, rq, rx, ro, rl, rl2, rsp, rz, rix, rln, rg, rd, ri, rv, rk, rdd, rwi, at0, at1, at2, at3, upd_at, List.getElem?_cons_zero, List.getElem?_cons_succ, Option.some.injEq, exists_eq_left', exists_eq_left, List.set_cons_zero, List.set_cons_succ, true_and, and_true, HO.lst.injEq, HO.tup.injEq, exists_and_left, exists_eq, exists_eq', Br.t, Br.f, Be.t, Be.f, List.cons.injEq, List.append_nil, scal, if_true, if_false, ite_true, ite_false, eq_self_iff_true, decide_true, decide_false, Bool.not_true, Bool.not_false, reduceIte, List.nil_append, List.cons_append, reduceCtorEq, false_and, exists_false, false_or, or_false, Int.reduceLT, ral, rmd, rsq, rlu, rdp, Bool.true_or, Bool.false_or, Bool.or_false, Bool.or_true, hp]
      refine ⟨_, rfl, t, by omega, ok_okS o2, hy, _, rfl, mul_ok64 (tot_ok o1).1 (tot_ok o1).2 (tot_ok o2).1 (tot_ok o2).2, q⟩
    | rows s m =>
      obtain ⟨p, x, rfl, hp, hx⟩ := ht
      obtain ⟨o1, o2⟩ := id hok
      have hh2 : 1 + s.ht < n + 1 := hh
      simp only [and_assoc, rst, rs, re, ra, rq, rx, ro, rl, rl2, rsp, rz, rix, rln, rg, rd, ri, rv, rk, rdd, rwi, at0, at1, at2, at3, upd_at, List.getElem?_cons_zero, List.getElem?_cons_succ, Option.some.injEq, exists_eq_left', exists_eq_left, List.set_cons_zero, List.set_cons_succ, true_and, and_true, HO.lst.injEq, HO.tup.injEq, exists_and_left, exists_eq, exists_eq', Br.t, Br.f, Be.t, Be.f, List.cons.injEq, List.append_nil, scal, if_true, if_false, ite_true, ite_false, eq_self_iff_true, decide_true, decide_false, Bool.not_true, Bool.not_false, reduceIte, List.nil_append, List.cons_append, reduceCtorEq, false_and, exists_false, false_or, or_false, Int.reduceLT, ral, rmd, rsq, rlu, rdp, Bool.true_or, Bool.false_or, Bool.or_false, Bool.or_true, hp]
      refine Br.d (fun c => absurd c (by decide +kernel)) fun _ => ?_
      simp only [and_assoc, rst, rs, re, ra, rq, rx, ro, rl, rl2, rsp, rz, rix, rln, rg, rd, ri, rv, rk, rdd, rwi, at0, at1, at2, at3, upd_at, List.getElem?_cons_zero, List.getElem?_cons_succ, Option.some.injEq, exists_eq_left', exists_eq_left, List.set_cons_zero, List.set_cons_succ, true_and, and_true, HO.lst.injEq, HO.tup.injEq, exists_and_left, exists_eq, exists_eq', Br.t, Br.f, Be.t, Be.f, List.cons.injEq, List.append_nil, scal, if_true, if_false, ite_true, ite_false, eq_self_iff_true, decide_true, decide_false, Bool.not_true, Bool.not_false, reduceIte, List.nil_append, List.cons_append, reduceCtorEq, false_and, exists_false, false_or, or_false, Int.reduceLT, ral, rmd, rsq, rlu, rdp, Bool.true_or, Bool.false_or, Bool.or_false, Bool.or_true, hp]
      refine Br.d (fun c => absurd c (by decide +kernel)) fun _ => ?_
      simp only [and_assoc, rst, rs, re, ra, rq, rx, ro, rl, rl2, rsp, rz, rix, rln, rg, rd, ri, rv, rk, rdd, rwi, at0, at1, at2, at3, upd_at, List.getElem?_cons_zero, List.getElem?_cons_succ, Option.some.injEq, exists_eq_left', exists_eq_left, List.set_cons_zero, List.set_cons_succ, true_and, and_true, HO.lst.injEq, HO.tup.injEq, exists_and_left, exists_eq, exists_eq', Br.t, Br.f, Be.t, Be.f, List.cons.injEq, List.append_nil, scal, if_true, if_false, ite_true, ite_false, eq_self_iff_true, decide_true, decide_false, Bool.not_true, Bool.not_false, reduceIte, List.nil_append, List.cons_append, reduceCtorEq, false_and, exists_false, false_or, or_false, Int.reduceLT, ral, rmd, rsq, rlu, rdp, Bool.true_or, Bool.false_or, Bool.or_false, Bool.or_true, hp]
      refine Br.d (fun c => absurd c (by decide +kernel)) fun _ => ?_
      simp only [and_assoc, rst, rs, re, ra, rq, rx, ro, rl, rl2, rsp, rz, rix, rln, rg, rd, ri, rv, rk, rdd, rwi, at0, at1, at2, at3, upd_at, List.getElem?_cons_zero, List.getElem?_cons_succ, Option.some.injEq, exists_eq_left', exists_eq_left, List.set_cons_zero, List.set_cons_succ, true_and, and_true, HO.lst.injEq, HO.tup.injEq, exists_and_left, exists_eq, exists_eq', Br.t, Br.f, Be.t, Be.f, List.cons.injEq, List.append_nil, scal, if_true, if_false, ite_true, ite_false, eq_self_iff_true, decide_true, decide_false, Bool.not_true, Bool.not_false, reduceIte, List.nil_append, List.cons_append, reduceCtorEq, false_and, exists_false, false_or, or_false, Int.reduceLT, ral, rmd, rsq, rlu, rdp, Bool.true_or, Bool.false_or, Bool.or_false, Bool.or_true, hp]
      refine Br.d (fun c => absurd c (by decide +kernel)) fun _ => ?_
      simp only [and_assoc, rst, rs, re, ra, rq, rx, ro, rl, rl2, rsp, rz, rix, rln, rg, rd, ri, rv, rk, rdd, rwi, at0, at1, at2, at3, upd_at, List.getElem?_cons_zero, List.getElem?_cons_succ, Option.some.injEq, exists_eq_left', exists_eq_left, List.set_cons_zero, List.set_cons_succ, true_and, and_true, HO.lst.injEq, HO.tup.injEq, exists_and_left, exists_eq, exists_eq', Br.t, Br.f, Be.t, Be.f, List.cons.injEq, List.append_nil, scal, if_true, if_false, ite_true, ite_false, eq_self_iff_true, decide_true, decide_false, Bool.not_true, Bool.not_false, reduceIte, List.nil_append, List.cons_append, reduceCtorEq, false_and, exists_false, false_or, or_false, Int.reduceLT, ral, rmd, rsq, rlu, rdp, Bool.true_or, Bool.false_or, Bool.or_false, Bool.or_true, hp]
      refine Br.d (fun c => absurd c (by decide +kernel)) fun _ => ?_
      simp only [and_assoc, rst, rs, re, ra, rq, rx, ro, rl, rl2, rsp, rz, rix, rln, rg, rd, ri, rv, rk, rdd, rwi, at0, at1, at2, at3, upd_at, List.getElem?_cons_zero, List.getElem?_cons_succ, Option.some.injEq, exists_eq_left', exists_eq_left, List.set_cons_zero, List.set_cons_succ, true_and, and_true, HO.lst.injEq, HO.tup.injEq, exists_and_left, exists_eq, exists_eq', Br.t, Br.f, Be.t, Be.f, List.cons.injEq, List.append_nil, scal, if_true, if_false, ite_true, ite_false, eq_self_iff_true, decide_true, decide_false, Bool.not_true, Bool.not_false, reduceIte, List.nil_append, List.cons_append, reduceCtorEq, false_and, exists_false, false_or, or_false, Int.reduceLT, ral, rmd, rsq, rlu, rdp, Bool.true_or, Bool.false_or, Bool.or_false, Bool.or_true, hp]
      refine ⟨by omega, by omega, ?_⟩
      rw [Int.toNat_natCast]
      refine FI.rng (fun i σ H' => ∃ v2, H' = H ∧ σ = [some (.ref p), some (.int (s.tot ^ i)), v2]) ⟨none, rfl, by rw [Int.pow_zero]⟩ ?_ ?_
      · rintro i σ H' hi ⟨v2, rfl, rfl⟩
        simp only [and_assoc, rst, rs, re, ra, rq, rx, ro, rl, rl2, rsp, rz, rix, rln, rg, rd, ri, rv, rk, rdd, rwi, at0, at1, at2, at3, upd_at, List.getElem?_cons_zero, List.getElem?_cons_succ, Option.some.injEq, exists_eq_left', exists_eq_left, List.set_cons_zero, List.set_cons_succ, true_and, and_true, HO.lst.injEq, HO.tup.injEq, exists_and_left, exists_eq, exists_eq', Br.t, Br.f, Be.t, Be.f, List.cons.injEq, List.append_nil, scal, if_true, if_false, ite_true, ite_false, eq_self_iff_true, decide_true, decide_false, Bool.not_true, Bool.not_false, reduceIte, List.nil_append, List.cons_append, reduceCtorEq, false_and, exists_false, false_or, or_false, Int.reduceLT, ral, rmd, rsq, rlu, rdp, Bool.true_or, Bool.false_or, Bool.or_false, Bool.or_true, hp]
        refine ⟨_, rfl, s, by omega, ok_okS o1, hx, _, rfl, pow_mulok (by have := (tot_ok o1).1; omega) (tot_ok o1).2 (by omega), rfl, by rw [Int.pow_succ]⟩
      · rintro σ H' ⟨v2, rfl, rfl⟩
        simp only [and_assoc, rst, rs, re, ra, rq, rx, ro, rl, rl2, rsp, rz, rix, rln, rg, rd, ri, rv, rk, rdd, rwi, at0, at1, at2, at3, upd_at, List.getElem?_cons_zero, List.getElem?_cons_succ, Option.some.injEq, exists_eq_left', exists_eq_left, List.set_cons_zero, List.set_cons_succ, true_and, and_true, HO.lst.injEq, HO.tup.injEq, exists_and_left, exists_eq, exists_eq', Br.t, Br.f, Be.t, Be.f, List.cons.injEq, List.append_nil, scal, if_true, if_false, ite_true, ite_false, eq_self_iff_true, decide_true, decide_false, Bool.not_true, Bool.not_false, reduceIte, List.nil_append, List.cons_append, reduceCtorEq, false_and, exists_false, false_or, or_false, Int.reduceLT, ral, rmd, rsq, rlu, rdp, Bool.true_or, Bool.false_or, Bool.or_false, Bool.or_true]
        exact q
end
end Law

-- RDX ral, rmd, rsq, rlu, rdp, Bool.true_or, Bool.false_or, Bool.or_false, Bool.or_true
namespace Law
open PySem PySem.Spec PyProof.Rows L2 Sw
section
variable {P : Program} {w : World} {K : Fg} {mg : Str → Option Value} {base : Heap}
theorem mkS {H H' : Hp} {x dx : Addr} {o1 o2 : HO} (hx : H x = none) (hd : H dx = none) (k : ∀ b o, b ≠ x → upd (upd H dx o1) x o2 b = some o → H' b = some o) : Same H H' := fun a o e => k a o (ne_of_none e hx) (by
  rw [upd_ne (ne_of_none e hx), upd_ne (ne_of_none e hd)]
  exact e)
theorem mkA {H : Hp} {x dx : Addr} {o1 o2 : HO} (hx : H x = none) (hd : H dx = none) : Same H (away x (upd (upd H dx o1) x o2)) := fun a o e => by
  unfold away
  rw [if_neg (ne_of_none e hx), upd_ne (ne_of_none e hx), upd_ne (ne_of_none e hd)]
  exact e
theorem ob_wo {K : Fg} {H : Hp} {p : Addr} {l : List V} (h : H p = some (.lst l)) : ∀ {sh : Sh} {v : V}, sh.ht = 0 → Ob K H sh v → Ob K (wo p H) sh v
  | .bound _, _, _, ⟨a, dx, e, k⟩ => ⟨a, dx, e, by rw [wo_at (fun z => by rw [z, h] at k; cases k)]; exact k⟩
  | .shares _, _, _, ⟨a, dx, q, e, k, k2⟩ => ⟨a, dx, q, e, by rw [wo_at (fun z => by rw [z, h] at k; cases k)]; exact k, by rw [wo_at (fun z => by rw [z, h] at k2; cases k2)]; exact k2⟩
  | .orders _, _, _, ⟨a, dx, e, k⟩ => ⟨a, dx, e, by rw [wo_at (fun z => by rw [z, h] at k; cases k)]; exact k⟩
  | .sets _ _, _, _, ⟨a, dx, e, k⟩ => ⟨a, dx, e, by rw [wo_at (fun z => by rw [z, h] at k; cases k)]; exact k⟩
  | .pair _ _, _, z, _ => absurd z (by show 1 + _ ≠ 0; omega)
  | .rows _ _, _, z, _ => absurd z (by show 1 + _ ≠ 0; omega)
theorem mkN {H : Hp} {pf x dx : Addr} {o1 o2 u : HO} (hpf : H pf = some u) (hx : H x = none) (hd : H dx = none) : pf ≠ x ∧ upd (upd H dx o1) x o2 pf ≠ none := by
  have n1 := ne_of_none hpf hx
  refine ⟨n1, ?_⟩
  rw [upd_ne n1, upd_ne (ne_of_none hpf hd), hpf]
  nofun
theorem rz__law_shape {H : Hp} {x : V} {Q : VK} (h : ∃ (sh : Sh) (p : Addr), (∃ l, H p = some (.lst l)) ∧ sh.ht < 0 ∧ sh.ht ≤ 3 ∧ sh.ok ∧ Td H sh x ∧ ∀ v H', Same H H' → Ob K (wo p H') sh v → Q v H') : False := by
  obtain ⟨sh, p, _, h, _⟩ := h
  omega
theorem okn__law_shape (T : Tx K mg w) (c_Below_init : CalM P w K mg base 6 "Below" "__init__" ["self", "bound"] (sp_Below_init K)) (c_Shares_init : CalM P w K mg base 6 "Shares" "__init__" ["self", "shares"] (sp_Shares_init K)) (c_Orders_init : CalM P w K mg base 6 "Orders" "__init__" ["self", "many"] (sp_Orders_init K)) (c_Sets_init : CalM P w K mg base 6 "Sets" "__init__" ["self", "many", "size"] (sp_Sets_init K)) (c_Pair_init : CalM P w K mg base 6 "Pair" "__init__" ["self", "one", "other"] (sp_Pair_init K)) (c_Rows_init : CalM P w K mg base 6 "Rows" "__init__" ["self", "shape", "many"] (sp_Rows_init K)) : ∀ n, Cal P w K mg base (8 + n) "_law_shape" ["told"] (spn__law_shape K n) := by
  intro n
  induction n with
  | zero =>
    refine cal_mk T.F__law_shape T.g__law_shape sc__law_shape (len1 _) (fun _ _ _ _ _ _ us hl => match us, hl with | [_], _ => rfl) (fun cdv A outer s H vs Q E hr h => ?_)
    obtain ⟨v0, rfl, h⟩ := h
    exact (rz__law_shape h).elim
  | succ n c__law_shape =>
    refine cal_mk T.F__law_shape T.g__law_shape sc__law_shape (len1 _) (fun _ _ _ _ _ _ us hl => match us, hl with | [_], _ => rfl) (fun cdv A outer s H vs Q E hr h => ?_)
    obtain ⟨v0, rfl, h⟩ := h
    have hu := hu_of hr.r
    refine ⟨_, (pss_cons (ps_if (pt_cmpR op_eq (pe_ix ix_q (pv 0) pe_int (fun _ _ => rfl)) pe_str (nomark _)) (pss_one (ps_ret (pe_mk c_Below_init T.mk_Below T.g_Below hr (Nat.le_trans (by decide : 7 ≤ 8) (Nat.le_add_right _ _)) passL rfl (pa_cons (pe_ix ix_q (pv 0) pe_int (fun _ _ => rfl)) pa_nil)))) pss_nil)
      (pss_cons (ps_if (pt_cmpR op_eq (pe_ix ix_q (pv 0) pe_int (fun _ _ => rfl)) pe_str (nomark _)) (pss_one (ps_ret (pe_mk c_Shares_init T.mk_Shares T.g_Shares hr (Nat.le_trans (by decide : 7 ≤ 8) (Nat.le_add_right _ _)) passL rfl (pa_cons (pe_callTy lst_q (by rfl) T.n_list (by decide +kernel) (pa_cons (pe_ix ix_q (pv 0) pe_int (fun _ _ => rfl)) pa_nil)) pa_nil)))) pss_nil)
      (pss_cons (ps_if (pt_cmpR op_eq (pe_ix ix_q (pv 0) pe_int (fun _ _ => rfl)) pe_str (nomark _)) (pss_one (ps_ret (pe_mk c_Orders_init T.mk_Orders T.g_Orders hr (Nat.le_trans (by decide : 7 ≤ 8) (Nat.le_add_right _ _)) passL rfl (pa_cons (pe_ix ix_q (pv 0) pe_int (fun _ _ => rfl)) pa_nil)))) pss_nil)
      (pss_cons (ps_if (pt_cmpR op_eq (pe_ix ix_q (pv 0) pe_int (fun _ _ => rfl)) pe_str (nomark _)) (pss_one (ps_ret (pe_mk c_Sets_init T.mk_Sets T.g_Sets hr (Nat.le_trans (by decide : 7 ≤ 8) (Nat.le_add_right _ _)) passL rfl (pa_cons (pe_ix ix_q (pv 0) pe_int (fun _ _ => rfl)) (pa_cons (pe_ix ix_q (pv 0) pe_int (fun _ _ => rfl)) pa_nil))))) pss_nil)
      (pss_cons (ps_if (pt_cmpR op_eq (pe_ix ix_q (pv 0) pe_int (fun _ _ => rfl)) pe_str (nomark _)) (pss_one (ps_ret (pe_mk c_Pair_init T.mk_Pair T.g_Pair hr (Nat.le_trans (by decide : 7 ≤ 8) (Nat.le_add_right _ _)) passL rfl (pa_cons (pe_cal c__law_shape hr (Nat.le_refl _) passL rfl (pa_cons (pe_ix ix_q (pv 0) pe_int (fun _ _ => rfl)) pa_nil)) (pa_cons (pe_cal c__law_shape hr (Nat.le_refl _) passL rfl (pa_cons (pe_ix ix_q (pv 0) pe_int (fun _ _ => rfl)) pa_nil)) pa_nil))))) pss_nil)
      (pss_one (ps_ret (pe_mk c_Rows_init T.mk_Rows T.g_Rows hr (Nat.le_trans (by decide : 7 ≤ 8) (Nat.le_add_right _ _)) passL rfl (pa_cons (pe_cal c__law_shape hr (Nat.le_refl _) passL rfl (pa_cons (pe_ix ix_q (pv 0) pe_int (fun _ _ => rfl)) pa_nil)) (pa_cons (pe_ix ix_q (pv 0) pe_int (fun _ _ => rfl)) pa_nil)))))))))), ?_⟩
    obtain ⟨sh, pf, ⟨lf, hpf⟩, hh, h3, hok, ht, q⟩ := h
    cases sh with
    | bound b =>
      obtain ⟨p, rfl, hp⟩ := ht
      simp only [and_assoc, rst, rs, re, ra, rq, rx, ro, rl, rl2, rsp, rz, rix, rln, rg, rd, ri, rv, rk, rdd, rwi, at0, at1, at2, at3, upd_at, List.getElem?_cons_zero, List.getElem?_cons_succ, Option.some.injEq, exists_eq_left', exists_eq_left, List.set_cons_zero, List.set_cons_succ, true_and, and_true, HO.lst.injEq, HO.tup.injEq, exists_and_left, exists_eq, exists_eq', Br.t, Br.f, Be.t, Be.f, List.cons.injEq, List.append_nil, scal, if_true, if_false, ite_true, ite_false, eq_self_iff_true, decide_true, decide_false, Bool.not_true, Bool.not_false, reduceIte, List.nil_append, List.cons_append, reduceCtorEq, false_and, exists_false, false_or, or_false, Int.reduceLT, ral, rmd, rsq, rlu, rdp, Bool.true_or, Bool.false_or, Bool.or_false, Bool.or_true, hp]
      exact fun x dx hx hd nd => ⟨_, _, rfl, x, b, ⟨rfl, dx, upd_same⟩, rfl, hok, fun H' k o => ⟨rfl, q _ H' (mkS hx hd k) (ob_wo (mkS hx hd k _ _ hpf) rfl o)⟩⟩
    | shares ps =>
      obtain ⟨p, p2, rfl, hp, hp2⟩ := ht
      simp only [and_assoc, rst, rs, re, ra, rq, rx, ro, rl, rl2, rsp, rz, rix, rln, rg, rd, ri, rv, rk, rdd, rwi, at0, at1, at2, at3, upd_at, List.getElem?_cons_zero, List.getElem?_cons_succ, Option.some.injEq, exists_eq_left', exists_eq_left, List.set_cons_zero, List.set_cons_succ, true_and, and_true, HO.lst.injEq, HO.tup.injEq, exists_and_left, exists_eq, exists_eq', Br.t, Br.f, Be.t, Be.f, List.cons.injEq, List.append_nil, scal, if_true, if_false, ite_true, ite_false, eq_self_iff_true, decide_true, decide_false, Bool.not_true, Bool.not_false, reduceIte, List.nil_append, List.cons_append, reduceCtorEq, false_and, exists_false, false_or, or_false, Int.reduceLT, ral, rmd, rsq, rlu, rdp, Bool.true_or, Bool.false_or, Bool.or_false, Bool.or_true, hp]
      refine Br.d (fun c => absurd c (by decide +kernel)) fun _ => ?_
      simp only [and_assoc, rst, rs, re, ra, rq, rx, ro, rl, rl2, rsp, rz, rix, rln, rg, rd, ri, rv, rk, rdd, rwi, at0, at1, at2, at3, upd_at, List.getElem?_cons_zero, List.getElem?_cons_succ, Option.some.injEq, exists_eq_left', exists_eq_left, List.set_cons_zero, List.set_cons_succ, true_and, and_true, HO.lst.injEq, HO.tup.injEq, exists_and_left, exists_eq, exists_eq', Br.t, Br.f, Be.t, Be.f, List.cons.injEq, List.append_nil, scal, if_true, if_false, ite_true, ite_false, eq_self_iff_true, decide_true, decide_false, Bool.not_true, Bool.not_false, reduceIte, List.nil_append, List.cons_append, reduceCtorEq, false_and, exists_false, false_or, or_false, Int.reduceLT, ral, rmd, rsq, rlu, rdp, Bool.true_or, Bool.false_or, Bool.or_false, Bool.or_true, hp]
      refine ⟨_, hp2, _, rfl, fun l hl x dx hx hd nd => ?_⟩
      obtain ⟨nx, fx⟩ := ite_none hx
      obtain ⟨nl, fd⟩ := ite_none hd
      refine ⟨_, _, rfl, x, l, ps, ⟨rfl, dx, upd_same⟩, rfl, fun z => nx z.symm, ?_, hok, fun H' k o => ⟨rfl, q _ H' (Same.trans (Same.new hl) (mkS (H := upd H l (.lst (ps.map V.int))) hx hd k)) (ob_wo (Same.trans (Same.new hl) (mkS (H := upd H l (.lst (ps.map V.int))) hx hd k) _ _ hpf) rfl o)⟩⟩
      rw [upd_ne (fun z => nx z.symm), upd_ne (fun z => nl z.symm), upd_same]
    | orders k =>
      obtain ⟨p, rfl, hp⟩ := ht
      simp only [and_assoc, rst, rs, re, ra, rq, rx, ro, rl, rl2, rsp, rz, rix, rln, rg, rd, ri, rv, rk, rdd, rwi, at0, at1, at2, at3, upd_at, List.getElem?_cons_zero, List.getElem?_cons_succ, Option.some.injEq, exists_eq_left', exists_eq_left, List.set_cons_zero, List.set_cons_succ, true_and, and_true, HO.lst.injEq, HO.tup.injEq, exists_and_left, exists_eq, exists_eq', Br.t, Br.f, Be.t, Be.f, List.cons.injEq, List.append_nil, scal, if_true, if_false, ite_true, ite_false, eq_self_iff_true, decide_true, decide_false, Bool.not_true, Bool.not_false, reduceIte, List.nil_append, List.cons_append, reduceCtorEq, false_and, exists_false, false_or, or_false, Int.reduceLT, ral, rmd, rsq, rlu, rdp, Bool.true_or, Bool.false_or, Bool.or_false, Bool.or_true, hp]
      refine Br.d (fun c => absurd c (by decide +kernel)) fun _ => ?_
      simp only [and_assoc, rst, rs, re, ra, rq, rx, ro, rl, rl2, rsp, rz, rix, rln, rg, rd, ri, rv, rk, rdd, rwi, at0, at1, at2, at3, upd_at, List.getElem?_cons_zero, List.getElem?_cons_succ, Option.some.injEq, exists_eq_left', exists_eq_left, List.set_cons_zero, List.set_cons_succ, true_and, and_true, HO.lst.injEq, HO.tup.injEq, exists_and_left, exists_eq, exists_eq', Br.t, Br.f, Be.t, Be.f, List.cons.injEq, List.append_nil, scal, if_true, if_false, ite_true, ite_false, eq_self_iff_true, decide_true, decide_false, Bool.not_true, Bool.not_false, reduceIte, List.nil_append, List.cons_append, reduceCtorEq, false_and, exists_false, false_or, or_false, Int.reduceLT, ral, rmd, rsq, rlu, rdp, Bool.true_or, Bool.false_or, Bool.or_false, Bool.or_true, hp]
      refine Br.d (fun c => absurd c (by decide +kernel)) fun _ => ?_
      simp only [and_assoc, rst, rs, re, ra, rq, rx, ro, rl, rl2, rsp, rz, rix, rln, rg, rd, ri, rv, rk, rdd, rwi, at0, at1, at2, at3, upd_at, List.getElem?_cons_zero, List.getElem?_cons_succ, Option.some.injEq, exists_eq_left', exists_eq_left, List.set_cons_zero, List.set_cons_succ, true_and, and_true, HO.lst.injEq, HO.tup.injEq, exists_and_left, exists_eq, exists_eq', Br.t, Br.f, Be.t, Be.f, List.cons.injEq, List.append_nil, scal, if_true, if_false, ite_true, ite_false, eq_self_iff_true, decide_true, decide_false, Bool.not_true, Bool.not_false, reduceIte, List.nil_append, List.cons_append, reduceCtorEq, false_and, exists_false, false_or, or_false, Int.reduceLT, ral, rmd, rsq, rlu, rdp, Bool.true_or, Bool.false_or, Bool.or_false, Bool.or_true, hp]
      exact fun x dx hx hd nd => ⟨_, _, rfl, x, k, ⟨rfl, dx, upd_same⟩, rfl, hok, fun H' k o => ⟨rfl, q _ H' (mkS hx hd k) (ob_wo (mkS hx hd k _ _ hpf) rfl o)⟩⟩
    | sets m k =>
      obtain ⟨p, rfl, hp⟩ := ht
      simp only [and_assoc, rst, rs, re, ra, rq, rx, ro, rl, rl2, rsp, rz, rix, rln, rg, rd, ri, rv, rk, rdd, rwi, at0, at1, at2, at3, upd_at, List.getElem?_cons_zero, List.getElem?_cons_succ, Option.some.injEq, exists_eq_left', exists_eq_left, List.set_cons_zero, List.set_cons_succ, true_and, and_true, HO.lst.injEq, HO.tup.injEq, exists_and_left, exists_eq, exists_eq', Br.t, Br.f, Be.t, Be.f, List.cons.injEq, List.append_nil, scal, if_true, if_false, ite_true, ite_false, eq_self_iff_true, decide_true, decide_false, Bool.not_true, Bool.not_false, reduceIte, List.nil_append, List.cons_append, reduceCtorEq, false_and, exists_false, false_or, or_false, Int.reduceLT, ral, rmd, rsq, rlu, rdp, Bool.true_or, Bool.false_or, Bool.or_false, Bool.or_true, hp]
      refine Br.d (fun c => absurd c (by decide +kernel)) fun _ => ?_
      simp only [and_assoc, rst, rs, re, ra, rq, rx, ro, rl, rl2, rsp, rz, rix, rln, rg, rd, ri, rv, rk, rdd, rwi, at0, at1, at2, at3, upd_at, List.getElem?_cons_zero, List.getElem?_cons_succ, Option.some.injEq, exists_eq_left', exists_eq_left, List.set_cons_zero, List.set_cons_succ, true_and, and_true, HO.lst.injEq, HO.tup.injEq, exists_and_left, exists_eq, exists_eq', Br.t, Br.f, Be.t, Be.f, List.cons.injEq, List.append_nil, scal, if_true, if_false, ite_true, ite_false, eq_self_iff_true, decide_true, decide_false, Bool.not_true, Bool.not_false, reduceIte, List.nil_append, List.cons_append, reduceCtorEq, false_and, exists_false, false_or, or_false, Int.reduceLT, ral, rmd, rsq, rlu, rdp, Bool.true_or, Bool.false_or, Bool.or_false, Bool.or_true, hp]
      refine Br.d (fun c => absurd c (by decide +kernel)) fun _ => ?_
      simp only [and_assoc, rst, rs, re, ra, rq, rx, ro, rl, rl2, rsp, rz, rix, rln, rg, rd, ri, rv, rk, rdd, rwi, at0, at1, at2, at3, upd_at, List.getElem?_cons_zero, List.getElem?_cons_succ, Option.some.injEq, exists_eq_left', exists_eq_left, List.set_cons_zero, List.set_cons_succ, true_and, and_true, HO.lst.injEq, HO.tup.injEq, exists_and_left, exists_eq, exists_eq', Br.t, Br.f, Be.t, Be.f, List.cons.injEq, List.append_nil, scal, if_true, if_false, ite_true, ite_false, eq_self_iff_true, decide_true, decide_false, Bool.not_true, Bool.not_false, reduceIte, List.nil_append, List.cons_append, reduceCtorEq, false_and, exists_false, false_or, or_false, Int.reduceLT, ral, rmd, rsq, rlu, rdp, Bool.true_or, Bool.false_or, Bool.or_false, Bool.or_true, hp]
      refine Br.d (fun c => absurd c (by decide +kernel)) fun _ => ?_
      simp only [and_assoc, rst, rs, re, ra, rq, rx, ro, rl, rl2, rsp, rz, rix, rln, rg, rd, ri, rv, rk, rdd, rwi, at0, at1, at2, at3, upd_at, List.getElem?_cons_zero, List.getElem?_cons_succ, Option.some.injEq, exists_eq_left', exists_eq_left, List.set_cons_zero, List.set_cons_succ, true_and, and_true, HO.lst.injEq, HO.tup.injEq, exists_and_left, exists_eq, exists_eq', Br.t, Br.f, Be.t, Be.f, List.cons.injEq, List.append_nil, scal, if_true, if_false, ite_true, ite_false, eq_self_iff_true, decide_true, decide_false, Bool.not_true, Bool.not_false, reduceIte, List.nil_append, List.cons_append, reduceCtorEq, false_and, exists_false, false_or, or_false, Int.reduceLT, ral, rmd, rsq, rlu, rdp, Bool.true_or, Bool.false_or, Bool.or_false, Bool.or_true, hp]
      exact fun x dx hx hd nd => ⟨_, _, _, rfl, x, m, k, ⟨rfl, dx, upd_same⟩, rfl, rfl, hok, fun H' k o => ⟨rfl, q _ H' (mkS hx hd k) (ob_wo (mkS hx hd k _ _ hpf) rfl o)⟩⟩
    | pair s t =>
      obtain ⟨p, x, y, rfl, hp, hx, hy⟩ := ht
      have hh2 : 1 + max s.ht t.ht < n + 1 := hh
      simp only [and_assoc, rst, rs, re, ra, rq, rx, ro, rl, rl2, rsp, rz, rix, rln, rg, rd, ri, rv, rk, rdd, rwi, at0, at1, at2, at3, upd_at, List.getElem?_cons_zero, List.getElem?_cons_succ, Option.some.injEq, exists_eq_left', exists_eq_left, List.set_cons_zero, List.set_cons_succ, true_and, and_true, HO.lst.injEq, HO.tup.injEq, exists_and_left, exists_eq, exists_eq', Br.t, Br.f, Be.t, Be.f, List.cons.injEq, List.append_nil, scal, if_true, if_false, ite_true, ite_false, eq_self_iff_true, decide_true, decide_false, Bool.not_true, Bool.not_false, reduceIte, List.nil_append, List.cons_append, reduceCtorEq, false_and, exists_false, false_or, or_false, Int.reduceLT, ral, rmd, rsq, rlu, rdp, Bool.true_or, Bool.false_or, Bool.or_false, Bool.or_true, hp]
      refine Br.d (fun c => absurd c (by decide +kernel)) fun _ => ?_
      simp only [and_assoc, rst, rs, re, ra, rq, rx, ro, rl, rl2, rsp, rz, rix, rln, rg, rd, ri, rv, rk, rdd, rwi, at0, at1, at2, at3, upd_at, List.getElem?_cons_zero, List.getElem?_cons_succ, Option.some.injEq, exists_eq_left', exists_eq_left, List.set_cons_zero, List.set_cons_succ, true_and, and_true, HO.lst.injEq, HO.tup.injEq, exists_and_left, exists_eq, exists_eq', Br.t, Br.f, Be.t, Be.f, List.cons.injEq, List.append_nil, scal, if_true, if_false, ite_true, ite_false, eq_self_iff_true, decide_true, decide_false, Bool.not_true, Bool.not_false, reduceIte, List.nil_append, List.cons_append, reduceCtorEq, false_and, exists_false, false_or, or_false, Int.reduceLT, ral, rmd, rsq, rlu, rdp, Bool.true_or, Bool.false_or, Bool.or_false, Bool.or_true, hp]
      refine Br.d (fun c => absurd c (by decide +kernel)) fun _ => ?_
      simp only [and_assoc, rst, rs, re, ra, rq, rx, ro, rl, rl2, rsp, rz, rix, rln, rg, rd, ri, rv, rk, rdd, rwi, at0, at1, at2, at3, upd_at, List.getElem?_cons_zero, List.getElem?_cons_succ, Option.some.injEq, exists_eq_left', exists_eq_left, List.set_cons_zero, List.set_cons_succ, true_and, and_true, HO.lst.injEq, HO.tup.injEq, exists_and_left, exists_eq, exists_eq', Br.t, Br.f, Be.t, Be.f, List.cons.injEq, List.append_nil, scal, if_true, if_false, ite_true, ite_false, eq_self_iff_true, decide_true, decide_false, Bool.not_true, Bool.not_false, reduceIte, List.nil_append, List.cons_append, reduceCtorEq, false_and, exists_false, false_or, or_false, Int.reduceLT, ral, rmd, rsq, rlu, rdp, Bool.true_or, Bool.false_or, Bool.or_false, Bool.or_true, hp]
      refine Br.d (fun c => absurd c (by decide +kernel)) fun _ => ?_
      simp only [and_assoc, rst, rs, re, ra, rq, rx, ro, rl, rl2, rsp, rz, rix, rln, rg, rd, ri, rv, rk, rdd, rwi, at0, at1, at2, at3, upd_at, List.getElem?_cons_zero, List.getElem?_cons_succ, Option.some.injEq, exists_eq_left', exists_eq_left, List.set_cons_zero, List.set_cons_succ, true_and, and_true, HO.lst.injEq, HO.tup.injEq, exists_and_left, exists_eq, exists_eq', Br.t, Br.f, Be.t, Be.f, List.cons.injEq, List.append_nil, scal, if_true, if_false, ite_true, ite_false, eq_self_iff_true, decide_true, decide_false, Bool.not_true, Bool.not_false, reduceIte, List.nil_append, List.cons_append, reduceCtorEq, false_and, exists_false, false_or, or_false, Int.reduceLT, ral, rmd, rsq, rlu, rdp, Bool.true_or, Bool.false_or, Bool.or_false, Bool.or_true, hp]
      refine Br.d (fun c => absurd c (by decide +kernel)) fun _ => ?_
      simp only [and_assoc, rst, rs, re, ra, rq, rx, ro, rl, rl2, rsp, rz, rix, rln, rg, rd, ri, rv, rk, rdd, rwi, at0, at1, at2, at3, upd_at, List.getElem?_cons_zero, List.getElem?_cons_succ, Option.some.injEq, exists_eq_left', exists_eq_left, List.set_cons_zero, List.set_cons_succ, true_and, and_true, HO.lst.injEq, HO.tup.injEq, exists_and_left, exists_eq, exists_eq', Br.t, Br.f, Be.t, Be.f, List.cons.injEq, List.append_nil, scal, if_true, if_false, ite_true, ite_false, eq_self_iff_true, decide_true, decide_false, Bool.not_true, Bool.not_false, reduceIte, List.nil_append, List.cons_append, reduceCtorEq, false_and, exists_false, false_or, or_false, Int.reduceLT, ral, rmd, rsq, rlu, rdp, Bool.true_or, Bool.false_or, Bool.or_false, Bool.or_true, hp]
      have h32 : 1 + max s.ht t.ht ≤ 3 := h3
      refine ⟨_, rfl, s, pf, ⟨lf, hpf⟩, by omega, by omega, hok.1, hx, fun u H1 s1 o1 => ?_⟩
      simp only [and_assoc, rst, rs, re, ra, rq, rx, ro, rl, rl2, rsp, rz, rix, rln, rg, rd, ri, rv, rk, rdd, rwi, at0, at1, at2, at3, upd_at, List.getElem?_cons_zero, List.getElem?_cons_succ, Option.some.injEq, exists_eq_left', exists_eq_left, List.set_cons_zero, List.set_cons_succ, true_and, and_true, HO.lst.injEq, HO.tup.injEq, exists_and_left, exists_eq, exists_eq', Br.t, Br.f, Be.t, Be.f, List.cons.injEq, List.append_nil, scal, if_true, if_false, ite_true, ite_false, eq_self_iff_true, decide_true, decide_false, Bool.not_true, Bool.not_false, reduceIte, List.nil_append, List.cons_append, reduceCtorEq, false_and, exists_false, false_or, or_false, Int.reduceLT, ral, rmd, rsq, rlu, rdp, Bool.true_or, Bool.false_or, Bool.or_false, Bool.or_true, s1 _ _ hp]
      refine ⟨_, rfl, t, pf, ⟨lf, s1 _ _ hpf⟩, by omega, by omega, hok.2.1, Td.same s1 hy, fun u2 H2 s2 o2 => ?_⟩
      refine fun a dx ha hd nd => ⟨_, _, _, rfl, a, s, t, pf, ⟨rfl, dx, upd_same⟩, hok, by omega, by omega, ne_of_none (s2 _ _ (s1 _ _ hpf)) ha, (mkN (s2 _ _ (s1 _ _ hpf)) ha hd).2, Ob.same (wo_mono (Same.trans s2 (mkA ha hd))) o1, Ob.same (wo_mono (mkA ha hd)) o2, fun H' k o => ⟨rfl, q _ H' (Same.trans s1 (Same.trans s2 (mkS ha hd k))) o⟩⟩
    | rows s m =>
      obtain ⟨p, x, rfl, hp, hx⟩ := ht
      have hh2 : 1 + s.ht < n + 1 := hh
      simp only [and_assoc, rst, rs, re, ra, rq, rx, ro, rl, rl2, rsp, rz, rix, rln, rg, rd, ri, rv, rk, rdd, rwi, at0, at1, at2, at3, upd_at, List.getElem?_cons_zero, List.getElem?_cons_succ, Option.some.injEq, exists_eq_left', exists_eq_left, List.set_cons_zero, List.set_cons_succ, true_and, and_true, HO.lst.injEq, HO.tup.injEq, exists_and_left, exists_eq, exists_eq', Br.t, Br.f, Be.t, Be.f, List.cons.injEq, List.append_nil, scal, if_true, if_false, ite_true, ite_false, eq_self_iff_true, decide_true, decide_false, Bool.not_true, Bool.not_false, reduceIte, List.nil_append, List.cons_append, reduceCtorEq, false_and, exists_false, false_or, or_false, Int.reduceLT, ral, rmd, rsq, rlu, rdp, Bool.true_or, Bool.false_or, Bool.or_false, Bool.or_true, hp]
      refine Br.d (fun c => absurd c (by decide +kernel)) fun _ => ?_
      simp only [and_assoc, rst, rs, re, ra, rq, rx, ro, rl, rl2, rsp, rz, rix, rln, rg, rd, ri, rv, rk, rdd, rwi, at0, at1, at2, at3, upd_at, List.getElem?_cons_zero, List.getElem?_cons_succ, Option.some.injEq, exists_eq_left', exists_eq_left, List.set_cons_zero, List.set_cons_succ, true_and, and_true, HO.lst.injEq, HO.tup.injEq, exists_and_left, exists_eq, exists_eq', Br.t, Br.f, Be.t, Be.f, List.cons.injEq, List.append_nil, scal, if_true, if_false, ite_true, ite_false, eq_self_iff_true, decide_true, decide_false, Bool.not_true, Bool.not_false, reduceIte, List.nil_append, List.cons_append, reduceCtorEq, false_and, exists_false, false_or, or_false, Int.reduceLT, ral, rmd, rsq, rlu, rdp, Bool.true_or, Bool.false_or, Bool.or_false, Bool.or_true, hp]
      refine Br.d (fun c => absurd c (by decide +kernel)) fun _ => ?_
      simp only [and_assoc, rst, rs, re, ra, rq, rx, ro, rl, rl2, rsp, rz, rix, rln, rg, rd, ri, rv, rk, rdd, rwi, at0, at1, at2, at3, upd_at, List.getElem?_cons_zero, List.getElem?_cons_succ, Option.some.injEq, exists_eq_left', exists_eq_left, List.set_cons_zero, List.set_cons_succ, true_and, and_true, HO.lst.injEq, HO.tup.injEq, exists_and_left, exists_eq, exists_eq', Br.t, Br.f, Be.t, Be.f, List.cons.injEq, List.append_nil, scal, if_true, if_false, ite_true, ite_false, eq_self_iff_true, decide_true, decide_false, Bool.not_true, Bool.not_false, reduceIte, List.nil_append, List.cons_append, reduceCtorEq, false_and, exists_false, false_or, or_false, Int.reduceLT, ral, rmd, rsq, rlu, rdp, Bool.true_or, Bool.false_or, Bool.or_false, Bool.or_true, hp]
      refine Br.d (fun c => absurd c (by decide +kernel)) fun _ => ?_
      simp only [and_assoc, rst, rs, re, ra, rq, rx, ro, rl, rl2, rsp, rz, rix, rln, rg, rd, ri, rv, rk, rdd, rwi, at0, at1, at2, at3, upd_at, List.getElem?_cons_zero, List.getElem?_cons_succ, Option.some.injEq, exists_eq_left', exists_eq_left, List.set_cons_zero, List.set_cons_succ, true_and, and_true, HO.lst.injEq, HO.tup.injEq, exists_and_left, exists_eq, exists_eq', Br.t, Br.f, Be.t, Be.f, List.cons.injEq, List.append_nil, scal, if_true, if_false, ite_true, ite_false, eq_self_iff_true, decide_true, decide_false, Bool.not_true, Bool.not_false, reduceIte, List.nil_append, List.cons_append, reduceCtorEq, false_and, exists_false, false_or, or_false, Int.reduceLT, ral, rmd, rsq, rlu, rdp, Bool.true_or, Bool.false_or, Bool.or_false, Bool.or_true, hp]
      refine Br.d (fun c => absurd c (by decide +kernel)) fun _ => ?_
      simp only [and_assoc, rst, rs, re, ra, rq, rx, ro, rl, rl2, rsp, rz, rix, rln, rg, rd, ri, rv, rk, rdd, rwi, at0, at1, at2, at3, upd_at, List.getElem?_cons_zero, List.getElem?_cons_succ, Option.some.injEq, exists_eq_left', exists_eq_left, List.set_cons_zero, List.set_cons_succ, true_and, and_true, HO.lst.injEq, HO.tup.injEq, exists_and_left, exists_eq, exists_eq', Br.t, Br.f, Be.t, Be.f, List.cons.injEq, List.append_nil, scal, if_true, if_false, ite_true, ite_false, eq_self_iff_true, decide_true, decide_false, Bool.not_true, Bool.not_false, reduceIte, List.nil_append, List.cons_append, reduceCtorEq, false_and, exists_false, false_or, or_false, Int.reduceLT, ral, rmd, rsq, rlu, rdp, Bool.true_or, Bool.false_or, Bool.or_false, Bool.or_true, hp]
      refine Br.d (fun c => absurd c (by decide +kernel)) fun _ => ?_
      simp only [and_assoc, rst, rs, re, ra, rq, rx, ro, rl, rl2, rsp, rz, rix, rln, rg, rd, ri, rv, rk, rdd, rwi, at0, at1, at2, at3, upd_at, List.getElem?_cons_zero, List.getElem?_cons_succ, Option.some.injEq, exists_eq_left', exists_eq_left, List.set_cons_zero, List.set_cons_succ, true_and, and_true, HO.lst.injEq, HO.tup.injEq, exists_and_left, exists_eq, exists_eq', Br.t, Br.f, Be.t, Be.f, List.cons.injEq, List.append_nil, scal, if_true, if_false, ite_true, ite_false, eq_self_iff_true, decide_true, decide_false, Bool.not_true, Bool.not_false, reduceIte, List.nil_append, List.cons_append, reduceCtorEq, false_and, exists_false, false_or, or_false, Int.reduceLT, ral, rmd, rsq, rlu, rdp, Bool.true_or, Bool.false_or, Bool.or_false, Bool.or_true, hp]
      have h32 : 1 + s.ht ≤ 3 := h3
      refine ⟨_, rfl, s, pf, ⟨lf, hpf⟩, by omega, by omega, hok.1, hx, fun u H1 s1 o1 => ?_⟩
      simp only [and_assoc, rst, rs, re, ra, rq, rx, ro, rl, rl2, rsp, rz, rix, rln, rg, rd, ri, rv, rk, rdd, rwi, at0, at1, at2, at3, upd_at, List.getElem?_cons_zero, List.getElem?_cons_succ, Option.some.injEq, exists_eq_left', exists_eq_left, List.set_cons_zero, List.set_cons_succ, true_and, and_true, HO.lst.injEq, HO.tup.injEq, exists_and_left, exists_eq, exists_eq', Br.t, Br.f, Be.t, Be.f, List.cons.injEq, List.append_nil, scal, if_true, if_false, ite_true, ite_false, eq_self_iff_true, decide_true, decide_false, Bool.not_true, Bool.not_false, reduceIte, List.nil_append, List.cons_append, reduceCtorEq, false_and, exists_false, false_or, or_false, Int.reduceLT, ral, rmd, rsq, rlu, rdp, Bool.true_or, Bool.false_or, Bool.or_false, Bool.or_true, s1 _ _ hp]
      refine fun a dx ha hd nd => ⟨_, _, _, rfl, a, s, m, pf, ⟨rfl, dx, upd_same⟩, hok, by omega, ne_of_none (s1 _ _ hpf) ha, (mkN (s1 _ _ hpf) ha hd).2, Ob.same (wo_mono (mkA ha hd)) o1, rfl, fun H' k o => ⟨rfl, q _ H' (Same.trans s1 (mkS ha hd k)) o⟩⟩
end
end Law

-- RDX ral, rmd, rsq, rlu, rdp, Bool.true_or, Bool.false_or, Bool.or_false, Bool.or_true
namespace Law
open PySem PySem.Spec PyProof.Rows L2 Sw
section
variable {P : Program} {w : World} {K : Fg} {mg : Str → Option Value} {base : Heap}
theorem rz__law_outcome {H : Hp} {x y : V} {Q : VK} (h : ∃ (sh : Sh) (z : Int), sh.ht < 0 ∧ sh.ht ≤ 3 ∧ sh.ok ∧ Td H sh x ∧ y = .int z ∧ 0 ≤ z ∧ z < sh.tot ∧ ∀ v H', Same H H' → Rp H' sh z v → Q v H') : False := by
  obtain ⟨sh, z, h, _⟩ := h
  omega
def digL (t : Int) (n : Nat) (z : Int) : List Int := (List.range n).map fun j => z / t ^ j % t
theorem digL_succ (t : Int) (n : Nat) (z : Int) : digL t (n + 1) z = digL t n z ++ [z / t ^ n % t] := by
  unfold digL
  rw [List.range_succ, List.map_append]
  rfl
theorem digL_cons {t : Int} (t0 : 0 ≤ t) (n : Nat) (z : Int) : digL t (n + 1) z = z % t :: digL t n (z / t) := by
  unfold digL
  rw [List.range_succ_eq_map, List.map_cons, List.map_map]
  congr 1
  · rw [Int.pow_zero, Int.ediv_one]
  · refine List.map_congr_left fun j _ => ?_
    show z / t ^ (j + 1) % t = z / t / t ^ j % t
    rw [Int.ediv_ediv_of_nonneg t0, Int.pow_succ, Int.mul_comm]
theorem dig_rev {t : Int} (t0 : 0 ≤ t) : ∀ (n : Nat) (z : Int), (digL t n z).reverse = dig t n z
  | 0, _ => rfl
  | n + 1, z => by
    rw [digL_cons t0, List.reverse_cons, dig_rev t0 n]
    rfl
theorem All2.rev {α β : Type} {R : α → β → Prop} : ∀ {l : List α} {m : List β}, All2 R l m → All2 R l.reverse m.reverse
  | [], [], _ => True.intro
  | a :: l, b :: m, ⟨x, y⟩ => by
    rw [List.reverse_cons, List.reverse_cons]
    exact All2.snoc x (All2.rev y)
  | [], _ :: _, x => x.elim
  | _ :: _, [], x => x.elim
theorem okn__law_outcome (T : Tx K mg w) (c__law_total : Cal P w K mg base 6 "_law_total" ["told"] (sp__law_total K)) (c__law_order : Cal P w K mg base 2 "_law_order" ["many", "rank"] (sp__law_order K)) (c__law_set : Cal P w K mg base 2 "_law_set" ["many", "size", "rank"] (sp__law_set K)) (c__law_share : Cal P w K mg base 1 "_law_share" ["portions", "number"] (sp__law_share K)) : ∀ n, Cal P w K mg base (7 + n) "_law_outcome" ["told", "number"] (spn__law_outcome K n) := by
  intro n
  induction n with
  | zero =>
    refine cal_mk T.F__law_outcome T.g__law_outcome sc__law_outcome (len2 _) (fun _ _ _ _ _ _ us hl => match us, hl with | [_, _], _ => rfl) (fun cdv A outer s H vs Q E hr h => ?_)
    obtain ⟨v0, v1, rfl, h⟩ := h
    exact (rz__law_outcome h).elim
  | succ n c__law_outcome =>
    refine cal_mk T.F__law_outcome T.g__law_outcome sc__law_outcome (len2 _) (fun _ _ _ _ _ _ us hl => match us, hl with | [_, _], _ => rfl) (fun cdv A outer s H vs Q E hr h => ?_)
    obtain ⟨v0, v1, rfl, h⟩ := h
    have hu := hu_of hr.r
    refine ⟨_, (pss_cons (ps_if (pt_cmpR op_eq (pe_ix ix_q (pv 0) pe_int (fun _ _ => rfl)) pe_str (nomark _)) (pss_one (ps_ret (pv 1))) pss_nil)
      (pss_cons (ps_if (pt_cmpR op_eq (pe_ix ix_q (pv 0) pe_int (fun _ _ => rfl)) pe_str (nomark _)) (pss_one (ps_ret (pe_cal c__law_share hr (Nat.le_trans (by decide : 1 ≤ 7) (Nat.le_add_right _ _)) passL rfl (pa_cons (pe_ix ix_q (pv 0) pe_int (fun _ _ => rfl)) (pa_cons (pv 1) pa_nil))))) pss_nil)
      (pss_cons (ps_if (pt_cmpR op_eq (pe_ix ix_q (pv 0) pe_int (fun _ _ => rfl)) pe_str (nomark _)) (pss_one (ps_ret (pe_cal c__law_order hr (Nat.le_trans (by decide : 2 ≤ 7) (Nat.le_add_right _ _)) passL rfl (pa_cons (pe_ix ix_q (pv 0) pe_int (fun _ _ => rfl)) (pa_cons (pv 1) pa_nil))))) pss_nil)
      (pss_cons (ps_if (pt_cmpR op_eq (pe_ix ix_q (pv 0) pe_int (fun _ _ => rfl)) pe_str (nomark _)) (pss_one (ps_ret (pe_cal c__law_set hr (Nat.le_trans (by decide : 2 ≤ 7) (Nat.le_add_right _ _)) passL rfl (pa_cons (pe_ix ix_q (pv 0) pe_int (fun _ _ => rfl)) (pa_cons (pe_ix ix_q (pv 0) pe_int (fun _ _ => rfl)) (pa_cons (pv 1) pa_nil)))))) pss_nil)
      (pss_cons (ps_if (pt_cmpR op_eq (pe_ix ix_q (pv 0) pe_int (fun _ _ => rfl)) pe_str (nomark _)) (pss_cons (ps_set (i := 2) sc__law_outcome.nd rfl (Or.inl rfl) (pe_cal c__law_total hr (Nat.le_trans (by decide : 6 ≤ 7) (Nat.le_add_right _ _)) passL rfl (pa_cons (pe_ix ix_q (pv 0) pe_int (fun _ _ => rfl)) pa_nil)))
      (pss_one (ps_ret (pe_tup (pa_cons (pe_cal c__law_outcome hr (Nat.le_refl _) passL rfl (pa_cons (pe_ix ix_q (pv 0) pe_int (fun _ _ => rfl)) (pa_cons (pe_op op_fdivW (pv 1) (pv 2)) pa_nil))) (pa_cons (pe_cal c__law_outcome hr (Nat.le_refl _) passL rfl (pa_cons (pe_ix ix_q (pv 0) pe_int (fun _ _ => rfl)) (pa_cons (pe_op op_mod (pv 1) (pv 2)) pa_nil))) pa_nil)))))) pss_nil)
      (pss_cons (ps_set (i := 2) sc__law_outcome.nd rfl (Or.inl rfl) (pe_cal c__law_total hr (Nat.le_trans (by decide : 6 ≤ 7) (Nat.le_add_right _ _)) passL rfl (pa_cons (pe_ix ix_q (pv 0) pe_int (fun _ _ => rfl)) pa_nil)))
      (pss_cons (ps_set (i := 3) sc__law_outcome.nd rfl (Or.inl rfl) (pe_lst pa_nil))
      (pss_cons (ps_for (passes_of rfl) rfl (pi_range1 (by rfl) T.n_range (pa_cons (pe_ix ix_q (pv 0) pe_int (fun _ _ => rfl)) pa_nil)) (pg_name (i := 4) sc__law_outcome.nd rfl (Or.inl rfl)) (pss_cons (ps_expr (pe_ml PySem.F.slot_list_append PySem.F.type_list_append mt_append (pv 3) (pa_cons (pe_cal c__law_outcome hr (Nat.le_refl _) passL rfl (pa_cons (pe_ix ix_q (pv 0) pe_int (fun _ _ => rfl)) (pa_cons (pe_op op_mod (pv 1) (pv 2)) pa_nil))) pa_nil)))
      (pss_one (ps_set (i := 1) sc__law_outcome.nd rfl (Or.inl rfl) (pe_op op_fdivW (pv 1) (pv 2))))))
      (pss_one (ps_ret (pe_callTy tup_q (by rfl) T.n_tuple (by decide +kernel) (pa_cons (pe_revL (pv 3)) pa_nil)))))))))))), ?_⟩
    obtain ⟨sh, z, hh, h3, hok, ht, rfl, z0, z1, q⟩ := h
    cases sh with
    | bound b =>
      obtain ⟨p, rfl, hp⟩ := ht
      simp only [and_assoc, rst, rs, re, ra, rq, rx, ro, rl, rl2, rsp, rz, rix, rln, rg, rd, ri, rv, rk, rdd, rwi, at0, at1, at2, at3, upd_at, List.getElem?_cons_zero, List.getElem?_cons_succ, Option.some.injEq, exists_eq_left', exists_eq_left, List.set_cons_zero, List.set_cons_succ, true_and, and_true, HO.lst.injEq, HO.tup.injEq, exists_and_left, exists_eq, exists_eq', Br.t, Br.f, Be.t, Be.f, List.cons.injEq, List.append_nil, scal, if_true, if_false, ite_true, ite_false, eq_self_iff_true, decide_true, decide_false, Bool.not_true, Bool.not_false, reduceIte, List.nil_append, List.cons_append, reduceCtorEq, false_and, exists_false, false_or, or_false, Int.reduceLT, ral, rmd, rsq, rlu, rdp, Bool.true_or, Bool.false_or, Bool.or_false, Bool.or_true, hp]
      exact q _ _ (fun _ _ e => e) rfl
    | shares ps =>
      obtain ⟨p, p2, rfl, hp, hp2⟩ := ht
      simp only [and_assoc, rst, rs, re, ra, rq, rx, ro, rl, rl2, rsp, rz, rix, rln, rg, rd, ri, rv, rk, rdd, rwi, at0, at1, at2, at3, upd_at, List.getElem?_cons_zero, List.getElem?_cons_succ, Option.some.injEq, exists_eq_left', exists_eq_left, List.set_cons_zero, List.set_cons_succ, true_and, and_true, HO.lst.injEq, HO.tup.injEq, exists_and_left, exists_eq, exists_eq', Br.t, Br.f, Be.t, Be.f, List.cons.injEq, List.append_nil, scal, if_true, if_false, ite_true, ite_false, eq_self_iff_true, decide_true, decide_false, Bool.not_true, Bool.not_false, reduceIte, List.nil_append, List.cons_append, reduceCtorEq, false_and, exists_false, false_or, or_false, Int.reduceLT, ral, rmd, rsq, rlu, rdp, Bool.true_or, Bool.false_or, Bool.or_false, Bool.or_true, hp]
      refine Br.d (fun c => absurd c (by decide +kernel)) fun _ => ?_
      simp only [and_assoc, rst, rs, re, ra, rq, rx, ro, rl, rl2, rsp, rz, rix, rln, rg, rd, ri, rv, rk, rdd, rwi, at0, at1, at2, at3, upd_at, List.getElem?_cons_zero, List.getElem?_cons_succ, Option.some.injEq, exists_eq_left', exists_eq_left, List.set_cons_zero, List.set_cons_succ, true_and, and_true, HO.lst.injEq, HO.tup.injEq, exists_and_left, exists_eq, exists_eq', Br.t, Br.f, Be.t, Be.f, List.cons.injEq, List.append_nil, scal, if_true, if_false, ite_true, ite_false, eq_self_iff_true, decide_true, decide_false, Bool.not_true, Bool.not_false, reduceIte, List.nil_append, List.cons_append, reduceCtorEq, false_and, exists_false, false_or, or_false, Int.reduceLT, ral, rmd, rsq, rlu, rdp, Bool.true_or, Bool.false_or, Bool.or_false, Bool.or_true, hp]
      exact ⟨_, _, rfl, ps, z, ⟨_, _, rfl, hp2, rfl⟩, hok, rfl, z0, z1, q _ _ (fun _ _ e => e) rfl⟩
    | orders k =>
      obtain ⟨p, rfl, hp⟩ := ht
      simp only [and_assoc, rst, rs, re, ra, rq, rx, ro, rl, rl2, rsp, rz, rix, rln, rg, rd, ri, rv, rk, rdd, rwi, at0, at1, at2, at3, upd_at, List.getElem?_cons_zero, List.getElem?_cons_succ, Option.some.injEq, exists_eq_left', exists_eq_left, List.set_cons_zero, List.set_cons_succ, true_and, and_true, HO.lst.injEq, HO.tup.injEq, exists_and_left, exists_eq, exists_eq', Br.t, Br.f, Be.t, Be.f, List.cons.injEq, List.append_nil, scal, if_true, if_false, ite_true, ite_false, eq_self_iff_true, decide_true, decide_false, Bool.not_true, Bool.not_false, reduceIte, List.nil_append, List.cons_append, reduceCtorEq, false_and, exists_false, false_or, or_false, Int.reduceLT, ral, rmd, rsq, rlu, rdp, Bool.true_or, Bool.false_or, Bool.or_false, Bool.or_true, hp]
      refine Br.d (fun c => absurd c (by decide +kernel)) fun _ => ?_
      simp only [and_assoc, rst, rs, re, ra, rq, rx, ro, rl, rl2, rsp, rz, rix, rln, rg, rd, ri, rv, rk, rdd, rwi, at0, at1, at2, at3, upd_at, List.getElem?_cons_zero, List.getElem?_cons_succ, Option.some.injEq, exists_eq_left', exists_eq_left, List.set_cons_zero, List.set_cons_succ, true_and, and_true, HO.lst.injEq, HO.tup.injEq, exists_and_left, exists_eq, exists_eq', Br.t, Br.f, Be.t, Be.f, List.cons.injEq, List.append_nil, scal, if_true, if_false, ite_true, ite_false, eq_self_iff_true, decide_true, decide_false, Bool.not_true, Bool.not_false, reduceIte, List.nil_append, List.cons_append, reduceCtorEq, false_and, exists_false, false_or, or_false, Int.reduceLT, ral, rmd, rsq, rlu, rdp, Bool.true_or, Bool.false_or, Bool.or_false, Bool.or_true, hp]
      refine Br.d (fun c => absurd c (by decide +kernel)) fun _ => ?_
      simp only [and_assoc, rst, rs, re, ra, rq, rx, ro, rl, rl2, rsp, rz, rix, rln, rg, rd, ri, rv, rk, rdd, rwi, at0, at1, at2, at3, upd_at, List.getElem?_cons_zero, List.getElem?_cons_succ, Option.some.injEq, exists_eq_left', exists_eq_left, List.set_cons_zero, List.set_cons_succ, true_and, and_true, HO.lst.injEq, HO.tup.injEq, exists_and_left, exists_eq, exists_eq', Br.t, Br.f, Be.t, Be.f, List.cons.injEq, List.append_nil, scal, if_true, if_false, ite_true, ite_false, eq_self_iff_true, decide_true, decide_false, Bool.not_true, Bool.not_false, reduceIte, List.nil_append, List.cons_append, reduceCtorEq, false_and, exists_false, false_or, or_false, Int.reduceLT, ral, rmd, rsq, rlu, rdp, Bool.true_or, Bool.false_or, Bool.or_false, Bool.or_true, hp]
      exact ⟨_, _, rfl, k, z, rfl, rfl, hok, z0, z1, fun p H' s hp => q _ _ s ⟨p, rfl, hp⟩⟩
    | sets m k =>
      obtain ⟨p, rfl, hp⟩ := ht
      simp only [and_assoc, rst, rs, re, ra, rq, rx, ro, rl, rl2, rsp, rz, rix, rln, rg, rd, ri, rv, rk, rdd, rwi, at0, at1, at2, at3, upd_at, List.getElem?_cons_zero, List.getElem?_cons_succ, Option.some.injEq, exists_eq_left', exists_eq_left, List.set_cons_zero, List.set_cons_succ, true_and, and_true, HO.lst.injEq, HO.tup.injEq, exists_and_left, exists_eq, exists_eq', Br.t, Br.f, Be.t, Be.f, List.cons.injEq, List.append_nil, scal, if_true, if_false, ite_true, ite_false, eq_self_iff_true, decide_true, decide_false, Bool.not_true, Bool.not_false, reduceIte, List.nil_append, List.cons_append, reduceCtorEq, false_and, exists_false, false_or, or_false, Int.reduceLT, ral, rmd, rsq, rlu, rdp, Bool.true_or, Bool.false_or, Bool.or_false, Bool.or_true, hp]
      refine Br.d (fun c => absurd c (by decide +kernel)) fun _ => ?_
      simp only [and_assoc, rst, rs, re, ra, rq, rx, ro, rl, rl2, rsp, rz, rix, rln, rg, rd, ri, rv, rk, rdd, rwi, at0, at1, at2, at3, upd_at, List.getElem?_cons_zero, List.getElem?_cons_succ, Option.some.injEq, exists_eq_left', exists_eq_left, List.set_cons_zero, List.set_cons_succ, true_and, and_true, HO.lst.injEq, HO.tup.injEq, exists_and_left, exists_eq, exists_eq', Br.t, Br.f, Be.t, Be.f, List.cons.injEq, List.append_nil, scal, if_true, if_false, ite_true, ite_false, eq_self_iff_true, decide_true, decide_false, Bool.not_true, Bool.not_false, reduceIte, List.nil_append, List.cons_append, reduceCtorEq, false_and, exists_false, false_or, or_false, Int.reduceLT, ral, rmd, rsq, rlu, rdp, Bool.true_or, Bool.false_or, Bool.or_false, Bool.or_true, hp]
      refine Br.d (fun c => absurd c (by decide +kernel)) fun _ => ?_
      simp only [and_assoc, rst, rs, re, ra, rq, rx, ro, rl, rl2, rsp, rz, rix, rln, rg, rd, ri, rv, rk, rdd, rwi, at0, at1, at2, at3, upd_at, List.getElem?_cons_zero, List.getElem?_cons_succ, Option.some.injEq, exists_eq_left', exists_eq_left, List.set_cons_zero, List.set_cons_succ, true_and, and_true, HO.lst.injEq, HO.tup.injEq, exists_and_left, exists_eq, exists_eq', Br.t, Br.f, Be.t, Be.f, List.cons.injEq, List.append_nil, scal, if_true, if_false, ite_true, ite_false, eq_self_iff_true, decide_true, decide_false, Bool.not_true, Bool.not_false, reduceIte, List.nil_append, List.cons_append, reduceCtorEq, false_and, exists_false, false_or, or_false, Int.reduceLT, ral, rmd, rsq, rlu, rdp, Bool.true_or, Bool.false_or, Bool.or_false, Bool.or_true, hp]
      refine Br.d (fun c => absurd c (by decide +kernel)) fun _ => ?_
      simp only [and_assoc, rst, rs, re, ra, rq, rx, ro, rl, rl2, rsp, rz, rix, rln, rg, rd, ri, rv, rk, rdd, rwi, at0, at1, at2, at3, upd_at, List.getElem?_cons_zero, List.getElem?_cons_succ, Option.some.injEq, exists_eq_left', exists_eq_left, List.set_cons_zero, List.set_cons_succ, true_and, and_true, HO.lst.injEq, HO.tup.injEq, exists_and_left, exists_eq, exists_eq', Br.t, Br.f, Be.t, Be.f, List.cons.injEq, List.append_nil, scal, if_true, if_false, ite_true, ite_false, eq_self_iff_true, decide_true, decide_false, Bool.not_true, Bool.not_false, reduceIte, List.nil_append, List.cons_append, reduceCtorEq, false_and, exists_false, false_or, or_false, Int.reduceLT, ral, rmd, rsq, rlu, rdp, Bool.true_or, Bool.false_or, Bool.or_false, Bool.or_true, hp]
      exact ⟨_, _, _, rfl, m, k, z, rfl, rfl, rfl, hok.1, hok.2, z0, z1, fun p H' s hp => q _ _ s ⟨p, rfl, hp⟩⟩
    | pair s t =>
      obtain ⟨p, x, y, rfl, hp, hx, hy⟩ := ht
      have hh2 : 1 + max s.ht t.ht < n + 1 := hh
      simp only [and_assoc, rst, rs, re, ra, rq, rx, ro, rl, rl2, rsp, rz, rix, rln, rg, rd, ri, rv, rk, rdd, rwi, at0, at1, at2, at3, upd_at, List.getElem?_cons_zero, List.getElem?_cons_succ, Option.some.injEq, exists_eq_left', exists_eq_left, List.set_cons_zero, List.set_cons_succ, true_and, and_true, HO.lst.injEq, HO.tup.injEq, exists_and_left, exists_eq, exists_eq', Br.t, Br.f, Be.t, Be.f, List.cons.injEq, List.append_nil, scal, if_true, if_false, ite_true, ite_false, eq_self_iff_true, decide_true, decide_false, Bool.not_true, Bool.not_false, reduceIte, List.nil_append, List.cons_append, reduceCtorEq, false_and, exists_false, false_or, or_false, Int.reduceLT, ral, rmd, rsq, rlu, rdp, Bool.true_or, Bool.false_or, Bool.or_false, Bool.or_true, hp]
      refine Br.d (fun c => absurd c (by decide +kernel)) fun _ => ?_
      simp only [and_assoc, rst, rs, re, ra, rq, rx, ro, rl, rl2, rsp, rz, rix, rln, rg, rd, ri, rv, rk, rdd, rwi, at0, at1, at2, at3, upd_at, List.getElem?_cons_zero, List.getElem?_cons_succ, Option.some.injEq, exists_eq_left', exists_eq_left, List.set_cons_zero, List.set_cons_succ, true_and, and_true, HO.lst.injEq, HO.tup.injEq, exists_and_left, exists_eq, exists_eq', Br.t, Br.f, Be.t, Be.f, List.cons.injEq, List.append_nil, scal, if_true, if_false, ite_true, ite_false, eq_self_iff_true, decide_true, decide_false, Bool.not_true, Bool.not_false, reduceIte, List.nil_append, List.cons_append, reduceCtorEq, false_and, exists_false, false_or, or_false, Int.reduceLT, ral, rmd, rsq, rlu, rdp, Bool.true_or, Bool.false_or, Bool.or_false, Bool.or_true, hp]
      refine Br.d (fun c => absurd c (by decide +kernel)) fun _ => ?_
      simp only [and_assoc, rst, rs, re, ra, rq, rx, ro, rl, rl2, rsp, rz, rix, rln, rg, rd, ri, rv, rk, rdd, rwi, at0, at1, at2, at3, upd_at, List.getElem?_cons_zero, List.getElem?_cons_succ, Option.some.injEq, exists_eq_left', exists_eq_left, List.set_cons_zero, List.set_cons_succ, true_and, and_true, HO.lst.injEq, HO.tup.injEq, exists_and_left, exists_eq, exists_eq', Br.t, Br.f, Be.t, Be.f, List.cons.injEq, List.append_nil, scal, if_true, if_false, ite_true, ite_false, eq_self_iff_true, decide_true, decide_false, Bool.not_true, Bool.not_false, reduceIte, List.nil_append, List.cons_append, reduceCtorEq, false_and, exists_false, false_or, or_false, Int.reduceLT, ral, rmd, rsq, rlu, rdp, Bool.true_or, Bool.false_or, Bool.or_false, Bool.or_true, hp]
      refine Br.d (fun c => absurd c (by decide +kernel)) fun _ => ?_
      simp only [and_assoc, rst, rs, re, ra, rq, rx, ro, rl, rl2, rsp, rz, rix, rln, rg, rd, ri, rv, rk, rdd, rwi, at0, at1, at2, at3, upd_at, List.getElem?_cons_zero, List.getElem?_cons_succ, Option.some.injEq, exists_eq_left', exists_eq_left, List.set_cons_zero, List.set_cons_succ, true_and, and_true, HO.lst.injEq, HO.tup.injEq, exists_and_left, exists_eq, exists_eq', Br.t, Br.f, Be.t, Be.f, List.cons.injEq, List.append_nil, scal, if_true, if_false, ite_true, ite_false, eq_self_iff_true, decide_true, decide_false, Bool.not_true, Bool.not_false, reduceIte, List.nil_append, List.cons_append, reduceCtorEq, false_and, exists_false, false_or, or_false, Int.reduceLT, ral, rmd, rsq, rlu, rdp, Bool.true_or, Bool.false_or, Bool.or_false, Bool.or_true, hp]
      refine Br.d (fun c => absurd c (by decide +kernel)) fun _ => ?_
      simp only [and_assoc, rst, rs, re, ra, rq, rx, ro, rl, rl2, rsp, rz, rix, rln, rg, rd, ri, rv, rk, rdd, rwi, at0, at1, at2, at3, upd_at, List.getElem?_cons_zero, List.getElem?_cons_succ, Option.some.injEq, exists_eq_left', exists_eq_left, List.set_cons_zero, List.set_cons_succ, true_and, and_true, HO.lst.injEq, HO.tup.injEq, exists_and_left, exists_eq, exists_eq', Br.t, Br.f, Be.t, Be.f, List.cons.injEq, List.append_nil, scal, if_true, if_false, ite_true, ite_false, eq_self_iff_true, decide_true, decide_false, Bool.not_true, Bool.not_false, reduceIte, List.nil_append, List.cons_append, reduceCtorEq, false_and, exists_false, false_or, or_false, Int.reduceLT, ral, rmd, rsq, rlu, rdp, Bool.true_or, Bool.false_or, Bool.or_false, Bool.or_true, hp]
      have h32 : 1 + max s.ht t.ht ≤ 3 := h3
      obtain ⟨k1, k2, k3⟩ := hok
      obtain ⟨s0, s1⟩ := tot_ok k1
      obtain ⟨t0, t1⟩ := tot_ok k2
      have zz : z < s.tot * t.tot := z1
      refine ⟨_, rfl, t, by omega, ok_okS k2, hy, ?_⟩
      simp only [and_assoc, rst, rs, re, ra, rq, rx, ro, rl, rl2, rsp, rz, rix, rln, rg, rd, ri, rv, rk, rdd, rwi, at0, at1, at2, at3, upd_at, List.getElem?_cons_zero, List.getElem?_cons_succ, Option.some.injEq, exists_eq_left', exists_eq_left, List.set_cons_zero, List.set_cons_succ, true_and, and_true, HO.lst.injEq, HO.tup.injEq, exists_and_left, exists_eq, exists_eq', Br.t, Br.f, Be.t, Be.f, List.cons.injEq, List.append_nil, scal, if_true, if_false, ite_true, ite_false, eq_self_iff_true, decide_true, decide_false, Bool.not_true, Bool.not_false, reduceIte, List.nil_append, List.cons_append, reduceCtorEq, false_and, exists_false, false_or, or_false, Int.reduceLT, ral, rmd, rsq, rlu, rdp, Bool.true_or, Bool.false_or, Bool.or_false, Bool.or_true, hp]
      refine ⟨wide_div (by omega) (b := 65) (by omega) (by decide) (by decide), _, _, rfl, s, _, by omega, by omega, k1, hx, rfl, Int.ediv_nonneg z0 (by omega), Int.ediv_lt_of_lt_mul (by omega) zz, fun v H1 S1 r1 => ?_⟩
      simp only [and_assoc, rst, rs, re, ra, rq, rx, ro, rl, rl2, rsp, rz, rix, rln, rg, rd, ri, rv, rk, rdd, rwi, at0, at1, at2, at3, upd_at, List.getElem?_cons_zero, List.getElem?_cons_succ, Option.some.injEq, exists_eq_left', exists_eq_left, List.set_cons_zero, List.set_cons_succ, true_and, and_true, HO.lst.injEq, HO.tup.injEq, exists_and_left, exists_eq, exists_eq', Br.t, Br.f, Be.t, Be.f, List.cons.injEq, List.append_nil, scal, if_true, if_false, ite_true, ite_false, eq_self_iff_true, decide_true, decide_false, Bool.not_true, Bool.not_false, reduceIte, List.nil_append, List.cons_append, reduceCtorEq, false_and, exists_false, false_or, or_false, Int.reduceLT, ral, rmd, rsq, rlu, rdp, Bool.true_or, Bool.false_or, Bool.or_false, Bool.or_true, S1 _ _ hp]
      refine ⟨by omega, _, _, rfl, t, _, by omega, by omega, k2, Td.same S1 hy, rfl, Int.emod_nonneg _ (by omega), Int.emod_lt_of_pos _ (by omega), fun u H2 S2 r2 => ?_⟩
      exact fun q1 hq1 => q _ _ (Same.trans S1 (Same.trans S2 (Same.new hq1))) ⟨q1, v, u, rfl, upd_same, Rp.same (Same.trans S2 (Same.new hq1)) r1, Rp.same (Same.new hq1) r2⟩
    | rows s m =>
      obtain ⟨p, x, rfl, hp, hx⟩ := ht
      have hh2 : 1 + s.ht < n + 1 := hh
      simp only [and_assoc, rst, rs, re, ra, rq, rx, ro, rl, rl2, rsp, rz, rix, rln, rg, rd, ri, rv, rk, rdd, rwi, at0, at1, at2, at3, upd_at, List.getElem?_cons_zero, List.getElem?_cons_succ, Option.some.injEq, exists_eq_left', exists_eq_left, List.set_cons_zero, List.set_cons_succ, true_and, and_true, HO.lst.injEq, HO.tup.injEq, exists_and_left, exists_eq, exists_eq', Br.t, Br.f, Be.t, Be.f, List.cons.injEq, List.append_nil, scal, if_true, if_false, ite_true, ite_false, eq_self_iff_true, decide_true, decide_false, Bool.not_true, Bool.not_false, reduceIte, List.nil_append, List.cons_append, reduceCtorEq, false_and, exists_false, false_or, or_false, Int.reduceLT, ral, rmd, rsq, rlu, rdp, Bool.true_or, Bool.false_or, Bool.or_false, Bool.or_true, hp]
      refine Br.d (fun c => absurd c (by decide +kernel)) fun _ => ?_
      simp only [and_assoc, rst, rs, re, ra, rq, rx, ro, rl, rl2, rsp, rz, rix, rln, rg, rd, ri, rv, rk, rdd, rwi, at0, at1, at2, at3, upd_at, List.getElem?_cons_zero, List.getElem?_cons_succ, Option.some.injEq, exists_eq_left', exists_eq_left, List.set_cons_zero, List.set_cons_succ, true_and, and_true, HO.lst.injEq, HO.tup.injEq, exists_and_left, exists_eq, exists_eq', Br.t, Br.f, Be.t, Be.f, List.cons.injEq, List.append_nil, scal, if_true, if_false, ite_true, ite_false, eq_self_iff_true, decide_true, decide_false, Bool.not_true, Bool.not_false, reduceIte, List.nil_append, List.cons_append, reduceCtorEq, false_and, exists_false, false_or, or_false, Int.reduceLT, ral, rmd, rsq, rlu, rdp, Bool.true_or, Bool.false_or, Bool.or_false, Bool.or_true, hp]
      refine Br.d (fun c => absurd c (by decide +kernel)) fun _ => ?_
      simp only [and_assoc, rst, rs, re, ra, rq, rx, ro, rl, rl2, rsp, rz, rix, rln, rg, rd, ri, rv, rk, rdd, rwi, at0, at1, at2, at3, upd_at, List.getElem?_cons_zero, List.getElem?_cons_succ, Option.some.injEq, exists_eq_left', exists_eq_left, List.set_cons_zero, List.set_cons_succ, true_and, and_true, HO.lst.injEq, HO.tup.injEq, exists_and_left, exists_eq, exists_eq', Br.t, Br.f, Be.t, Be.f, List.cons.injEq, List.append_nil, scal, if_true, if_false, ite_true, ite_false, eq_self_iff_true, decide_true, decide_false, Bool.not_true, Bool.not_false, reduceIte, List.nil_append, List.cons_append, reduceCtorEq, false_and, exists_false, false_or, or_false, Int.reduceLT, ral, rmd, rsq, rlu, rdp, Bool.true_or, Bool.false_or, Bool.or_false, Bool.or_true, hp]
      refine Br.d (fun c => absurd c (by decide +kernel)) fun _ => ?_
      simp only [and_assoc, rst, rs, re, ra, rq, rx, ro, rl, rl2, rsp, rz, rix, rln, rg, rd, ri, rv, rk, rdd, rwi, at0, at1, at2, at3, upd_at, List.getElem?_cons_zero, List.getElem?_cons_succ, Option.some.injEq, exists_eq_left', exists_eq_left, List.set_cons_zero, List.set_cons_succ, true_and, and_true, HO.lst.injEq, HO.tup.injEq, exists_and_left, exists_eq, exists_eq', Br.t, Br.f, Be.t, Be.f, List.cons.injEq, List.append_nil, scal, if_true, if_false, ite_true, ite_false, eq_self_iff_true, decide_true, decide_false, Bool.not_true, Bool.not_false, reduceIte, List.nil_append, List.cons_append, reduceCtorEq, false_and, exists_false, false_or, or_false, Int.reduceLT, ral, rmd, rsq, rlu, rdp, Bool.true_or, Bool.false_or, Bool.or_false, Bool.or_true, hp]
      refine Br.d (fun c => absurd c (by decide +kernel)) fun _ => ?_
      simp only [and_assoc, rst, rs, re, ra, rq, rx, ro, rl, rl2, rsp, rz, rix, rln, rg, rd, ri, rv, rk, rdd, rwi, at0, at1, at2, at3, upd_at, List.getElem?_cons_zero, List.getElem?_cons_succ, Option.some.injEq, exists_eq_left', exists_eq_left, List.set_cons_zero, List.set_cons_succ, true_and, and_true, HO.lst.injEq, HO.tup.injEq, exists_and_left, exists_eq, exists_eq', Br.t, Br.f, Be.t, Be.f, List.cons.injEq, List.append_nil, scal, if_true, if_false, ite_true, ite_false, eq_self_iff_true, decide_true, decide_false, Bool.not_true, Bool.not_false, reduceIte, List.nil_append, List.cons_append, reduceCtorEq, false_and, exists_false, false_or, or_false, Int.reduceLT, ral, rmd, rsq, rlu, rdp, Bool.true_or, Bool.false_or, Bool.or_false, Bool.or_true, hp]
      refine Br.d (fun c => absurd c (by decide +kernel)) fun _ => ?_
      simp only [and_assoc, rst, rs, re, ra, rq, rx, ro, rl, rl2, rsp, rz, rix, rln, rg, rd, ri, rv, rk, rdd, rwi, at0, at1, at2, at3, upd_at, List.getElem?_cons_zero, List.getElem?_cons_succ, Option.some.injEq, exists_eq_left', exists_eq_left, List.set_cons_zero, List.set_cons_succ, true_and, and_true, HO.lst.injEq, HO.tup.injEq, exists_and_left, exists_eq, exists_eq', Br.t, Br.f, Be.t, Be.f, List.cons.injEq, List.append_nil, scal, if_true, if_false, ite_true, ite_false, eq_self_iff_true, decide_true, decide_false, Bool.not_true, Bool.not_false, reduceIte, List.nil_append, List.cons_append, reduceCtorEq, false_and, exists_false, false_or, or_false, Int.reduceLT, ral, rmd, rsq, rlu, rdp, Bool.true_or, Bool.false_or, Bool.or_false, Bool.or_true, hp]
      have h32 : 1 + s.ht ≤ 3 := h3
      obtain ⟨k1, k2, k3⟩ := hok
      obtain ⟨s0, s1⟩ := tot_ok k1
      refine ⟨_, rfl, s, by omega, ok_okS k1, hx, fun f hf => ?_⟩
      have np := ne_of_none hp hf
      simp only [and_assoc, rst, rs, re, ra, rq, rx, ro, rl, rl2, rsp, rz, rix, rln, rg, rd, ri, rv, rk, rdd, rwi, at0, at1, at2, at3, upd_at, List.getElem?_cons_zero, List.getElem?_cons_succ, Option.some.injEq, exists_eq_left', exists_eq_left, List.set_cons_zero, List.set_cons_succ, true_and, and_true, HO.lst.injEq, HO.tup.injEq, exists_and_left, exists_eq, exists_eq', Br.t, Br.f, Be.t, Be.f, List.cons.injEq, List.append_nil, scal, if_true, if_false, ite_true, ite_false, eq_self_iff_true, decide_true, decide_false, Bool.not_true, Bool.not_false, reduceIte, List.nil_append, List.cons_append, reduceCtorEq, false_and, exists_false, false_or, or_false, Int.reduceLT, ral, rmd, rsq, rlu, rdp, Bool.true_or, Bool.false_or, Bool.or_false, Bool.or_true, eq_false np, hp]
      refine ⟨by omega, by omega, ?_⟩
      rw [Int.toNat_natCast]
      refine FI.rng (fun i σ H' => ∃ v4 xs, Same H H' ∧ H' f = some (.lst xs) ∧ All2 (Rp H' s) (digL s.tot i z) xs ∧ σ = [some (.ref p), some (.int (z / s.tot ^ i)), some (.int s.tot), some (.ref f), v4]) ⟨none, [], Same.new hf, upd_same, True.intro, by rw [Int.pow_zero, Int.ediv_one]⟩ ?_ ?_
      · rintro i σ H' hi ⟨v4, xs, S, h1, al, rfl⟩
        simp only [and_assoc, rst, rs, re, ra, rq, rx, ro, rl, rl2, rsp, rz, rix, rln, rg, rd, ri, rv, rk, rdd, rwi, at0, at1, at2, at3, upd_at, List.getElem?_cons_zero, List.getElem?_cons_succ, Option.some.injEq, exists_eq_left', exists_eq_left, List.set_cons_zero, List.set_cons_succ, true_and, and_true, HO.lst.injEq, HO.tup.injEq, exists_and_left, exists_eq, exists_eq', Br.t, Br.f, Be.t, Be.f, List.cons.injEq, List.append_nil, scal, if_true, if_false, ite_true, ite_false, eq_self_iff_true, decide_true, decide_false, Bool.not_true, Bool.not_false, reduceIte, List.nil_append, List.cons_append, reduceCtorEq, false_and, exists_false, false_or, or_false, Int.reduceLT, ral, rmd, rsq, rlu, rdp, Bool.true_or, Bool.false_or, Bool.or_false, Bool.or_true, S _ _ hp]
        refine ⟨_, h1, by omega, _, _, rfl, s, _, by omega, by omega, k1, Td.same S hx, rfl, Int.emod_nonneg _ (by omega), Int.emod_lt_of_pos _ (by omega), fun v H2 S2 r2 => ?_⟩
        have h2 := S2 _ _ h1
        have ll := al.len
        rw [show (digL s.tot i z).length = i by unfold digL; rw [List.length_map, List.length_range]] at ll
        refine ⟨_, h2, by rw [sizeLine_eq]; omega, wide_div (by omega) (b := 65) (by omega) (by decide) (by decide), Same.mut (Same.trans S S2) hf, ?_, ?_⟩
        · rw [digL_succ]
          exact All2.snoc (Rp.ts (ts_upd h2) r2) (All2.imp (fun _ _ r => Rp.ts (ts_upd h2) (Rp.same S2 r)) al)
        · rw [Int.ediv_ediv_of_nonneg (Int.pow_nonneg (by omega)), Int.pow_succ]
      · rintro σ H' ⟨v4, xs, S, h1, al, rfl⟩
        simp only [and_assoc, rst, rs, re, ra, rq, rx, ro, rl, rl2, rsp, rz, rix, rln, rg, rd, ri, rv, rk, rdd, rwi, at0, at1, at2, at3, upd_at, List.getElem?_cons_zero, List.getElem?_cons_succ, Option.some.injEq, exists_eq_left', exists_eq_left, List.set_cons_zero, List.set_cons_succ, true_and, and_true, HO.lst.injEq, HO.tup.injEq, exists_and_left, exists_eq, exists_eq', Br.t, Br.f, Be.t, Be.f, List.cons.injEq, List.append_nil, scal, if_true, if_false, ite_true, ite_false, eq_self_iff_true, decide_true, decide_false, Bool.not_true, Bool.not_false, reduceIte, List.nil_append, List.cons_append, reduceCtorEq, false_and, exists_false, false_or, or_false, Int.reduceLT, ral, rmd, rsq, rlu, rdp, Bool.true_or, Bool.false_or, Bool.or_false, Bool.or_true, h1]
        refine ⟨xs, SqL.of h1, fun p2 hp2 l hl => ?_⟩
        obtain ⟨nl, fl⟩ := ite_none hl
        refine q _ _ (Same.trans S (Same.trans (Same.new hp2) (Same.new (H := upd H' p2 (.lst xs.reverse)) hl))) ⟨l, xs.reverse, rfl, upd_same, ?_⟩
        have al2 := al.rev
        rw [dig_rev (by omega)] at al2
        exact All2.imp (fun _ _ r => Rp.same (Same.trans (Same.new hp2) (Same.new (H := upd H' p2 (.lst xs.reverse)) hl)) r) al2
end
end Law

-- RDX ral, rmd, rsq, rlu, rdp, Bool.true_or, Bool.false_or, Bool.or_false, Bool.or_true
namespace Law
open PySem PySem.Spec PyProof.Rows L2 Sw
section
variable {P : Program} {w : World} {K : Fg} {mg : Str → Option Value} {base : Heap}
theorem rz__law_weight {H : Hp} {x : V} {Q : VK} (h : ∃ sh : Sh, sh.ht < 0 ∧ okS sh ∧ Td H sh x ∧ Q (.int (wgt sh)) H) : False := by
  obtain ⟨sh, h, _⟩ := h
  omega
theorem okn__law_weight (T : Tx K mg w)  : ∀ n, Cal P w K mg base (1 + n) "_law_weight" ["told"] (spn__law_weight K n) := by
  intro n
  induction n with
  | zero =>
    refine cal_mk T.F__law_weight T.g__law_weight sc__law_weight (len1 _) (fun _ _ _ _ _ _ us hl => match us, hl with | [_], _ => rfl) (fun cdv A outer s H vs Q E hr h => ?_)
    obtain ⟨v0, rfl, h⟩ := h
    exact (rz__law_weight h).elim
  | succ n c__law_weight =>
    refine cal_mk T.F__law_weight T.g__law_weight sc__law_weight (len1 _) (fun _ _ _ _ _ _ us hl => match us, hl with | [_], _ => rfl) (fun cdv A outer s H vs Q E hr h => ?_)
    obtain ⟨v0, rfl, h⟩ := h
    have hu := hu_of hr.r
    refine ⟨_, (pss_cons (ps_if (pt_cmpR op_eq (pe_ix ix_q (pv 0) pe_int (fun _ _ => rfl)) pe_str (nomark _)) (pss_one (ps_ret (pe_op op_add pe_int (pe_op op_fdivW (pe_op op_mulA (pe_ix ix_q (pv 0) pe_int (fun _ _ => rfl)) (pe_ix ix_q (pv 0) pe_int (fun _ _ => rfl))) pe_int)))) pss_nil)
      (pss_cons (ps_if (pt_cmpR op_eq (pe_ix ix_q (pv 0) pe_int (fun _ _ => rfl)) pe_str (nomark _)) (pss_one (ps_ret (pe_op op_add pe_int (pe_op op_fdivW (pe_ix ix_q (pv 0) pe_int (fun _ _ => rfl)) pe_int)))) pss_nil)
      (pss_cons (ps_if (pt_cmpR op_eq (pe_ix ix_q (pv 0) pe_int (fun _ _ => rfl)) pe_str (nomark _)) (pss_one (ps_ret (pe_op op_add (pe_cal c__law_weight hr (Nat.le_refl _) passL rfl (pa_cons (pe_ix ix_q (pv 0) pe_int (fun _ _ => rfl)) pa_nil)) (pe_cal c__law_weight hr (Nat.le_refl _) passL rfl (pa_cons (pe_ix ix_q (pv 0) pe_int (fun _ _ => rfl)) pa_nil))))) pss_nil)
      (pss_cons (ps_if (pt_cmpR op_eq (pe_ix ix_q (pv 0) pe_int (fun _ _ => rfl)) pe_str (nomark _)) (pss_one (ps_ret (pe_op op_add pe_int (pe_op op_mulA (pe_cal c__law_weight hr (Nat.le_refl _) passL rfl (pa_cons (pe_ix ix_q (pv 0) pe_int (fun _ _ => rfl)) pa_nil)) (pe_ix ix_q (pv 0) pe_int (fun _ _ => rfl)))))) pss_nil)
      (pss_one (ps_ret pe_int)))))), ?_⟩
    obtain ⟨sh, hh, hok, ht, q⟩ := h
    cases sh with
    | bound b =>
      obtain ⟨p, rfl, hp⟩ := ht
      simp only [and_assoc, rst, rs, re, ra, rq, rx, ro, rl, rl2, rsp, rz, rix, rln, rg, rd, ri, rv, rk, rdd, rwi, at0, at1, at2, at3, upd_at, List.getElem?_cons_zero, List.getElem?_cons_succ, Option.some.injEq, exists_eq_left', exists_eq_left, List.set_cons_zero, List.set_cons_succ, true_and, and_true, HO.lst.injEq, HO.tup.injEq, exists_and_left, exists_eq, exists_eq', Br.t, Br.f, Be.t, Be.f, List.cons.injEq, List.append_nil, scal, if_true, if_false, ite_true, ite_false, eq_self_iff_true, decide_true, decide_false, Bool.not_true, Bool.not_false, reduceIte, List.nil_append, List.cons_append, reduceCtorEq, false_and, exists_false, false_or, or_false, Int.reduceLT, ral, rmd, rsq, rlu, rdp, Bool.true_or, Bool.false_or, Bool.or_false, Bool.or_true, hp]
      refine Br.d (fun c => absurd c (by decide +kernel)) fun _ => ?_
      simp only [and_assoc, rst, rs, re, ra, rq, rx, ro, rl, rl2, rsp, rz, rix, rln, rg, rd, ri, rv, rk, rdd, rwi, at0, at1, at2, at3, upd_at, List.getElem?_cons_zero, List.getElem?_cons_succ, Option.some.injEq, exists_eq_left', exists_eq_left, List.set_cons_zero, List.set_cons_succ, true_and, and_true, HO.lst.injEq, HO.tup.injEq, exists_and_left, exists_eq, exists_eq', Br.t, Br.f, Be.t, Be.f, List.cons.injEq, List.append_nil, scal, if_true, if_false, ite_true, ite_false, eq_self_iff_true, decide_true, decide_false, Bool.not_true, Bool.not_false, reduceIte, List.nil_append, List.cons_append, reduceCtorEq, false_and, exists_false, false_or, or_false, Int.reduceLT, ral, rmd, rsq, rlu, rdp, Bool.true_or, Bool.false_or, Bool.or_false, Bool.or_true, hp]
      refine Br.d (fun c => absurd c (by decide +kernel)) fun _ => ?_
      simp only [and_assoc, rst, rs, re, ra, rq, rx, ro, rl, rl2, rsp, rz, rix, rln, rg, rd, ri, rv, rk, rdd, rwi, at0, at1, at2, at3, upd_at, List.getElem?_cons_zero, List.getElem?_cons_succ, Option.some.injEq, exists_eq_left', exists_eq_left, List.set_cons_zero, List.set_cons_succ, true_and, and_true, HO.lst.injEq, HO.tup.injEq, exists_and_left, exists_eq, exists_eq', Br.t, Br.f, Be.t, Be.f, List.cons.injEq, List.append_nil, scal, if_true, if_false, ite_true, ite_false, eq_self_iff_true, decide_true, decide_false, Bool.not_true, Bool.not_false, reduceIte, List.nil_append, List.cons_append, reduceCtorEq, false_and, exists_false, false_or, or_false, Int.reduceLT, ral, rmd, rsq, rlu, rdp, Bool.true_or, Bool.false_or, Bool.or_false, Bool.or_true, hp]
      refine Br.d (fun c => absurd c (by decide +kernel)) fun _ => ?_
      simp only [and_assoc, rst, rs, re, ra, rq, rx, ro, rl, rl2, rsp, rz, rix, rln, rg, rd, ri, rv, rk, rdd, rwi, at0, at1, at2, at3, upd_at, List.getElem?_cons_zero, List.getElem?_cons_succ, Option.some.injEq, exists_eq_left', exists_eq_left, List.set_cons_zero, List.set_cons_succ, true_and, and_true, HO.lst.injEq, HO.tup.injEq, exists_and_left, exists_eq, exists_eq', Br.t, Br.f, Be.t, Be.f, List.cons.injEq, List.append_nil, scal, if_true, if_false, ite_true, ite_false, eq_self_iff_true, decide_true, decide_false, Bool.not_true, Bool.not_false, reduceIte, List.nil_append, List.cons_append, reduceCtorEq, false_and, exists_false, false_or, or_false, Int.reduceLT, ral, rmd, rsq, rlu, rdp, Bool.true_or, Bool.false_or, Bool.or_false, Bool.or_true, hp]
      refine Br.d (fun c => absurd c (by decide +kernel)) fun _ => ?_
      simp only [and_assoc, rst, rs, re, ra, rq, rx, ro, rl, rl2, rsp, rz, rix, rln, rg, rd, ri, rv, rk, rdd, rwi, at0, at1, at2, at3, upd_at, List.getElem?_cons_zero, List.getElem?_cons_succ, Option.some.injEq, exists_eq_left', exists_eq_left, List.set_cons_zero, List.set_cons_succ, true_and, and_true, HO.lst.injEq, HO.tup.injEq, exists_and_left, exists_eq, exists_eq', Br.t, Br.f, Be.t, Be.f, List.cons.injEq, List.append_nil, scal, if_true, if_false, ite_true, ite_false, eq_self_iff_true, decide_true, decide_false, Bool.not_true, Bool.not_false, reduceIte, List.nil_append, List.cons_append, reduceCtorEq, false_and, exists_false, false_or, or_false, Int.reduceLT, ral, rmd, rsq, rlu, rdp, Bool.true_or, Bool.false_or, Bool.or_false, Bool.or_true, hp]
      exact q
    | shares ps =>
      obtain ⟨p, p2, rfl, hp, hp2⟩ := ht
      simp only [and_assoc, rst, rs, re, ra, rq, rx, ro, rl, rl2, rsp, rz, rix, rln, rg, rd, ri, rv, rk, rdd, rwi, at0, at1, at2, at3, upd_at, List.getElem?_cons_zero, List.getElem?_cons_succ, Option.some.injEq, exists_eq_left', exists_eq_left, List.set_cons_zero, List.set_cons_succ, true_and, and_true, HO.lst.injEq, HO.tup.injEq, exists_and_left, exists_eq, exists_eq', Br.t, Br.f, Be.t, Be.f, List.cons.injEq, List.append_nil, scal, if_true, if_false, ite_true, ite_false, eq_self_iff_true, decide_true, decide_false, Bool.not_true, Bool.not_false, reduceIte, List.nil_append, List.cons_append, reduceCtorEq, false_and, exists_false, false_or, or_false, Int.reduceLT, ral, rmd, rsq, rlu, rdp, Bool.true_or, Bool.false_or, Bool.or_false, Bool.or_true, hp]
      refine Br.d (fun c => absurd c (by decide +kernel)) fun _ => ?_
      simp only [and_assoc, rst, rs, re, ra, rq, rx, ro, rl, rl2, rsp, rz, rix, rln, rg, rd, ri, rv, rk, rdd, rwi, at0, at1, at2, at3, upd_at, List.getElem?_cons_zero, List.getElem?_cons_succ, Option.some.injEq, exists_eq_left', exists_eq_left, List.set_cons_zero, List.set_cons_succ, true_and, and_true, HO.lst.injEq, HO.tup.injEq, exists_and_left, exists_eq, exists_eq', Br.t, Br.f, Be.t, Be.f, List.cons.injEq, List.append_nil, scal, if_true, if_false, ite_true, ite_false, eq_self_iff_true, decide_true, decide_false, Bool.not_true, Bool.not_false, reduceIte, List.nil_append, List.cons_append, reduceCtorEq, false_and, exists_false, false_or, or_false, Int.reduceLT, ral, rmd, rsq, rlu, rdp, Bool.true_or, Bool.false_or, Bool.or_false, Bool.or_true, hp]
      refine Br.d (fun c => absurd c (by decide +kernel)) fun _ => ?_
      simp only [and_assoc, rst, rs, re, ra, rq, rx, ro, rl, rl2, rsp, rz, rix, rln, rg, rd, ri, rv, rk, rdd, rwi, at0, at1, at2, at3, upd_at, List.getElem?_cons_zero, List.getElem?_cons_succ, Option.some.injEq, exists_eq_left', exists_eq_left, List.set_cons_zero, List.set_cons_succ, true_and, and_true, HO.lst.injEq, HO.tup.injEq, exists_and_left, exists_eq, exists_eq', Br.t, Br.f, Be.t, Be.f, List.cons.injEq, List.append_nil, scal, if_true, if_false, ite_true, ite_false, eq_self_iff_true, decide_true, decide_false, Bool.not_true, Bool.not_false, reduceIte, List.nil_append, List.cons_append, reduceCtorEq, false_and, exists_false, false_or, or_false, Int.reduceLT, ral, rmd, rsq, rlu, rdp, Bool.true_or, Bool.false_or, Bool.or_false, Bool.or_true, hp]
      refine Br.d (fun c => absurd c (by decide +kernel)) fun _ => ?_
      simp only [and_assoc, rst, rs, re, ra, rq, rx, ro, rl, rl2, rsp, rz, rix, rln, rg, rd, ri, rv, rk, rdd, rwi, at0, at1, at2, at3, upd_at, List.getElem?_cons_zero, List.getElem?_cons_succ, Option.some.injEq, exists_eq_left', exists_eq_left, List.set_cons_zero, List.set_cons_succ, true_and, and_true, HO.lst.injEq, HO.tup.injEq, exists_and_left, exists_eq, exists_eq', Br.t, Br.f, Be.t, Be.f, List.cons.injEq, List.append_nil, scal, if_true, if_false, ite_true, ite_false, eq_self_iff_true, decide_true, decide_false, Bool.not_true, Bool.not_false, reduceIte, List.nil_append, List.cons_append, reduceCtorEq, false_and, exists_false, false_or, or_false, Int.reduceLT, ral, rmd, rsq, rlu, rdp, Bool.true_or, Bool.false_or, Bool.or_false, Bool.or_true, hp]
      refine Br.d (fun c => absurd c (by decide +kernel)) fun _ => ?_
      simp only [and_assoc, rst, rs, re, ra, rq, rx, ro, rl, rl2, rsp, rz, rix, rln, rg, rd, ri, rv, rk, rdd, rwi, at0, at1, at2, at3, upd_at, List.getElem?_cons_zero, List.getElem?_cons_succ, Option.some.injEq, exists_eq_left', exists_eq_left, List.set_cons_zero, List.set_cons_succ, true_and, and_true, HO.lst.injEq, HO.tup.injEq, exists_and_left, exists_eq, exists_eq', Br.t, Br.f, Be.t, Be.f, List.cons.injEq, List.append_nil, scal, if_true, if_false, ite_true, ite_false, eq_self_iff_true, decide_true, decide_false, Bool.not_true, Bool.not_false, reduceIte, List.nil_append, List.cons_append, reduceCtorEq, false_and, exists_false, false_or, or_false, Int.reduceLT, ral, rmd, rsq, rlu, rdp, Bool.true_or, Bool.false_or, Bool.or_false, Bool.or_true, hp]
      exact q
    | orders k =>
      obtain ⟨p, rfl, hp⟩ := ht
      simp only [and_assoc, rst, rs, re, ra, rq, rx, ro, rl, rl2, rsp, rz, rix, rln, rg, rd, ri, rv, rk, rdd, rwi, at0, at1, at2, at3, upd_at, List.getElem?_cons_zero, List.getElem?_cons_succ, Option.some.injEq, exists_eq_left', exists_eq_left, List.set_cons_zero, List.set_cons_succ, true_and, and_true, HO.lst.injEq, HO.tup.injEq, exists_and_left, exists_eq, exists_eq', Br.t, Br.f, Be.t, Be.f, List.cons.injEq, List.append_nil, scal, if_true, if_false, ite_true, ite_false, eq_self_iff_true, decide_true, decide_false, Bool.not_true, Bool.not_false, reduceIte, List.nil_append, List.cons_append, reduceCtorEq, false_and, exists_false, false_or, or_false, Int.reduceLT, ral, rmd, rsq, rlu, rdp, Bool.true_or, Bool.false_or, Bool.or_false, Bool.or_true, hp]
      refine Br.d (fun c => absurd c (by decide +kernel)) fun _ => ?_
      simp only [and_assoc, rst, rs, re, ra, rq, rx, ro, rl, rl2, rsp, rz, rix, rln, rg, rd, ri, rv, rk, rdd, rwi, at0, at1, at2, at3, upd_at, List.getElem?_cons_zero, List.getElem?_cons_succ, Option.some.injEq, exists_eq_left', exists_eq_left, List.set_cons_zero, List.set_cons_succ, true_and, and_true, HO.lst.injEq, HO.tup.injEq, exists_and_left, exists_eq, exists_eq', Br.t, Br.f, Be.t, Be.f, List.cons.injEq, List.append_nil, scal, if_true, if_false, ite_true, ite_false, eq_self_iff_true, decide_true, decide_false, Bool.not_true, Bool.not_false, reduceIte, List.nil_append, List.cons_append, reduceCtorEq, false_and, exists_false, false_or, or_false, Int.reduceLT, ral, rmd, rsq, rlu, rdp, Bool.true_or, Bool.false_or, Bool.or_false, Bool.or_true, hp]
      exact ⟨wide_div (by omega) (b := 65) (by omega) (by decide) (by decide), q⟩
    | sets m k =>
      obtain ⟨p, rfl, hp⟩ := ht
      simp only [and_assoc, rst, rs, re, ra, rq, rx, ro, rl, rl2, rsp, rz, rix, rln, rg, rd, ri, rv, rk, rdd, rwi, at0, at1, at2, at3, upd_at, List.getElem?_cons_zero, List.getElem?_cons_succ, Option.some.injEq, exists_eq_left', exists_eq_left, List.set_cons_zero, List.set_cons_succ, true_and, and_true, HO.lst.injEq, HO.tup.injEq, exists_and_left, exists_eq, exists_eq', Br.t, Br.f, Be.t, Be.f, List.cons.injEq, List.append_nil, scal, if_true, if_false, ite_true, ite_false, eq_self_iff_true, decide_true, decide_false, Bool.not_true, Bool.not_false, reduceIte, List.nil_append, List.cons_append, reduceCtorEq, false_and, exists_false, false_or, or_false, Int.reduceLT, ral, rmd, rsq, rlu, rdp, Bool.true_or, Bool.false_or, Bool.or_false, Bool.or_true, hp]
      have o1 := hok.1
      have o2 := hok.2
      exact ⟨small_mul (by omega) (by omega), wide_div (by omega) (b := 65) (by omega) (by decide) (by decide), q⟩
    | pair s t =>
      obtain ⟨p, x, y, rfl, hp, hx, hy⟩ := ht
      have hh2 : 1 + max s.ht t.ht < n + 1 := hh
      simp only [and_assoc, rst, rs, re, ra, rq, rx, ro, rl, rl2, rsp, rz, rix, rln, rg, rd, ri, rv, rk, rdd, rwi, at0, at1, at2, at3, upd_at, List.getElem?_cons_zero, List.getElem?_cons_succ, Option.some.injEq, exists_eq_left', exists_eq_left, List.set_cons_zero, List.set_cons_succ, true_and, and_true, HO.lst.injEq, HO.tup.injEq, exists_and_left, exists_eq, exists_eq', Br.t, Br.f, Be.t, Be.f, List.cons.injEq, List.append_nil, scal, if_true, if_false, ite_true, ite_false, eq_self_iff_true, decide_true, decide_false, Bool.not_true, Bool.not_false, reduceIte, List.nil_append, List.cons_append, reduceCtorEq, false_and, exists_false, false_or, or_false, Int.reduceLT, ral, rmd, rsq, rlu, rdp, Bool.true_or, Bool.false_or, Bool.or_false, Bool.or_true, hp]
      refine Br.d (fun c => absurd c (by decide +kernel)) fun _ => ?_
      simp only [and_assoc, rst, rs, re, ra, rq, rx, ro, rl, rl2, rsp, rz, rix, rln, rg, rd, ri, rv, rk, rdd, rwi, at0, at1, at2, at3, upd_at, List.getElem?_cons_zero, List.getElem?_cons_succ, Option.some.injEq, exists_eq_left', exists_eq_left, List.set_cons_zero, List.set_cons_succ, true_and, and_true, HO.lst.injEq, HO.tup.injEq, exists_and_left, exists_eq, exists_eq', Br.t, Br.f, Be.t, Be.f, List.cons.injEq, List.append_nil, scal, if_true, if_false, ite_true, ite_false, eq_self_iff_true, decide_true, decide_false, Bool.not_true, Bool.not_false, reduceIte, List.nil_append, List.cons_append, reduceCtorEq, false_and, exists_false, false_or, or_false, Int.reduceLT, ral, rmd, rsq, rlu, rdp, Bool.true_or, Bool.false_or, Bool.or_false, Bool.or_true, hp]
      refine Br.d (fun c => absurd c (by decide +kernel)) fun _ => ?_
      simp only [and_assoc, rst, rs, re, ra, rq, rx, ro, rl, rl2, rsp, rz, rix, rln, rg, rd, ri, rv, rk, rdd, rwi, at0, at1, at2, at3, upd_at, List.getElem?_cons_zero, List.getElem?_cons_succ, Option.some.injEq, exists_eq_left', exists_eq_left, List.set_cons_zero, List.set_cons_succ, true_and, and_true, HO.lst.injEq, HO.tup.injEq, exists_and_left, exists_eq, exists_eq', Br.t, Br.f, Be.t, Be.f, List.cons.injEq, List.append_nil, scal, if_true, if_false, ite_true, ite_false, eq_self_iff_true, decide_true, decide_false, Bool.not_true, Bool.not_false, reduceIte, List.nil_append, List.cons_append, reduceCtorEq, false_and, exists_false, false_or, or_false, Int.reduceLT, ral, rmd, rsq, rlu, rdp, Bool.true_or, Bool.false_or, Bool.or_false, Bool.or_true, hp]
      refine ⟨_, rfl, s, by omega, ok_okS hok.1, hx, ?_⟩
      simp only [and_assoc, rst, rs, re, ra, rq, rx, ro, rl, rl2, rsp, rz, rix, rln, rg, rd, ri, rv, rk, rdd, rwi, at0, at1, at2, at3, upd_at, List.getElem?_cons_zero, List.getElem?_cons_succ, Option.some.injEq, exists_eq_left', exists_eq_left, List.set_cons_zero, List.set_cons_succ, true_and, and_true, HO.lst.injEq, HO.tup.injEq, exists_and_left, exists_eq, exists_eq', Br.t, Br.f, Be.t, Be.f, List.cons.injEq, List.append_nil, scal, if_true, if_false, ite_true, ite_false, eq_self_iff_true, decide_true, decide_false, Bool.not_true, Bool.not_false, reduceIte, List.nil_append, List.cons_append, reduceCtorEq, false_and, exists_false, false_or, or_false, Int.reduceLT, ral, rmd, rsq, rlu, rdp, Bool.true_or, Bool.false_or, Bool.or_false, Bool.or_true, hp]
      refine ⟨_, rfl, t, by omega, ok_okS hok.2, hy, ?_⟩
      exact ⟨_, rfl, q⟩
    | rows s m =>
      obtain ⟨p, x, rfl, hp, hx⟩ := ht
      have hh2 : 1 + s.ht < n + 1 := hh
      simp only [and_assoc, rst, rs, re, ra, rq, rx, ro, rl, rl2, rsp, rz, rix, rln, rg, rd, ri, rv, rk, rdd, rwi, at0, at1, at2, at3, upd_at, List.getElem?_cons_zero, List.getElem?_cons_succ, Option.some.injEq, exists_eq_left', exists_eq_left, List.set_cons_zero, List.set_cons_succ, true_and, and_true, HO.lst.injEq, HO.tup.injEq, exists_and_left, exists_eq, exists_eq', Br.t, Br.f, Be.t, Be.f, List.cons.injEq, List.append_nil, scal, if_true, if_false, ite_true, ite_false, eq_self_iff_true, decide_true, decide_false, Bool.not_true, Bool.not_false, reduceIte, List.nil_append, List.cons_append, reduceCtorEq, false_and, exists_false, false_or, or_false, Int.reduceLT, ral, rmd, rsq, rlu, rdp, Bool.true_or, Bool.false_or, Bool.or_false, Bool.or_true, hp]
      refine Br.d (fun c => absurd c (by decide +kernel)) fun _ => ?_
      simp only [and_assoc, rst, rs, re, ra, rq, rx, ro, rl, rl2, rsp, rz, rix, rln, rg, rd, ri, rv, rk, rdd, rwi, at0, at1, at2, at3, upd_at, List.getElem?_cons_zero, List.getElem?_cons_succ, Option.some.injEq, exists_eq_left', exists_eq_left, List.set_cons_zero, List.set_cons_succ, true_and, and_true, HO.lst.injEq, HO.tup.injEq, exists_and_left, exists_eq, exists_eq', Br.t, Br.f, Be.t, Be.f, List.cons.injEq, List.append_nil, scal, if_true, if_false, ite_true, ite_false, eq_self_iff_true, decide_true, decide_false, Bool.not_true, Bool.not_false, reduceIte, List.nil_append, List.cons_append, reduceCtorEq, false_and, exists_false, false_or, or_false, Int.reduceLT, ral, rmd, rsq, rlu, rdp, Bool.true_or, Bool.false_or, Bool.or_false, Bool.or_true, hp]
      refine Br.d (fun c => absurd c (by decide +kernel)) fun _ => ?_
      simp only [and_assoc, rst, rs, re, ra, rq, rx, ro, rl, rl2, rsp, rz, rix, rln, rg, rd, ri, rv, rk, rdd, rwi, at0, at1, at2, at3, upd_at, List.getElem?_cons_zero, List.getElem?_cons_succ, Option.some.injEq, exists_eq_left', exists_eq_left, List.set_cons_zero, List.set_cons_succ, true_and, and_true, HO.lst.injEq, HO.tup.injEq, exists_and_left, exists_eq, exists_eq', Br.t, Br.f, Be.t, Be.f, List.cons.injEq, List.append_nil, scal, if_true, if_false, ite_true, ite_false, eq_self_iff_true, decide_true, decide_false, Bool.not_true, Bool.not_false, reduceIte, List.nil_append, List.cons_append, reduceCtorEq, false_and, exists_false, false_or, or_false, Int.reduceLT, ral, rmd, rsq, rlu, rdp, Bool.true_or, Bool.false_or, Bool.or_false, Bool.or_true, hp]
      refine Br.d (fun c => absurd c (by decide +kernel)) fun _ => ?_
      simp only [and_assoc, rst, rs, re, ra, rq, rx, ro, rl, rl2, rsp, rz, rix, rln, rg, rd, ri, rv, rk, rdd, rwi, at0, at1, at2, at3, upd_at, List.getElem?_cons_zero, List.getElem?_cons_succ, Option.some.injEq, exists_eq_left', exists_eq_left, List.set_cons_zero, List.set_cons_succ, true_and, and_true, HO.lst.injEq, HO.tup.injEq, exists_and_left, exists_eq, exists_eq', Br.t, Br.f, Be.t, Be.f, List.cons.injEq, List.append_nil, scal, if_true, if_false, ite_true, ite_false, eq_self_iff_true, decide_true, decide_false, Bool.not_true, Bool.not_false, reduceIte, List.nil_append, List.cons_append, reduceCtorEq, false_and, exists_false, false_or, or_false, Int.reduceLT, ral, rmd, rsq, rlu, rdp, Bool.true_or, Bool.false_or, Bool.or_false, Bool.or_true, hp]
      have o2 := hok.2
      refine ⟨_, rfl, s, by omega, ok_okS hok.1, hx, ?_⟩
      simp only [and_assoc, rst, rs, re, ra, rq, rx, ro, rl, rl2, rsp, rz, rix, rln, rg, rd, ri, rv, rk, rdd, rwi, at0, at1, at2, at3, upd_at, List.getElem?_cons_zero, List.getElem?_cons_succ, Option.some.injEq, exists_eq_left', exists_eq_left, List.set_cons_zero, List.set_cons_succ, true_and, and_true, HO.lst.injEq, HO.tup.injEq, exists_and_left, exists_eq, exists_eq', Br.t, Br.f, Be.t, Be.f, List.cons.injEq, List.append_nil, scal, if_true, if_false, ite_true, ite_false, eq_self_iff_true, decide_true, decide_false, Bool.not_true, Bool.not_false, reduceIte, List.nil_append, List.cons_append, reduceCtorEq, false_and, exists_false, false_or, or_false, Int.reduceLT, ral, rmd, rsq, rlu, rdp, Bool.true_or, Bool.false_or, Bool.or_false, Bool.or_true, hp]
      exact ⟨small_mul (by omega) (by omega), q⟩
end
end Law

-- RDX ral, rmd, rsq, rlu, rdp, Bool.true_or, Bool.false_or, Bool.or_false, Bool.or_true
namespace Law
open PySem PySem.Spec PyProof.Rows L2 Sw
section
variable {P : Program} {w : World} {K : Fg} {mg : Str → Option Value} {base : Heap}
theorem min3 (a b c : Int) : ∃ m, nuMin3 (.int a) (.int b) (.int c) = some (.int m) ∧ m ≤ a ∧ m ≤ b ∧ m ≤ c ∧ (m = a ∨ m = b ∨ m = c) := by
  have e : nuMin3 (.int a) (.int b) (.int c) = some (if decide (c < (if decide (b < a) = true then b else a)) = true then .int c else (if decide (b < a) = true then .int b else .int a)) := by
    show ((nuMin2 (.int a) (.int b)).bind fun m => nuMin2 m (.int c)) = _
    rw [show nuMin2 (.int a) (.int b) = some (if decide (b < a) = true then .int b else .int a) from rfl]
    by_cases h : b < a
    · rw [if_pos (decide_eq_true h), if_pos (decide_eq_true h)]
      rfl
    · rw [if_neg (fun z => h (of_decide_eq_true z)), if_neg (fun z => h (of_decide_eq_true z))]
      rfl
  rw [e]
  by_cases h : b < a
  · rw [if_pos (decide_eq_true h), if_pos (decide_eq_true h)]
    by_cases k : c < b
    · rw [if_pos (decide_eq_true k)]
      exact ⟨c, rfl, by omega, by omega, by omega, .inr (.inr rfl)⟩
    · rw [if_neg (fun z => k (of_decide_eq_true z))]
      exact ⟨b, rfl, by omega, by omega, by omega, .inr (.inl rfl)⟩
  · rw [if_neg (fun z => h (of_decide_eq_true z)), if_neg (fun z => h (of_decide_eq_true z))]
    by_cases k : c < a
    · rw [if_pos (decide_eq_true k)]
      exact ⟨c, rfl, by omega, by omega, by omega, .inr (.inr rfl)⟩
    · rw [if_neg (fun z => k (of_decide_eq_true z))]
      exact ⟨a, rfl, by omega, by omega, by omega, .inl rfl⟩
theorem sum_zero : ∀ {ys : List Int}, (∀ y ∈ ys, 0 ≤ y) → ys.sum = 0 → ∀ y ∈ ys, y = 0
  | [], _, _, y, z => by cases z
  | x :: r, h, e, y, m => by
    have h1 : 0 ≤ r.sum := by
      have : ∀ {l : List Int}, (∀ y ∈ l, 0 ≤ y) → 0 ≤ l.sum := fun {l} => by
        induction l with
        | nil => intro _; simp
        | cons a t ih =>
          intro hh
          rw [List.sum_cons]
          have := hh a (by simp)
          have := ih fun y hy => hh y (List.mem_cons_of_mem _ hy)
          omega
      exact this fun y hy => h y (List.mem_cons_of_mem _ hy)
    rw [List.sum_cons] at e
    have h0 := h x (by simp)
    rcases List.mem_cons.mp m with rfl | m
    · omega
    · exact sum_zero (fun y hy => h y (List.mem_cons_of_mem _ hy)) (by omega) y m
theorem sum_nn : ∀ {l : List Int}, (∀ y ∈ l, 0 ≤ y) → 0 ≤ l.sum
  | [], _ => by simp
  | a :: t, hh => by
    rw [List.sum_cons]
    have := hh a (by simp)
    have := sum_nn fun y hy => hh y (List.mem_cons_of_mem _ hy)
    omega
theorem sum_set : ∀ {ys : List Int} {i : Nat}, (∀ y ∈ ys, y = 0) → i < ys.length → (ys.set i 1).sum = 1
  | x :: r, 0, h, _ => by
    rw [List.set_cons_zero, List.sum_cons]
    have : ∀ {l : List Int}, (∀ y ∈ l, y = 0) → l.sum = 0 := fun {l} => by
      induction l with
      | nil => intro _; rfl
      | cons a t ih =>
        intro hh
        rw [List.sum_cons, hh a (by simp), ih fun y hy => hh y (List.mem_cons_of_mem _ hy)]
        rfl
    rw [this fun y hy => h y (List.mem_cons_of_mem _ hy)]
    rfl
  | x :: r, i + 1, h, l => by
    rw [List.set_cons_succ, List.sum_cons, h x (by simp), sum_set (fun y hy => h y (List.mem_cons_of_mem _ hy)) (by simp at l; omega)]
    rfl
  | [], _, _, l => absurd l (by simp)
theorem ok__law_portions (T : Tx K mg w) (c__law_take : Cal P w K mg base 1 "_law_take" ["box", "many"] (sp__law_take K))  : Cal P w K mg base 2 "_law_portions" ["box", "most"] (sp__law_portions K) := by
  refine cal_mk T.F__law_portions T.g__law_portions sc__law_portions (len2 _) (fun _ _ _ _ _ _ us hl => match us, hl with | [_, _], _ => rfl) (fun cdv A outer s H vs Q E hr h => ?_)
  obtain ⟨v0, v1, rfl, h⟩ := h
  have hu := hu_of hr.r
  refine ⟨_, (pss_cons (ps_set (i := 2) sc__law_portions.nd rfl (Or.inl rfl) (pv 1))
      (pss_cons (ps_set (i := 3) sc__law_portions.nd rfl (Or.inl rfl) (pe_lst pa_nil))
      (pss_cons (ps_for (passes_of rfl) rfl (pi_range1 (by rfl) T.n_range (pa_cons (pe_ix ix_q (pe_lst (pa_cons (pe_op op_add pe_int (pe_cal c__law_take hr (by decide) passL rfl (pa_cons (pv 0) (pa_cons pe_int pa_nil)))) (pa_cons pe_int pa_nil))) (pe_callTy call_int1 (by rfl) T.n_int (by decide +kernel) (pa_cons (pe_cmpR op_eq (pe_cal c__law_take hr (by decide) passL rfl (pa_cons (pv 0) (pa_cons pe_int pa_nil))) pe_int (nomark _)) pa_nil)) (fun _ _ => rfl)) pa_nil)) (pg_name (i := 4) sc__law_portions.nd rfl (Or.inl rfl)) (pss_cons (ps_set (i := 5) sc__law_portions.nd rfl (Or.inl rfl) (pe_callB (call_min3Nu rfl) (by rfl) T.n_min (by decide +kernel) (pa_cons (pv 2) (pa_cons (pe_op op_pow pe_int pe_int) (pa_cons (pe_ix ix_q (pe_lst (pa_cons pe_int (pa_cons pe_int (pa_cons (pe_cal c__law_take hr (by decide) passL rfl (pa_cons (pv 0) (pa_cons pe_int pa_nil))) (pa_cons (pe_cal c__law_take hr (by decide) passL rfl (pa_cons (pv 0) (pa_cons (pe_op op_add (pe_op op_pow pe_int pe_int) pe_int) pa_nil))) pa_nil))))) (pe_cal c__law_take hr (by decide) passL rfl (pa_cons (pv 0) (pa_cons pe_int pa_nil))) (fun _ _ => rfl)) pa_nil)))))
      (pss_cons (ps_expr (pe_ml PySem.F.slot_list_append PySem.F.type_list_append mt_append (pv 3) (pa_cons (pv 5) pa_nil)))
      (pss_one (ps_set (i := 2) sc__law_portions.nd rfl (Or.inl rfl) (pe_op op_sub (pv 2) (pv 5)))))))
      (pss_cons (ps_if (pt_cmpR op_eq (pv 2) (pv 1) (nomark _)) (pss_one (ps_asg pe_int (pg_sub (pv 3) (pe_cal c__law_take hr (by decide) passL rfl (pa_cons (pv 0) (pa_cons (pe_callB len_q (by rfl) T.n_len (by decide +kernel) (pa_cons (pv 3) pa_nil)) pa_nil))) set_list))) pss_nil)
      (pss_one (ps_ret (pe_callTy tup_q (by rfl) T.n_tuple (by decide +kernel) (pa_cons (pv 3) pa_nil)))))))), ?_⟩
  obtain ⟨p, n, rfl, hw, rfl, n0, n1, q⟩ := h
  simp only [and_assoc, rst, rs, re, ra, rq, rx, ro, rl, rl2, rsp, rz, rix, rln, rg, rd, ri, rv, rk, rdd, rwi, at0, at1, at2, at3, upd_at, List.getElem?_cons_zero, List.getElem?_cons_succ, Option.some.injEq, exists_eq_left', exists_eq_left, List.set_cons_zero, List.set_cons_succ, true_and, and_true, HO.lst.injEq, HO.tup.injEq, exists_and_left, exists_eq, exists_eq', Br.t, Br.f, Be.t, Be.f, List.cons.injEq, List.append_nil, scal, if_true, if_false, ite_true, ite_false, eq_self_iff_true, decide_true, decide_false, Bool.not_true, Bool.not_false, reduceIte, List.nil_append, List.cons_append, reduceCtorEq, false_and, exists_false, false_or, or_false, Int.reduceLT, ral, rmd, rsq, rlu, rdp, Bool.true_or, Bool.false_or, Bool.or_false, Bool.or_true]
  intro f hf
  have nf : f ≠ p := by
    obtain ⟨_, _, _, e⟩ := id hw
    exact (ne_of_none e hf).symm
  have w0 := Wl.of_same hw (Same.new hf : Same H (upd H f (.lst [])))
  have hff : upd H f (.lst []) f = some (.lst []) := upd_same
  generalize upd H f (.lst []) = H1 at w0 hff ⊢
  refine ⟨_, _, rfl, p, 6, rfl, w0.1, rfl, by decide, by decide, fun r1 H2 a0 a1 b2 e2 => ?_⟩
  have w2 := Wl.trans w0 (Wl.draw b2 e2)
  have f2 : H2 f = some (.lst []) := (e2 f nf).trans hff
  refine ⟨_, rfl, fun d hd => ?_⟩
  have nd : d ≠ p := by
    obtain ⟨_, _, _, e⟩ := b2
    exact (ne_of_none e hd).symm
  have w3 := Wl.trans w2 (Wl.of_same b2 (Same.new hd : Same H2 (upd H2 d (.lst [.int (1 + r1), .int 60]))))
  refine ⟨_, _, rfl, p, 8, rfl, w3.1, rfl, by decide, by decide, fun r2 H4 c0 c1 b4 e4 => ?_⟩
  have w4 := Wl.trans w3 (Wl.draw b4 e4)
  have f4 : H4 f = some (.lst []) := by
    rw [e4 f nf]
    exact Same.new hd _ _ f2
  have hc : ∃ c : Nat, 1 ≤ c ∧ c ≤ 60 ∧ atI [V.int (1 + r1), V.int 60] (if decide (V.int r2 = V.int 0) = true then 1 else 0) = some (.int (c : Int)) := by
    by_cases e : V.int r2 = V.int 0
    · rw [if_pos (decide_eq_true e)]
      exact ⟨60, by decide, by decide, rfl⟩
    · rw [if_neg (fun z => e (of_decide_eq_true z))]
      refine ⟨(1 + r1).toNat, by omega, by omega, ?_⟩
      rw [Int.toNat_of_nonneg (by omega)]
      rfl
  obtain ⟨c, k1, k2, hat⟩ := hc
  refine ⟨rfl, _, (e4 d nd).trans upd_same, _, rfl, _, hat, _, rfl, by omega, by omega, ?_⟩
  rw [Int.toNat_natCast]
  clear w3 e4 hat e2 w2 f2 hff w0 hd nd
  refine FI.rng (fun i σ H' => ∃ v4 v5 ys left, Wl p H H' ∧ H' f = some (.lst (ys.map V.int)) ∧ ys.length = i ∧ (∀ y ∈ ys, 0 ≤ y ∧ y ≤ 1000000) ∧ ys.sum + left = n ∧ 0 ≤ left ∧ σ = [some (.ref p), some (.int n), some (.int left), some (.ref f), v4, v5]) ⟨none, none, [], n, w4, f4, rfl, (fun y z => by cases z), by simp, by omega, rfl⟩ ?_ ?_
  · rintro i σ H' hi ⟨v4, v5, ys, left, w5, f5, hl, hy, hs, l0, rfl⟩
    have pw : CPow 10 6 := ⟨by decide, by decide, by decide⟩
    simp only [and_assoc, rst, rs, re, ra, rq, rx, ro, rl, rl2, rsp, rz, rix, rln, rg, rd, ri, rv, rk, rdd, rwi, at0, at1, at2, at3, upd_at, List.getElem?_cons_zero, List.getElem?_cons_succ, Option.some.injEq, exists_eq_left', exists_eq_left, List.set_cons_zero, List.set_cons_succ, true_and, and_true, HO.lst.injEq, HO.tup.injEq, exists_and_left, exists_eq, exists_eq', Br.t, Br.f, Be.t, Be.f, List.cons.injEq, List.append_nil, scal, if_true, if_false, ite_true, ite_false, eq_self_iff_true, decide_true, decide_false, Bool.not_true, Bool.not_false, reduceIte, List.nil_append, List.cons_append, reduceCtorEq, false_and, exists_false, false_or, or_false, Int.reduceLT, ral, rmd, rsq, rlu, rdp, Bool.true_or, Bool.false_or, Bool.or_false, Bool.or_true]
    refine ⟨pw, _, _, rfl, p, 9, rfl, w5.1, rfl, by decide, by decide, fun r3 H6 a3 a4 b6 e6 => ⟨pw, _, _, rfl, p, 1000001, rfl, b6, rfl, by decide, by decide, fun r4 H7 a5 a6 b7 e7 => ?_⟩⟩
    have w7 := Wl.trans w5 (Wl.trans (Wl.draw b6 e6) (Wl.draw b7 e7))
    have f7 : H7 f = some (.lst (ys.map V.int)) := (e7 f nf).trans ((e6 f nf).trans f5)
    clear e6 e7 w5 f5
    intro g hg
    have ng : g ≠ p := by
      obtain ⟨_, _, _, e⟩ := b7
      exact (ne_of_none e hg).symm
    have w8 := Wl.trans w7 (Wl.of_same b7 (Same.new hg : Same H7 (upd H7 g (.lst [.int 0, .int 1, .int r3, .int r4]))))
    refine ⟨_, _, rfl, p, 4, rfl, w8.1, rfl, by decide, by decide, fun r5 H9 a7 a8 b9 e9 => ?_⟩
    have w9 := Wl.trans w8 (Wl.draw b9 e9)
    have f9 : H9 f = some (.lst (ys.map V.int)) := by
      rw [e9 f nf]
      exact Same.new hg _ _ f7
    have hx : ∃ x : Int, 0 ≤ x ∧ x ≤ 1000000 ∧ atI [V.int 0, V.int 1, V.int r3, V.int r4] r5 = some (.int x) := by
      have : r5 = 0 ∨ r5 = 1 ∨ r5 = 2 ∨ r5 = 3 := by omega
      rcases this with rfl | rfl | rfl | rfl
      · exact ⟨0, by decide, by decide, rfl⟩
      · exact ⟨1, by decide, by decide, rfl⟩
      · exact ⟨r3, by omega, by omega, rfl⟩
      · exact ⟨r4, by omega, by omega, rfl⟩
    obtain ⟨x, x0, x1, hx⟩ := hx
    obtain ⟨mm, hm, m1, m2, m3, m4⟩ := min3 left 1000000 x
    refine ⟨_, (e9 g ng).trans upd_same, _, rfl, _, rfl, _, hx, _, _, _, _, rfl, hm, ?_⟩
    simp only [and_assoc, rst, rs, re, ra, rq, rx, ro, rl, rl2, rsp, rz, rix, rln, rg, rd, ri, rv, rk, rdd, rwi, at0, at1, at2, at3, upd_at, List.getElem?_cons_zero, List.getElem?_cons_succ, Option.some.injEq, exists_eq_left', exists_eq_left, List.set_cons_zero, List.set_cons_succ, true_and, and_true, HO.lst.injEq, HO.tup.injEq, exists_and_left, exists_eq, exists_eq', Br.t, Br.f, Be.t, Be.f, List.cons.injEq, List.append_nil, scal, if_true, if_false, ite_true, ite_false, eq_self_iff_true, decide_true, decide_false, Bool.not_true, Bool.not_false, reduceIte, List.nil_append, List.cons_append, reduceCtorEq, false_and, exists_false, false_or, or_false, Int.reduceLT, ral, rmd, rsq, rlu, rdp, Bool.true_or, Bool.false_or, Bool.or_false, Bool.or_true, f9]
    refine ⟨by rw [sizeLine_eq, List.length_map]; omega, Wl.mut w9 nf hf, _, _, ys ++ [mm], by rw [List.map_append]; rfl, by rw [List.length_append, hl]; rfl, fun y hy' => ?_, left - mm, by rw [List.sum_append, List.sum_cons, List.sum_nil]; omega, by omega, rfl, rfl, rfl⟩
    rcases List.mem_append.mp hy' with h | h
    · exact hy y h
    · rw [List.mem_singleton.mp h]
      omega
  · rintro σ H' ⟨v4, v5, ys, left, w5, f5, hl, hy, hs, l0, rfl⟩
    simp only [and_assoc, rst, rs, re, ra, rq, rx, ro, rl, rl2, rsp, rz, rix, rln, rg, rd, ri, rv, rk, rdd, rwi, at0, at1, at2, at3, upd_at, List.getElem?_cons_zero, List.getElem?_cons_succ, Option.some.injEq, exists_eq_left', exists_eq_left, List.set_cons_zero, List.set_cons_succ, true_and, and_true, HO.lst.injEq, HO.tup.injEq, exists_and_left, exists_eq, exists_eq', Br.t, Br.f, Be.t, Be.f, List.cons.injEq, List.append_nil, scal, if_true, if_false, ite_true, ite_false, eq_self_iff_true, decide_true, decide_false, Bool.not_true, Bool.not_false, reduceIte, List.nil_append, List.cons_append, reduceCtorEq, false_and, exists_false, false_or, or_false, Int.reduceLT, ral, rmd, rsq, rlu, rdp, Bool.true_or, Bool.false_or, Bool.or_false, Bool.or_true]
    refine Br.d (fun c3 => ?_) fun c3 => ?_
    · simp only [and_assoc, rst, rs, re, ra, rq, rx, ro, rl, rl2, rsp, rz, rix, rln, rg, rd, ri, rv, rk, rdd, rwi, at0, at1, at2, at3, upd_at, List.getElem?_cons_zero, List.getElem?_cons_succ, Option.some.injEq, exists_eq_left', exists_eq_left, List.set_cons_zero, List.set_cons_succ, true_and, and_true, HO.lst.injEq, HO.tup.injEq, exists_and_left, exists_eq, exists_eq', Br.t, Br.f, Be.t, Be.f, List.cons.injEq, List.append_nil, scal, if_true, if_false, ite_true, ite_false, eq_self_iff_true, decide_true, decide_false, Bool.not_true, Bool.not_false, reduceIte, List.nil_append, List.cons_append, reduceCtorEq, false_and, exists_false, false_or, or_false, Int.reduceLT, ral, rmd, rsq, rlu, rdp, Bool.true_or, Bool.false_or, Bool.or_false, Bool.or_true, f5]
      have yz := sum_zero (fun y h => (hy y h).1) (by omega : ys.sum = 0)
      refine ⟨_, _, rfl, p, _, rfl, w5.1, rfl, by rw [List.length_map]; omega, by rw [List.length_map]; omega, fun r6 H6 a3 a4 b6 e6 => ?_⟩
      rw [List.length_map] at a4
      obtain ⟨a, rfl⟩ : ∃ a : Nat, r6 = (a : Int) := ⟨r6.toNat, by omega⟩
      refine ⟨_, _, rfl, (e6 f nf).trans f5, a, ixN_nat (by rw [List.length_map]; omega), fun l hl2 => ?_⟩
      have w6 := Wl.mut (o := .lst ((ys.map V.int).set a (.int 1))) (Wl.trans w5 (Wl.draw b6 e6)) nf hf
      obtain ⟨nl, wl⟩ := newW (o := .tup ((ys.map V.int).set a (.int 1))) w6.1 hl2
      refine q l (ys.set a 1) _ (Wl.trans w6 wl) (by rw [wo_at nl, upd_same, List.map_set]) ⟨by rw [List.length_set]; omega, by rw [List.length_set]; omega, fun y h => ?_, ?_⟩ ?_
      · rcases List.mem_or_eq_of_mem_set h with h | h
        · exact hy y h
        · omega
      · rw [sum_set yz (by omega)]
        decide
      · rw [sum_set yz (by omega)]
        exact n0
    · simp only [and_assoc, rst, rs, re, ra, rq, rx, ro, rl, rl2, rsp, rz, rix, rln, rg, rd, ri, rv, rk, rdd, rwi, at0, at1, at2, at3, upd_at, List.getElem?_cons_zero, List.getElem?_cons_succ, Option.some.injEq, exists_eq_left', exists_eq_left, List.set_cons_zero, List.set_cons_succ, true_and, and_true, HO.lst.injEq, HO.tup.injEq, exists_and_left, exists_eq, exists_eq', Br.t, Br.f, Be.t, Be.f, List.cons.injEq, List.append_nil, scal, if_true, if_false, ite_true, ite_false, eq_self_iff_true, decide_true, decide_false, Bool.not_true, Bool.not_false, reduceIte, List.nil_append, List.cons_append, reduceCtorEq, false_and, exists_false, false_or, or_false, Int.reduceLT, ral, rmd, rsq, rlu, rdp, Bool.true_or, Bool.false_or, Bool.or_false, Bool.or_true, f5]
      have nn := sum_nn fun y h => (hy y h).1
      intro l hl2
      obtain ⟨nl, wl⟩ := newW (o := .tup (ys.map V.int)) w5.1 hl2
      exact q l ys _ (Wl.trans w5 wl) (by rw [wo_at nl, upd_same]) ⟨by omega, by omega, hy, by omega⟩ (by omega)
end
end Law

-- RDX ral, rmd, rsq, rlu, rdp, Bool.true_or, Bool.false_or, Bool.or_false, Bool.or_true
namespace Law
open PySem PySem.Spec PyProof.Rows L2 Sw
section
variable {P : Program} {w : World} {K : Fg} {mg : Str → Option Value} {base : Heap}
theorem ok__law_simple (T : Tx K mg w) (c__law_take : Cal P w K mg base 1 "_law_take" ["box", "many"] (sp__law_take K)) (c__law_orders : Cal P w K mg base 1 "_law_orders" ["many"] (sp__law_orders K)) (c__law_sets : Cal P w K mg base 1 "_law_sets" ["many", "size"] (sp__law_sets K)) (c__law_portions : Cal P w K mg base 2 "_law_portions" ["box", "most"] (sp__law_portions K))  : Cal P w K mg base 3 "_law_simple" ["box", "most"] (sp__law_simple K) := by
  refine cal_mk T.F__law_simple T.g__law_simple sc__law_simple (len2 _) (fun _ _ _ _ _ _ us hl => match us, hl with | [_, _], _ => rfl) (fun cdv A outer s H vs Q E hr h => ?_)
  obtain ⟨v0, v1, rfl, h⟩ := h
  have hu := hu_of hr.r
  refine ⟨_, (pss_cons (ps_set (i := 2) sc__law_simple.nd rfl (Or.inl rfl) (pe_cal c__law_take hr (by decide) passL rfl (pa_cons (pv 0) (pa_cons pe_int pa_nil))))
      (pss_cons (ps_if (pt_cmpR op_eq (pv 2) pe_int (nomark _)) (pss_one (ps_ret (pe_tup (pa_cons pe_str (pa_cons (pe_op op_add pe_int (pe_cal c__law_take hr (by decide) passL rfl (pa_cons (pv 0) (pa_cons (pe_ix ix_q (pe_lst (pa_cons (pe_callB (call_min2 rfl) (by rfl) T.n_min (by decide +kernel) (pa_cons (pv 1) (pa_cons pe_int pa_nil))) (pa_cons (pv 1) pa_nil))) (pe_cal c__law_take hr (by decide) passL rfl (pa_cons (pv 0) (pa_cons pe_int pa_nil))) (fun _ _ => rfl)) pa_nil)))) pa_nil))))) pss_nil)
      (pss_cons (ps_if (pt_cmpR op_eq (pv 2) pe_int (nomark _)) (pss_one (ps_ret (pe_tup (pa_cons pe_str (pa_cons (pe_cal c__law_portions hr (by decide) passL rfl (pa_cons (pv 0) (pa_cons (pv 1) pa_nil))) pa_nil))))) pss_nil)
      (pss_cons (ps_if (pt_cmpR op_eq (pv 2) pe_int (nomark _)) (pss_cons (ps_set (i := 3) sc__law_simple.nd rfl (Or.inl rfl) (pe_ix ix_q (pe_lst (pa_cons (pe_cal c__law_take hr (by decide) passL rfl (pa_cons (pv 0) (pa_cons pe_int pa_nil))) (pa_cons (pe_cal c__law_take hr (by decide) passL rfl (pa_cons (pv 0) (pa_cons pe_int pa_nil))) pa_nil))) (pe_cal c__law_take hr (by decide) passL rfl (pa_cons (pv 0) (pa_cons pe_int pa_nil))) (fun _ _ => rfl)))
      (pss_cons (ps_while (passes_of rfl) (pt_cmpR op_gt (pe_cal c__law_orders hr (by decide) passL rfl (pa_cons (pv 3) pa_nil)) (pv 1) (nomark _)) (pss_one (ps_set (i := 3) sc__law_simple.nd rfl (Or.inl rfl) (pe_op op_sub (pv 3) pe_int))))
      (pss_one (ps_ret (pe_tup (pa_cons pe_str (pa_cons (pv 3) pa_nil))))))) pss_nil)
      (pss_cons (ps_set (i := 3) sc__law_simple.nd rfl (Or.inl rfl) (pe_ix ix_q (pe_lst (pa_cons (pe_cal c__law_take hr (by decide) passL rfl (pa_cons (pv 0) (pa_cons pe_int pa_nil))) (pa_cons (pe_cal c__law_take hr (by decide) passL rfl (pa_cons (pv 0) (pa_cons pe_int pa_nil))) pa_nil))) (pe_cal c__law_take hr (by decide) passL rfl (pa_cons (pv 0) (pa_cons pe_int pa_nil))) (fun _ _ => rfl)))
      (pss_cons (ps_set (i := 4) sc__law_simple.nd rfl (Or.inl rfl) (pe_cal c__law_take hr (by decide) passL rfl (pa_cons (pv 0) (pa_cons (pe_op op_add (pv 3) pe_int) pa_nil))))
      (pss_cons (ps_while (passes_of rfl) (pt_cmpR op_gt (pe_cal c__law_sets hr (by decide) passL rfl (pa_cons (pv 3) (pa_cons (pv 4) pa_nil))) (pv 1) (nomark _)) (pss_cons (ps_set (i := 3) sc__law_simple.nd rfl (Or.inl rfl) (pe_op op_sub (pv 3) pe_int))
      (pss_one (ps_set (i := 4) sc__law_simple.nd rfl (Or.inl rfl) (pe_callB (call_min2 rfl) (by rfl) T.n_min (by decide +kernel) (pa_cons (pv 4) (pa_cons (pv 3) pa_nil)))))))
      (pss_one (ps_ret (pe_tup (pa_cons pe_str (pa_cons (pv 3) (pa_cons (pv 4) pa_nil))))))))))))), ?_⟩
  obtain ⟨p, n, rfl, hw, rfl, n0, n1, q⟩ := h
  simp only [and_assoc, rst, rs, re, ra, rq, rx, ro, rl, rl2, rsp, rz, rix, rln, rg, rd, ri, rv, rk, rdd, rwi, at0, at1, at2, at3, upd_at, List.getElem?_cons_zero, List.getElem?_cons_succ, Option.some.injEq, exists_eq_left', exists_eq_left, List.set_cons_zero, List.set_cons_succ, true_and, and_true, HO.lst.injEq, HO.tup.injEq, exists_and_left, exists_eq, exists_eq', Br.t, Br.f, Be.t, Be.f, List.cons.injEq, List.append_nil, scal, if_true, if_false, ite_true, ite_false, eq_self_iff_true, decide_true, decide_false, Bool.not_true, Bool.not_false, reduceIte, List.nil_append, List.cons_append, reduceCtorEq, false_and, exists_false, false_or, or_false, Int.reduceLT, ral, rmd, rsq, rlu, rdp, Bool.true_or, Bool.false_or, Bool.or_false, Bool.or_true]
  refine ⟨_, _, rfl, p, 4, rfl, hw, rfl, by decide, by decide, fun r H1 a0 a1 b1 e1 => ?_⟩
  have w1 := Wl.draw b1 e1
  refine ⟨rfl, Br.d (fun c => ?_) fun c => ?_⟩
  · simp only [and_assoc, rst, rs, re, ra, rq, rx, ro, rl, rl2, rsp, rz, rix, rln, rg, rd, ri, rv, rk, rdd, rwi, at0, at1, at2, at3, upd_at, List.getElem?_cons_zero, List.getElem?_cons_succ, Option.some.injEq, exists_eq_left', exists_eq_left, List.set_cons_zero, List.set_cons_succ, true_and, and_true, HO.lst.injEq, HO.tup.injEq, exists_and_left, exists_eq, exists_eq', Br.t, Br.f, Be.t, Be.f, List.cons.injEq, List.append_nil, scal, if_true, if_false, ite_true, ite_false, eq_self_iff_true, decide_true, decide_false, Bool.not_true, Bool.not_false, reduceIte, List.nil_append, List.cons_append, reduceCtorEq, false_and, exists_false, false_or, or_false, Int.reduceLT, ral, rmd, rsq, rlu, rdp, Bool.true_or, Bool.false_or, Bool.or_false, Bool.or_true]
    intro d hd
    obtain ⟨nd, wd⟩ := newW (o := .lst [.int (if 12 < n then 12 else n), .int n]) b1 hd
    refine ⟨_, _, rfl, p, 2, rfl, wd.1, rfl, by decide, by decide, fun r2 H2 a2 a3 b2 e2 => ?_⟩
    have w2 := Wl.trans w1 (Wl.trans wd (Wl.draw b2 e2))
    have hx : ∃ x : Int, 1 ≤ x ∧ x ≤ n ∧ atI [V.int (if 12 < n then 12 else n), V.int n] r2 = some (.int x) := by
      have : r2 = 0 ∨ r2 = 1 := by omega
      rcases this with rfl | rfl
      · exact ⟨if 12 < n then 12 else n, by split <;> omega, by split <;> omega, rfl⟩
      · exact ⟨n, n0, by omega, rfl⟩
    obtain ⟨x, x0, x1, hx⟩ := hx
    refine ⟨_, (e2 d nd).trans upd_same, _, rfl, _, rfl, _, hx, _, _, rfl, p, x, rfl, b2, rfl, by omega, by omega, fun r3 H3 a4 a5 b3 e3 => ⟨_, rfl, fun g hg => ?_⟩⟩
    obtain ⟨ng, wg⟩ := newW (o := .tup [.str "below", .int (1 + r3)]) b3 hg
    exact q _ (.bound (1 + r3)) _ (Wl.trans w2 (Wl.trans (Wl.draw b3 e3) wg)) rfl ⟨by omega, by omega⟩ (by show 1 + r3 ≤ n; omega) ⟨g, rfl, by rw [wo_at ng]; exact upd_same⟩
  · simp only [and_assoc, rst, rs, re, ra, rq, rx, ro, rl, rl2, rsp, rz, rix, rln, rg, rd, ri, rv, rk, rdd, rwi, at0, at1, at2, at3, upd_at, List.getElem?_cons_zero, List.getElem?_cons_succ, Option.some.injEq, exists_eq_left', exists_eq_left, List.set_cons_zero, List.set_cons_succ, true_and, and_true, HO.lst.injEq, HO.tup.injEq, exists_and_left, exists_eq, exists_eq', Br.t, Br.f, Be.t, Be.f, List.cons.injEq, List.append_nil, scal, if_true, if_false, ite_true, ite_false, eq_self_iff_true, decide_true, decide_false, Bool.not_true, Bool.not_false, reduceIte, List.nil_append, List.cons_append, reduceCtorEq, false_and, exists_false, false_or, or_false, Int.reduceLT, ral, rmd, rsq, rlu, rdp, Bool.true_or, Bool.false_or, Bool.or_false, Bool.or_true]
    refine Br.d (fun c2 => ?_) fun c2 => ?_
    · simp only [and_assoc, rst, rs, re, ra, rq, rx, ro, rl, rl2, rsp, rz, rix, rln, rg, rd, ri, rv, rk, rdd, rwi, at0, at1, at2, at3, upd_at, List.getElem?_cons_zero, List.getElem?_cons_succ, Option.some.injEq, exists_eq_left', exists_eq_left, List.set_cons_zero, List.set_cons_succ, true_and, and_true, HO.lst.injEq, HO.tup.injEq, exists_and_left, exists_eq, exists_eq', Br.t, Br.f, Be.t, Be.f, List.cons.injEq, List.append_nil, scal, if_true, if_false, ite_true, ite_false, eq_self_iff_true, decide_true, decide_false, Bool.not_true, Bool.not_false, reduceIte, List.nil_append, List.cons_append, reduceCtorEq, false_and, exists_false, false_or, or_false, Int.reduceLT, ral, rmd, rsq, rlu, rdp, Bool.true_or, Bool.false_or, Bool.or_false, Bool.or_true]
      refine ⟨_, _, rfl, p, n, rfl, b1, rfl, n0, n1, fun t ps H2 w2 ht hok hs g hg => ?_⟩
      obtain ⟨ng, wg⟩ := newW (o := .tup [.str "shares", .ref t]) w2.1 hg
      exact q _ (.shares ps) _ (Wl.trans w1 (Wl.trans w2 wg)) rfl hok hs ⟨g, t, rfl, by rw [wo_at ng]; exact upd_same, wg.2 _ _ ht⟩
    · simp only [and_assoc, rst, rs, re, ra, rq, rx, ro, rl, rl2, rsp, rz, rix, rln, rg, rd, ri, rv, rk, rdd, rwi, at0, at1, at2, at3, upd_at, List.getElem?_cons_zero, List.getElem?_cons_succ, Option.some.injEq, exists_eq_left', exists_eq_left, List.set_cons_zero, List.set_cons_succ, true_and, and_true, HO.lst.injEq, HO.tup.injEq, exists_and_left, exists_eq, exists_eq', Br.t, Br.f, Be.t, Be.f, List.cons.injEq, List.append_nil, scal, if_true, if_false, ite_true, ite_false, eq_self_iff_true, decide_true, decide_false, Bool.not_true, Bool.not_false, reduceIte, List.nil_append, List.cons_append, reduceCtorEq, false_and, exists_false, false_or, or_false, Int.reduceLT, ral, rmd, rsq, rlu, rdp, Bool.true_or, Bool.false_or, Bool.or_false, Bool.or_true]
      refine Br.d (fun c3 => ?_) fun c3 => ?_
      · simp only [and_assoc, rst, rs, re, ra, rq, rx, ro, rl, rl2, rsp, rz, rix, rln, rg, rd, ri, rv, rk, rdd, rwi, at0, at1, at2, at3, upd_at, List.getElem?_cons_zero, List.getElem?_cons_succ, Option.some.injEq, exists_eq_left', exists_eq_left, List.set_cons_zero, List.set_cons_succ, true_and, and_true, HO.lst.injEq, HO.tup.injEq, exists_and_left, exists_eq, exists_eq', Br.t, Br.f, Be.t, Be.f, List.cons.injEq, List.append_nil, scal, if_true, if_false, ite_true, ite_false, eq_self_iff_true, decide_true, decide_false, Bool.not_true, Bool.not_false, reduceIte, List.nil_append, List.cons_append, reduceCtorEq, false_and, exists_false, false_or, or_false, Int.reduceLT, ral, rmd, rsq, rlu, rdp, Bool.true_or, Bool.false_or, Bool.or_false, Bool.or_true]
        refine ⟨_, _, rfl, p, 5, rfl, b1, rfl, by decide, by decide, fun xa H2 a2 a3 b2 e2 => ⟨_, _, rfl, p, 21, rfl, b2, rfl, by decide, by decide, fun xb H3 a4 a5 b3 e3 d hd => ?_⟩⟩
        obtain ⟨nd, wd⟩ := newW (o := .lst [.int xa, .int xb]) b3 hd
        refine ⟨_, _, rfl, p, 2, rfl, wd.1, rfl, by decide, by decide, fun xc H4 a6 a7 b4 e4 => ?_⟩
        have w4 := Wl.trans w1 (Wl.trans (Wl.draw b2 e2) (Wl.trans (Wl.draw b3 e3) (Wl.trans wd (Wl.draw b4 e4))))
        have hx : ∃ x : Nat, x ≤ 20 ∧ atI [V.int xa, V.int xb] xc = some (.int (x : Int)) := by
          have : xc = 0 ∨ xc = 1 := by omega
          rcases this with rfl | rfl
          · exact ⟨xa.toNat, by omega, by rw [Int.toNat_of_nonneg a2]; rfl⟩
          · exact ⟨xb.toNat, by omega, by rw [Int.toNat_of_nonneg a4]; rfl⟩
        obtain ⟨x, x0, hx⟩ := hx
        refine ⟨_, (e4 d nd).trans upd_same, _, rfl, _, rfl, _, hx, ?_⟩
        refine wh (fun m σ H' => H' = H4 ∧ m ≤ 20 ∧ σ = [some (.ref p), some (.int n), some (.int r), some (.int (m : Int)), none]) x ⟨rfl, x0, rfl⟩ ?_
        rintro m σ H' ⟨rfl, hm, rfl⟩
        simp only [and_assoc, rst, rs, re, ra, rq, rx, ro, rl, rl2, rsp, rz, rix, rln, rg, rd, ri, rv, rk, rdd, rwi, at0, at1, at2, at3, upd_at, List.getElem?_cons_zero, List.getElem?_cons_succ, Option.some.injEq, exists_eq_left', exists_eq_left, List.set_cons_zero, List.set_cons_succ, true_and, and_true, HO.lst.injEq, HO.tup.injEq, exists_and_left, exists_eq, exists_eq', Br.t, Br.f, Be.t, Be.f, List.cons.injEq, List.append_nil, scal, if_true, if_false, ite_true, ite_false, eq_self_iff_true, decide_true, decide_false, Bool.not_true, Bool.not_false, reduceIte, List.nil_append, List.cons_append, reduceCtorEq, false_and, exists_false, false_or, or_false, Int.reduceLT, ral, rmd, rsq, rlu, rdp, Bool.true_or, Bool.false_or, Bool.or_false, Bool.or_true]
        refine ⟨_, rfl, m, rfl, hm, _, rfl, Br.d (fun c4 => ?_) fun c4 => ?_⟩
        · refine Nx.go ?_
          have : m ≠ 0 := by
            rintro rfl
            have : fac 0 = 1 := rfl
            omega
          obtain ⟨j, rfl⟩ : ∃ j, m = j + 1 := ⟨m - 1, by omega⟩
          simp only [and_assoc, rst, rs, re, ra, rq, rx, ro, rl, rl2, rsp, rz, rix, rln, rg, rd, ri, rv, rk, rdd, rwi, at0, at1, at2, at3, upd_at, List.getElem?_cons_zero, List.getElem?_cons_succ, Option.some.injEq, exists_eq_left', exists_eq_left, List.set_cons_zero, List.set_cons_succ, true_and, and_true, HO.lst.injEq, HO.tup.injEq, exists_and_left, exists_eq, exists_eq', Br.t, Br.f, Be.t, Be.f, List.cons.injEq, List.append_nil, scal, if_true, if_false, ite_true, ite_false, eq_self_iff_true, decide_true, decide_false, Bool.not_true, Bool.not_false, reduceIte, List.nil_append, List.cons_append, reduceCtorEq, false_and, exists_false, false_or, or_false, Int.reduceLT, ral, rmd, rsq, rlu, rdp, Bool.true_or, Bool.false_or, Bool.or_false, Bool.or_true]
          exact ⟨j, by omega, by omega, by omega⟩
        · simp only [and_assoc, rst, rs, re, ra, rq, rx, ro, rl, rl2, rsp, rz, rix, rln, rg, rd, ri, rv, rk, rdd, rwi, at0, at1, at2, at3, upd_at, List.getElem?_cons_zero, List.getElem?_cons_succ, Option.some.injEq, exists_eq_left', exists_eq_left, List.set_cons_zero, List.set_cons_succ, true_and, and_true, HO.lst.injEq, HO.tup.injEq, exists_and_left, exists_eq, exists_eq', Br.t, Br.f, Be.t, Be.f, List.cons.injEq, List.append_nil, scal, if_true, if_false, ite_true, ite_false, eq_self_iff_true, decide_true, decide_false, Bool.not_true, Bool.not_false, reduceIte, List.nil_append, List.cons_append, reduceCtorEq, false_and, exists_false, false_or, or_false, Int.reduceLT, ral, rmd, rsq, rlu, rdp, Bool.true_or, Bool.false_or, Bool.or_false, Bool.or_true]
          intro g hg
          obtain ⟨ng, wg⟩ := newW (o := .tup [.str "orders", .int (m : Int)]) b4 hg
          exact q _ (.orders m) _ (Wl.trans w4 wg) rfl hm (by show fac m ≤ n; omega) ⟨g, rfl, by rw [wo_at ng]; exact upd_same⟩
      · simp only [and_assoc, rst, rs, re, ra, rq, rx, ro, rl, rl2, rsp, rz, rix, rln, rg, rd, ri, rv, rk, rdd, rwi, at0, at1, at2, at3, upd_at, List.getElem?_cons_zero, List.getElem?_cons_succ, Option.some.injEq, exists_eq_left', exists_eq_left, List.set_cons_zero, List.set_cons_succ, true_and, and_true, HO.lst.injEq, HO.tup.injEq, exists_and_left, exists_eq, exists_eq', Br.t, Br.f, Be.t, Be.f, List.cons.injEq, List.append_nil, scal, if_true, if_false, ite_true, ite_false, eq_self_iff_true, decide_true, decide_false, Bool.not_true, Bool.not_false, reduceIte, List.nil_append, List.cons_append, reduceCtorEq, false_and, exists_false, false_or, or_false, Int.reduceLT, ral, rmd, rsq, rlu, rdp, Bool.true_or, Bool.false_or, Bool.or_false, Bool.or_true]
        refine ⟨_, _, rfl, p, 7, rfl, b1, rfl, by decide, by decide, fun xa H2 a2 a3 b2 e2 => ⟨_, _, rfl, p, 61, rfl, b2, rfl, by decide, by decide, fun xb H3 a4 a5 b3 e3 d hd => ?_⟩⟩
        obtain ⟨nd, wd⟩ := newW (o := .lst [.int xa, .int xb]) b3 hd
        refine ⟨_, _, rfl, p, 2, rfl, wd.1, rfl, by decide, by decide, fun xc H4 a6 a7 b4 e4 => ?_⟩
        have w4 := Wl.trans w1 (Wl.trans (Wl.draw b2 e2) (Wl.trans (Wl.draw b3 e3) (Wl.trans wd (Wl.draw b4 e4))))
        have hx : ∃ x : Nat, x ≤ 60 ∧ atI [V.int xa, V.int xb] xc = some (.int (x : Int)) := by
          have : xc = 0 ∨ xc = 1 := by omega
          rcases this with rfl | rfl
          · exact ⟨xa.toNat, by omega, by rw [Int.toNat_of_nonneg a2]; rfl⟩
          · exact ⟨xb.toNat, by omega, by rw [Int.toNat_of_nonneg a4]; rfl⟩
        obtain ⟨x, x0, hx⟩ := hx
        refine ⟨_, (e4 d nd).trans upd_same, _, rfl, _, rfl, _, hx, _, rfl, _, _, rfl, p, _, rfl, b4, rfl, by omega, by omega, fun xd H5 a8 a9 b5 e5 => ?_⟩
        have w5 := Wl.trans w4 (Wl.draw b5 e5)
        obtain ⟨y, rfl⟩ : ∃ y : Nat, xd = (y : Int) := ⟨xd.toNat, by omega⟩
        refine wh (fun m σ H' => ∃ k : Nat, H' = H5 ∧ m ≤ 60 ∧ k ≤ m ∧ σ = [some (.ref p), some (.int n), some (.int r), some (.int (m : Int)), some (.int (k : Int))]) x ⟨y, rfl, x0, by omega, rfl⟩ ?_
        rintro m σ H' ⟨k, rfl, hm, hk, rfl⟩
        simp only [and_assoc, rst, rs, re, ra, rq, rx, ro, rl, rl2, rsp, rz, rix, rln, rg, rd, ri, rv, rk, rdd, rwi, at0, at1, at2, at3, upd_at, List.getElem?_cons_zero, List.getElem?_cons_succ, Option.some.injEq, exists_eq_left', exists_eq_left, List.set_cons_zero, List.set_cons_succ, true_and, and_true, HO.lst.injEq, HO.tup.injEq, exists_and_left, exists_eq, exists_eq', Br.t, Br.f, Be.t, Be.f, List.cons.injEq, List.append_nil, scal, if_true, if_false, ite_true, ite_false, eq_self_iff_true, decide_true, decide_false, Bool.not_true, Bool.not_false, reduceIte, List.nil_append, List.cons_append, reduceCtorEq, false_and, exists_false, false_or, or_false, Int.reduceLT, ral, rmd, rsq, rlu, rdp, Bool.true_or, Bool.false_or, Bool.or_false, Bool.or_true]
        refine ⟨_, _, rfl, m, k, rfl, rfl, hm, by omega, _, rfl, Br.d (fun c4 => ?_) fun c4 => ?_⟩
        · refine Nx.go ?_
          have : m ≠ 0 := by
            rintro rfl
            obtain rfl : k = 0 := by omega
            have : wys 0 0 = 1 := rfl
            omega
          obtain ⟨j, rfl⟩ : ∃ j, m = j + 1 := ⟨m - 1, by omega⟩
          simp only [and_assoc, rst, rs, re, ra, rq, rx, ro, rl, rl2, rsp, rz, rix, rln, rg, rd, ri, rv, rk, rdd, rwi, at0, at1, at2, at3, upd_at, List.getElem?_cons_zero, List.getElem?_cons_succ, Option.some.injEq, exists_eq_left', exists_eq_left, List.set_cons_zero, List.set_cons_succ, true_and, and_true, HO.lst.injEq, HO.tup.injEq, exists_and_left, exists_eq, exists_eq', Br.t, Br.f, Be.t, Be.f, List.cons.injEq, List.append_nil, scal, if_true, if_false, ite_true, ite_false, eq_self_iff_true, decide_true, decide_false, Bool.not_true, Bool.not_false, reduceIte, List.nil_append, List.cons_append, reduceCtorEq, false_and, exists_false, false_or, or_false, Int.reduceLT, ral, rmd, rsq, rlu, rdp, Bool.true_or, Bool.false_or, Bool.or_false, Bool.or_true]
          refine ⟨j, by omega, by omega, min k j, by omega, by omega, ?_⟩
          split <;> omega
        · simp only [and_assoc, rst, rs, re, ra, rq, rx, ro, rl, rl2, rsp, rz, rix, rln, rg, rd, ri, rv, rk, rdd, rwi, at0, at1, at2, at3, upd_at, List.getElem?_cons_zero, List.getElem?_cons_succ, Option.some.injEq, exists_eq_left', exists_eq_left, List.set_cons_zero, List.set_cons_succ, true_and, and_true, HO.lst.injEq, HO.tup.injEq, exists_and_left, exists_eq, exists_eq', Br.t, Br.f, Be.t, Be.f, List.cons.injEq, List.append_nil, scal, if_true, if_false, ite_true, ite_false, eq_self_iff_true, decide_true, decide_false, Bool.not_true, Bool.not_false, reduceIte, List.nil_append, List.cons_append, reduceCtorEq, false_and, exists_false, false_or, or_false, Int.reduceLT, ral, rmd, rsq, rlu, rdp, Bool.true_or, Bool.false_or, Bool.or_false, Bool.or_true]
          intro g hg
          obtain ⟨ng, wg⟩ := newW (o := .tup [.str "sets", .int (m : Int), .int (k : Int)]) b5 hg
          exact q _ (.sets m k) _ (Wl.trans w5 wg) rfl ⟨hm, hk⟩ (by show wys m k ≤ n; omega) ⟨g, rfl, by rw [wo_at ng]; exact upd_same⟩
end
end Law

-- RDX ral, rmd, rsq, rlu, rdp, Bool.true_or, Bool.false_or, Bool.or_false, Bool.or_true
namespace Law
open PySem PySem.Spec PyProof.Rows L2 Sw
section
variable {P : Program} {w : World} {K : Fg} {mg : Str → Option Value} {base : Heap}
theorem rz__law_told {H : Hp} {b r m : V} {Q : VK} (h : ∃ (p : Addr) (n : Int) (k : Nat), b = .ref p ∧ Well H p ∧ r = .int (k : Int) ∧ k < 0 ∧ k ≤ 3 ∧ m = .int n ∧ 1 ≤ n ∧ n ≤ 2 ^ 64 ∧ ∀ v sh H', Wl p H H' → sh.ht ≤ k → sh.ok → sh.tot ≤ n → Td (wo p H') sh v → Q v H') : False := by
  obtain ⟨_, _, k, _, _, _, h, _⟩ := h
  omega
theorem okn__law_told (T : Tx K mg w) (c__law_take : Cal P w K mg base 1 "_law_take" ["box", "many"] (sp__law_take K)) (c__law_total : Cal P w K mg base 6 "_law_total" ["told"] (sp__law_total K)) (c__law_simple : Cal P w K mg base 3 "_law_simple" ["box", "most"] (sp__law_simple K)) (c__law_weight : Cal P w K mg base 5 "_law_weight" ["told"] (sp__law_weight K)) : ∀ n, Cal P w K mg base (7 + n) "_law_told" ["box", "room", "most"] (spn__law_told K n) := by
  intro n
  induction n with
  | zero =>
    refine cal_mk T.F__law_told T.g__law_told sc__law_told (len3 _) (fun _ _ _ _ _ _ us hl => match us, hl with | [_, _, _], _ => rfl) (fun cdv A outer s H vs Q E hr h => ?_)
    obtain ⟨v0, v1, v2, rfl, h⟩ := h
    exact (rz__law_told h).elim
  | succ n c__law_told =>
    refine cal_mk T.F__law_told T.g__law_told sc__law_told (len3 _) (fun _ _ _ _ _ _ us hl => match us, hl with | [_, _, _], _ => rfl) (fun cdv A outer s H vs Q E hr h => ?_)
    obtain ⟨v0, v1, v2, rfl, h⟩ := h
    have hu := hu_of hr.r
    refine ⟨_, (pss_cons (ps_set (i := 3) sc__law_told.nd rfl (Or.inl rfl) (pe_cal c__law_take hr (Nat.le_trans (by decide : 1 ≤ 7) (Nat.le_add_right _ _)) passL rfl (pa_cons (pv 0) (pa_cons pe_int pa_nil))))
      (pss_cons (ps_if (PW.pt (pw_or (pt_cmpR op_eq (pv 1) pe_int (nomark _)) (pw_or1 (pt_cmpR op_lt (pv 3) pe_int (nomark _))))) (pss_one (ps_ret (pe_cal c__law_simple hr (Nat.le_trans (by decide : 3 ≤ 7) (Nat.le_add_right _ _)) passL rfl (pa_cons (pv 0) (pa_cons (pv 2) pa_nil))))) pss_nil)
      (pss_cons (ps_set (i := 4) sc__law_told.nd rfl (Or.inl rfl) (pe_cal c__law_told hr (Nat.le_refl _) passL rfl (pa_cons (pv 0) (pa_cons (pe_op op_sub (pv 1) pe_int) (pa_cons (pv 2) pa_nil)))))
      (pss_cons (ps_if (pt_cmpR op_eq (pv 3) pe_int (nomark _)) (pss_cons (ps_set (i := 5) sc__law_told.nd rfl (Or.inl rfl) (pe_cal c__law_told hr (Nat.le_refl _) passL rfl (pa_cons (pv 0) (pa_cons (pe_op op_sub (pv 1) pe_int) (pa_cons (pe_op op_fdivW (pv 2) (pe_cal c__law_total hr (Nat.le_trans (by decide : 6 ≤ 7) (Nat.le_add_right _ _)) passL rfl (pa_cons (pv 4) pa_nil))) pa_nil)))))
      (pss_cons (ps_if (pt_cmpR op_gt (pe_op op_add (pe_cal c__law_weight hr (Nat.le_trans (by decide : 5 ≤ 7) (Nat.le_add_right _ _)) passL rfl (pa_cons (pv 4) pa_nil)) (pe_cal c__law_weight hr (Nat.le_trans (by decide : 5 ≤ 7) (Nat.le_add_right _ _)) passL rfl (pa_cons (pv 5) pa_nil))) pe_int (nomark _)) (pss_one (ps_set (i := 5) sc__law_told.nd rfl (Or.inl rfl) (pe_tup (pa_cons pe_str (pa_cons pe_int pa_nil))))) pss_nil)
      (pss_one (ps_ret (pe_tup (pa_cons pe_str (pa_cons (pv 4) (pa_cons (pv 5) pa_nil)))))))) pss_nil)
      (pss_cons (ps_set (i := 6) sc__law_told.nd rfl (Or.inl rfl) (pe_cal c__law_take hr (Nat.le_trans (by decide : 1 ≤ 7) (Nat.le_add_right _ _)) passL rfl (pa_cons (pv 0) (pa_cons (pe_ix ix_q (pe_lst (pa_cons pe_int (pa_cons pe_int pa_nil))) (pe_cal c__law_take hr (Nat.le_trans (by decide : 1 ≤ 7) (Nat.le_add_right _ _)) passL rfl (pa_cons (pv 0) (pa_cons pe_int pa_nil))) (fun _ _ => rfl)) pa_nil))))
      (pss_cons (ps_while (passes_of rfl) (PW.pt (pw_or (pt_cmpR op_gt (pe_cal c__law_total hr (Nat.le_trans (by decide : 6 ≤ 7) (Nat.le_add_right _ _)) passL rfl (pa_cons (pe_tup (pa_cons pe_str (pa_cons (pv 4) (pa_cons (pv 6) pa_nil)))) pa_nil)) (pv 2) (nomark _)) (pw_or1 (pt_cmpR op_gt (pe_cal c__law_weight hr (Nat.le_trans (by decide : 5 ≤ 7) (Nat.le_add_right _ _)) passL rfl (pa_cons (pe_tup (pa_cons pe_str (pa_cons (pv 4) (pa_cons (pv 6) pa_nil)))) pa_nil)) pe_int (nomark _))))) (pss_one (ps_set (i := 6) sc__law_told.nd rfl (Or.inl rfl) (pe_op op_sub (pv 6) pe_int))))
      (pss_one (ps_ret (pe_tup (pa_cons pe_str (pa_cons (pv 4) (pa_cons (pv 6) pa_nil)))))))))))), ?_⟩
    obtain ⟨p, m, k, rfl, hw, rfl, hk, hk3, rfl, n0, n1, q⟩ := h
    simp only [and_assoc, rst, rs, re, ra, rq, rx, ro, rl, rl2, rsp, rz, rix, rln, rg, rd, ri, rv, rk, rdd, rwi, at0, at1, at2, at3, upd_at, List.getElem?_cons_zero, List.getElem?_cons_succ, Option.some.injEq, exists_eq_left', exists_eq_left, List.set_cons_zero, List.set_cons_succ, true_and, and_true, HO.lst.injEq, HO.tup.injEq, exists_and_left, exists_eq, exists_eq', Br.t, Br.f, Be.t, Be.f, List.cons.injEq, List.append_nil, scal, if_true, if_false, ite_true, ite_false, eq_self_iff_true, decide_true, decide_false, Bool.not_true, Bool.not_false, reduceIte, List.nil_append, List.cons_append, reduceCtorEq, false_and, exists_false, false_or, or_false, Int.reduceLT, ral, rmd, rsq, rlu, rdp, Bool.true_or, Bool.false_or, Bool.or_false, Bool.or_true]
    refine ⟨_, _, rfl, p, 4, rfl, hw, rfl, by decide, by decide, fun r H1 a0 a1 b1 e1 => ?_⟩
    have w1 := Wl.draw b1 e1
    refine Be.d (fun c => ?_) fun c => ?_
    · exact ⟨_, _, rfl, p, m, rfl, b1, rfl, n0, n1, fun v sh H2 w2 h0 ho ht hd => q v sh H2 (Wl.trans w1 w2) (by omega) ho ht hd⟩
    · refine ⟨_, rfl, Br.d (fun c2 => ?_) fun c2 => ?_⟩
      · simp only [and_assoc, rst, rs, re, ra, rq, rx, ro, rl, rl2, rsp, rz, rix, rln, rg, rd, ri, rv, rk, rdd, rwi, at0, at1, at2, at3, upd_at, List.getElem?_cons_zero, List.getElem?_cons_succ, Option.some.injEq, exists_eq_left', exists_eq_left, List.set_cons_zero, List.set_cons_succ, true_and, and_true, HO.lst.injEq, HO.tup.injEq, exists_and_left, exists_eq, exists_eq', Br.t, Br.f, Be.t, Be.f, List.cons.injEq, List.append_nil, scal, if_true, if_false, ite_true, ite_false, eq_self_iff_true, decide_true, decide_false, Bool.not_true, Bool.not_false, reduceIte, List.nil_append, List.cons_append, reduceCtorEq, false_and, exists_false, false_or, or_false, Int.reduceLT, ral, rmd, rsq, rlu, rdp, Bool.true_or, Bool.false_or, Bool.or_false, Bool.or_true]
        exact ⟨_, _, rfl, p, m, rfl, b1, rfl, n0, n1, fun v sh H2 w2 h0 ho ht hd => q v sh H2 (Wl.trans w1 w2) (by omega) ho ht hd⟩
      · obtain ⟨j, rfl⟩ : ∃ j, k = j + 1 := ⟨k - 1, by omega⟩
        simp only [and_assoc, rst, rs, re, ra, rq, rx, ro, rl, rl2, rsp, rz, rix, rln, rg, rd, ri, rv, rk, rdd, rwi, at0, at1, at2, at3, upd_at, List.getElem?_cons_zero, List.getElem?_cons_succ, Option.some.injEq, exists_eq_left', exists_eq_left, List.set_cons_zero, List.set_cons_succ, true_and, and_true, HO.lst.injEq, HO.tup.injEq, exists_and_left, exists_eq, exists_eq', Br.t, Br.f, Be.t, Be.f, List.cons.injEq, List.append_nil, scal, if_true, if_false, ite_true, ite_false, eq_self_iff_true, decide_true, decide_false, Bool.not_true, Bool.not_false, reduceIte, List.nil_append, List.cons_append, reduceCtorEq, false_and, exists_false, false_or, or_false, Int.reduceLT, ral, rmd, rsq, rlu, rdp, Bool.true_or, Bool.false_or, Bool.or_false, Bool.or_true]
        refine ⟨_, _, _, rfl, p, m, j, rfl, b1, by congr 1; omega, by omega, by omega, rfl, n0, n1, fun u s H2 w2 hs hso hst hsd => ?_⟩
        have w3 := Wl.trans w1 w2
        simp only [and_assoc, rst, rs, re, ra, rq, rx, ro, rl, rl2, rsp, rz, rix, rln, rg, rd, ri, rv, rk, rdd, rwi, at0, at1, at2, at3, upd_at, List.getElem?_cons_zero, List.getElem?_cons_succ, Option.some.injEq, exists_eq_left', exists_eq_left, List.set_cons_zero, List.set_cons_succ, true_and, and_true, HO.lst.injEq, HO.tup.injEq, exists_and_left, exists_eq, exists_eq', Br.t, Br.f, Be.t, Be.f, List.cons.injEq, List.append_nil, scal, if_true, if_false, ite_true, ite_false, eq_self_iff_true, decide_true, decide_false, Bool.not_true, Bool.not_false, reduceIte, List.nil_append, List.cons_append, reduceCtorEq, false_and, exists_false, false_or, or_false, Int.reduceLT, ral, rmd, rsq, rlu, rdp, Bool.true_or, Bool.false_or, Bool.or_false, Bool.or_true]
        refine Br.d (fun c3 => ?_) fun c3 => ?_
        · simp only [and_assoc, rst, rs, re, ra, rq, rx, ro, rl, rl2, rsp, rz, rix, rln, rg, rd, ri, rv, rk, rdd, rwi, at0, at1, at2, at3, upd_at, List.getElem?_cons_zero, List.getElem?_cons_succ, Option.some.injEq, exists_eq_left', exists_eq_left, List.set_cons_zero, List.set_cons_succ, true_and, and_true, HO.lst.injEq, HO.tup.injEq, exists_and_left, exists_eq, exists_eq', Br.t, Br.f, Be.t, Be.f, List.cons.injEq, List.append_nil, scal, if_true, if_false, ite_true, ite_false, eq_self_iff_true, decide_true, decide_false, Bool.not_true, Bool.not_false, reduceIte, List.nil_append, List.cons_append, reduceCtorEq, false_and, exists_false, false_or, or_false, Int.reduceLT, ral, rmd, rsq, rlu, rdp, Bool.true_or, Bool.false_or, Bool.or_false, Bool.or_true]
          have st := tot_ok hso
          have d1 : 1 ≤ m / s.tot := (Int.le_ediv_iff_mul_le (by omega)).mpr (by omega)
          have d2 : m / s.tot ≤ m := Int.ediv_le_self _ (by omega)
          refine ⟨_, rfl, s, by omega, ok_okS hso, Td.same wo_same hsd, ?_⟩
          refine ⟨_, rfl, wide_div (by omega) (b := 65) (by omega) (by decide) (by decide), _, _, _, rfl, p, m / s.tot, j, rfl, w2.1, by congr 1; omega, by omega, by omega, rfl, d1, by omega, fun v t H3 w4 hs' hto htt htd => ?_⟩
          have tsd : Td (wo p H3) s u := Td.same w4.2 hsd
          have w5 := Wl.trans w3 w4
          have tt := tot_ok hto
          refine ⟨_, rfl, s, by omega, ok_okS hso, Td.same wo_same tsd, _, rfl, t, by omega, ok_okS hto, Td.same wo_same htd, _, rfl, _, rfl, Br.d (fun c4 => ?_) fun c4 => ?_⟩
          · simp only [and_assoc, rst, rs, re, ra, rq, rx, ro, rl, rl2, rsp, rz, rix, rln, rg, rd, ri, rv, rk, rdd, rwi, at0, at1, at2, at3, upd_at, List.getElem?_cons_zero, List.getElem?_cons_succ, Option.some.injEq, exists_eq_left', exists_eq_left, List.set_cons_zero, List.set_cons_succ, true_and, and_true, HO.lst.injEq, HO.tup.injEq, exists_and_left, exists_eq, exists_eq', Br.t, Br.f, Be.t, Be.f, List.cons.injEq, List.append_nil, scal, if_true, if_false, ite_true, ite_false, eq_self_iff_true, decide_true, decide_false, Bool.not_true, Bool.not_false, reduceIte, List.nil_append, List.cons_append, reduceCtorEq, false_and, exists_false, false_or, or_false, Int.reduceLT, ral, rmd, rsq, rlu, rdp, Bool.true_or, Bool.false_or, Bool.or_false, Bool.or_true]
            intro g hg
            obtain ⟨ng, wg⟩ := newW (o := .tup [.str "below", .int 1]) w5.1 hg
            intro g2 hg2
            obtain ⟨ng2, wg2⟩ := newW (o := .tup [.str "pair", u, .ref g]) wg.1 hg2
            have tot1 : (Sh.pair s (.bound 1)).tot = s.tot := Int.mul_one _
            have hg3 : wo p (upd H3 g (.tup [.str "below", .int 1])) g = some (.tup [.str "below", .int 1]) := by
              rw [wo_at ng]
              exact upd_same
            refine q _ (.pair s (.bound 1)) _ (Wl.trans w5 (Wl.trans wg wg2)) ?_ ⟨hso, ⟨by decide, by decide⟩, by show s.tot * 1 ≤ _; omega⟩ (by rw [tot1]; exact hst) ⟨g2, u, .ref g, rfl, by rw [wo_at ng2]; exact upd_same, Td.same wg2.2 (Td.same wg.2 tsd), g, rfl, wg2.2 _ _ hg3⟩
            show 1 + max s.ht 0 ≤ j + 1
            omega
          · simp only [and_assoc, rst, rs, re, ra, rq, rx, ro, rl, rl2, rsp, rz, rix, rln, rg, rd, ri, rv, rk, rdd, rwi, at0, at1, at2, at3, upd_at, List.getElem?_cons_zero, List.getElem?_cons_succ, Option.some.injEq, exists_eq_left', exists_eq_left, List.set_cons_zero, List.set_cons_succ, true_and, and_true, HO.lst.injEq, HO.tup.injEq, exists_and_left, exists_eq, exists_eq', Br.t, Br.f, Be.t, Be.f, List.cons.injEq, List.append_nil, scal, if_true, if_false, ite_true, ite_false, eq_self_iff_true, decide_true, decide_false, Bool.not_true, Bool.not_false, reduceIte, List.nil_append, List.cons_append, reduceCtorEq, false_and, exists_false, false_or, or_false, Int.reduceLT, ral, rmd, rsq, rlu, rdp, Bool.true_or, Bool.false_or, Bool.or_false, Bool.or_true]
            intro g hg
            obtain ⟨ng, wg⟩ := newW (o := .tup [.str "pair", u, v]) w5.1 hg
            have mm : t.tot * s.tot ≤ m := (Int.le_ediv_iff_mul_le (by omega)).mp htt
            rw [Int.mul_comm] at mm
            refine q _ (.pair s t) _ (Wl.trans w5 wg) ?_ ⟨hso, hto, by omega⟩ mm ⟨g, u, v, rfl, by rw [wo_at ng]; exact upd_same, Td.same wg.2 tsd, Td.same wg.2 htd⟩
            show 1 + max s.ht t.ht ≤ j + 1
            omega
        · simp only [and_assoc, rst, rs, re, ra, rq, rx, ro, rl, rl2, rsp, rz, rix, rln, rg, rd, ri, rv, rk, rdd, rwi, at0, at1, at2, at3, upd_at, List.getElem?_cons_zero, List.getElem?_cons_succ, Option.some.injEq, exists_eq_left', exists_eq_left, List.set_cons_zero, List.set_cons_succ, true_and, and_true, HO.lst.injEq, HO.tup.injEq, exists_and_left, exists_eq, exists_eq', Br.t, Br.f, Be.t, Be.f, List.cons.injEq, List.append_nil, scal, if_true, if_false, ite_true, ite_false, eq_self_iff_true, decide_true, decide_false, Bool.not_true, Bool.not_false, reduceIte, List.nil_append, List.cons_append, reduceCtorEq, false_and, exists_false, false_or, or_false, Int.reduceLT, ral, rmd, rsq, rlu, rdp, Bool.true_or, Bool.false_or, Bool.or_false, Bool.or_true]
          intro d hd
          obtain ⟨nd, wd⟩ := newW (o := .lst [.int 4, .int 13]) w2.1 hd
          refine ⟨_, _, rfl, p, 2, rfl, wd.1, rfl, by decide, by decide, fun xc H3 a6 a7 b3 e3 => ?_⟩
          have hx : ∃ x : Int, 1 ≤ x ∧ x ≤ 13 ∧ atI [V.int 4, V.int 13] xc = some (.int x) := by
            have : xc = 0 ∨ xc = 1 := by omega
            rcases this with rfl | rfl
            · exact ⟨4, by decide, by decide, rfl⟩
            · exact ⟨13, by decide, by decide, rfl⟩
          obtain ⟨x, x0, x1, hx⟩ := hx
          refine ⟨_, (e3 d nd).trans upd_same, _, rfl, _, rfl, _, hx, _, _, rfl, p, x, rfl, b3, rfl, by omega, by omega, fun xy H4 a8 a9 b4 e4 => ?_⟩
          have w4 := Wl.trans wd (Wl.trans (Wl.draw b3 e3) (Wl.draw b4 e4))
          obtain ⟨y, rfl⟩ : ∃ y : Nat, xy = (y : Int) := ⟨xy.toNat, by omega⟩
          have st := tot_ok hso
          refine wh (fun i σ H' => Wl p H2 H' ∧ i ≤ 12 ∧ σ = [some (.ref p), some (.int (j + 1 : Nat)), some (.int m), some (.int r), some u, none, some (.int (i : Int))]) y ⟨w4, by omega, rfl⟩ ?_
          rintro i σ H' ⟨w5, hi, rfl⟩
          have ud : Td (wo p H') s u := Td.same w5.2 hsd
          simp only [and_assoc, rst, rs, re, ra, rq, rx, ro, rl, rl2, rsp, rz, rix, rln, rg, rd, ri, rv, rk, rdd, rwi, at0, at1, at2, at3, upd_at, List.getElem?_cons_zero, List.getElem?_cons_succ, Option.some.injEq, exists_eq_left', exists_eq_left, List.set_cons_zero, List.set_cons_succ, true_and, and_true, HO.lst.injEq, HO.tup.injEq, exists_and_left, exists_eq, exists_eq', Br.t, Br.f, Be.t, Be.f, List.cons.injEq, List.append_nil, scal, if_true, if_false, ite_true, ite_false, eq_self_iff_true, decide_true, decide_false, Bool.not_true, Bool.not_false, reduceIte, List.nil_append, List.cons_append, reduceCtorEq, false_and, exists_false, false_or, or_false, Int.reduceLT, ral, rmd, rsq, rlu, rdp, Bool.true_or, Bool.false_or, Bool.or_false, Bool.or_true]
          intro g hg
          obtain ⟨ng, wg⟩ := newW (o := .tup [.str "rows", u, .int (i : Int)]) w5.1 hg
          have tr : Td (upd H' g (.tup [.str "rows", u, .int (i : Int)])) (.rows s i) (.ref g) := ⟨g, u, rfl, upd_same, Td.same (Same.new hg) (Td.same wo_same ud)⟩
          have hh4 : (Sh.rows s i).ht < 4 := by
            show 1 + s.ht < 4
            omega
          refine ⟨_, rfl, .rows s i, hh4, ⟨hso, hi⟩, tr, _, rfl, Be.d (fun c4 => ?_) fun c4 => ?_⟩
          · refine Nx.go ?_
            have : i ≠ 0 := by
              rintro rfl
              have : (Sh.rows s 0).tot = 1 := Int.pow_zero _
              omega
            obtain ⟨l, rfl⟩ : ∃ l, i = l + 1 := ⟨i - 1, by omega⟩
            simp only [and_assoc, rst, rs, re, ra, rq, rx, ro, rl, rl2, rsp, rz, rix, rln, rg, rd, ri, rv, rk, rdd, rwi, at0, at1, at2, at3, upd_at, List.getElem?_cons_zero, List.getElem?_cons_succ, Option.some.injEq, exists_eq_left', exists_eq_left, List.set_cons_zero, List.set_cons_succ, true_and, and_true, HO.lst.injEq, HO.tup.injEq, exists_and_left, exists_eq, exists_eq', Br.t, Br.f, Be.t, Be.f, List.cons.injEq, List.append_nil, scal, if_true, if_false, ite_true, ite_false, eq_self_iff_true, decide_true, decide_false, Bool.not_true, Bool.not_false, reduceIte, List.nil_append, List.cons_append, reduceCtorEq, false_and, exists_false, false_or, or_false, Int.reduceLT, ral, rmd, rsq, rlu, rdp, Bool.true_or, Bool.false_or, Bool.or_false, Bool.or_true]
            exact ⟨l, by omega, Wl.trans w5 wg, by omega, by omega⟩
          · intro g2 hg2
            obtain ⟨ng2, wg2⟩ := newW (o := .tup [.str "rows", u, .int (i : Int)]) wg.1 hg2
            have tr2 : Td (upd (upd H' g (.tup [.str "rows", u, .int (i : Int)])) g2 (.tup [.str "rows", u, .int (i : Int)])) (.rows s i) (.ref g2) := ⟨g2, u, rfl, upd_same, Td.same (Same.new hg2) (Td.same (Same.new hg) (Td.same wo_same ud))⟩
            refine ⟨_, rfl, .rows s i, hh4, ⟨hso, hi⟩, tr2, _, rfl, Br.d (fun c5 => ?_) fun c5 => ?_⟩
            · refine Nx.go ?_
              have : i ≠ 0 := by
                rintro rfl
                have : wgt (.rows s 0) = 1 := by
                  show 1 + wgt s * ((0 : Nat) : Int) = 1
                  simp
                omega
              obtain ⟨l, rfl⟩ : ∃ l, i = l + 1 := ⟨i - 1, by omega⟩
              simp only [and_assoc, rst, rs, re, ra, rq, rx, ro, rl, rl2, rsp, rz, rix, rln, rg, rd, ri, rv, rk, rdd, rwi, at0, at1, at2, at3, upd_at, List.getElem?_cons_zero, List.getElem?_cons_succ, Option.some.injEq, exists_eq_left', exists_eq_left, List.set_cons_zero, List.set_cons_succ, true_and, and_true, HO.lst.injEq, HO.tup.injEq, exists_and_left, exists_eq, exists_eq', Br.t, Br.f, Be.t, Be.f, List.cons.injEq, List.append_nil, scal, if_true, if_false, ite_true, ite_false, eq_self_iff_true, decide_true, decide_false, Bool.not_true, Bool.not_false, reduceIte, List.nil_append, List.cons_append, reduceCtorEq, false_and, exists_false, false_or, or_false, Int.reduceLT, ral, rmd, rsq, rlu, rdp, Bool.true_or, Bool.false_or, Bool.or_false, Bool.or_true]
              exact ⟨l, by omega, Wl.trans w5 (Wl.trans wg wg2), by omega, by omega⟩
            · simp only [and_assoc, rst, rs, re, ra, rq, rx, ro, rl, rl2, rsp, rz, rix, rln, rg, rd, ri, rv, rk, rdd, rwi, at0, at1, at2, at3, upd_at, List.getElem?_cons_zero, List.getElem?_cons_succ, Option.some.injEq, exists_eq_left', exists_eq_left, List.set_cons_zero, List.set_cons_succ, true_and, and_true, HO.lst.injEq, HO.tup.injEq, exists_and_left, exists_eq, exists_eq', Br.t, Br.f, Be.t, Be.f, List.cons.injEq, List.append_nil, scal, if_true, if_false, ite_true, ite_false, eq_self_iff_true, decide_true, decide_false, Bool.not_true, Bool.not_false, reduceIte, List.nil_append, List.cons_append, reduceCtorEq, false_and, exists_false, false_or, or_false, Int.reduceLT, ral, rmd, rsq, rlu, rdp, Bool.true_or, Bool.false_or, Bool.or_false, Bool.or_true]
              intro g3 hg3
              obtain ⟨ng3, wg3⟩ := newW (o := .tup [.str "rows", u, .int (i : Int)]) wg2.1 hg3
              have tm : s.tot ^ i ≤ m := by
                have : (Sh.rows s i).tot = s.tot ^ i := rfl
                omega
              refine q _ (.rows s i) _ (Wl.trans w3 (Wl.trans w5 (Wl.trans wg (Wl.trans wg2 wg3)))) ?_ ⟨hso, hi, by omega⟩ tm ⟨g3, u, rfl, by rw [wo_at ng3]; exact upd_same, Td.same wg3.2 (Td.same wg2.2 (Td.same wg.2 ud))⟩
              show 1 + s.ht ≤ j + 1
              omega
end
end Law

namespace Law
open PySem PySem.Spec PyProof.Rows L2 Sw
theorem sql_same {K : Fg} {H H' : Hp} {a : Addr} {xs : List V} (s : Same H H') (h : SqL K H a xs) : SqL K H' a xs := h.imp (fun r => r.imp (s _ _) fun ⟨o, e⟩ => ⟨o, s _ _ e⟩) id
theorem All2.both {α β : Type} {R S : α → β → Prop} {T : β → β → Prop} (h : ∀ a b c, R a b → S a c → T b c) : ∀ {l : List α} {m n : List β}, All2 R l m → All2 S l n → All2 T m n
  | [], [], [], _, _ => True.intro
  | _ :: _, _ :: _, _ :: _, ⟨x, y⟩, ⟨x2, y2⟩ => ⟨h _ _ _ x x2, All2.both h y y2⟩
  | [], _ :: _, _, x, _ => x.elim
  | [], [], _ :: _, _, x => x.elim
  | _ :: _, [], _, x, _ => x.elim
  | _ :: _, _ :: _, [], _, x => x.elim
theorem ordGo_len : ∀ (k : Nat) (z : Int) (l : List Int), (ordGo k z l).length = k
  | 0, _, _ => rfl
  | k + 1, z, l => by
    show (_ :: ordGo k _ _).length = k + 1
    rw [List.length_cons, ordGo_len k]
theorem setTo_len (n k : Nat) (z : Int) : ∀ i, (setTo n k z i).2.length ≤ i
  | 0 => Nat.le_refl 0
  | i + 1 => by
    have h := setTo_len n k z i
    show (setStep n k (setTo n k z i) i).2.length ≤ i + 1
    unfold setStep
    split
    · split
      · show (_ ++ [_]).length ≤ _
        rw [List.length_append, List.length_singleton]
        omega
      · show (setTo n k z i).2.length ≤ i + 1
        omega
    · omega
theorem Li.up {H : Hp} : ∀ {n : Nat} {v u : V}, Li H n v u → Li H (n + 1) v u
  | 0, _, _, h => h.elim
  | n + 1, _, _, .inl h => .inl h
  | n + 1, _, _, .inr ⟨p, q, xs, ys, e1, e2, h1, h2, l, al⟩ => .inr ⟨p, q, xs, ys, e1, e2, h1, h2, l, All2.imp (fun _ _ k => Li.up (n := n) k) al⟩
theorem Li.upTo {H : Hp} {v u : V} : ∀ {n m : Nat}, n ≤ m → Li H n v u → Li H m v u
  | n, 0, h, k => by
    obtain rfl : n = 0 := by omega
    exact k
  | n, m + 1, h, k => by
    rcases Nat.lt_or_ge n (m + 1) with c | c
    · exact Li.up (Li.upTo (by omega) k)
    · obtain rfl : n = m + 1 := by omega
      exact k
theorem Li.same {H H' : Hp} (s : Same H H') : ∀ {n : Nat} {v u : V}, Li H n v u → Li H' n v u
  | 0, _, _, h => h
  | n + 1, _, _, .inl h => .inl h
  | n + 1, _, _, .inr ⟨p, q, xs, ys, e1, e2, h1, h2, l, al⟩ => .inr ⟨p, q, xs, ys, e1, e2, s _ _ h1, s _ _ h2, l, All2.imp (fun _ _ k => Li.same s (n := n) k) al⟩
theorem li_int {H : Hp} {z : Int} : Li H 1 (.int z) (.int z) := .inl ⟨z, rfl, rfl⟩
theorem li_ints {H : Hp} : ∀ ns : List Int, All2 (Li H 1) (ns.map V.int) (ns.map V.int)
  | [] => True.intro
  | _ :: r => ⟨li_int, li_ints r⟩
theorem rp_li {H : Hp} : ∀ {sh : Sh} {z : Int} {v u : V}, sh.ok → Rp H sh z v → Rp H sh z u → Li H (sh.ht + 2) v u
  | .bound _, z, v, u, _, h1, h2 => by
    rw [show v = .int z from h1, show u = .int z from h2]
    exact Li.upTo (by show 1 ≤ _; omega) li_int
  | .shares ps, z, v, u, _, h1, h2 => by
    rw [show v = .int (shGo ps z : Nat) from h1, show u = .int (shGo ps z : Nat) from h2]
    exact Li.upTo (by show 1 ≤ _; omega) li_int
  | .orders n, z, v, u, ok, ⟨p, e, h⟩, ⟨q, e2, h2⟩ => .inr ⟨p, q, _, _, e, e2, h, h2, by
      have : n ≤ 20 := ok
      rw [List.length_map]
      show (ordGo _ _ _).length ≤ 60
      rw [ordGo_len]
      omega, li_ints _⟩
  | .sets n k, z, v, u, ok, ⟨p, e, h⟩, ⟨q, e2, h2⟩ => .inr ⟨p, q, _, _, e, e2, h, h2, by
      have : n ≤ 60 := ok.1
      rw [List.length_map]
      have := setTo_len n k z n
      show (setTo n k z n).2.length ≤ 60
      omega, li_ints _⟩
  | .pair a b, z, v, u, ok, ⟨p, x, y, e, h, h1, h2⟩, ⟨q, x', y', e2, h', h1', h2'⟩ => by
    have k1 := rp_li (sh := a) ok.1 h1 h1'
    have k2 := rp_li (sh := b) ok.2.1 h2 h2'
    refine Li.upTo (n := (max a.ht b.ht + 2) + 1) (by show _ ≤ 1 + max a.ht b.ht + 2; omega) (.inr ⟨p, q, _, _, e, e2, h, h', by show 2 ≤ 60; decide, Li.upTo (by omega) k1, Li.upTo (by omega) k2, True.intro⟩)
  | .rows a n, z, v, u, ok, ⟨p, xs, e, h, h1⟩, ⟨q, ys, e2, h', h1'⟩ => by
    have ll := h1.len
    rw [dig_len] at ll
    have := ok.2.1
    refine Li.upTo (n := (a.ht + 2) + 1) (by show _ ≤ 1 + a.ht + 2; omega) (.inr ⟨p, q, _, _, e, e2, h, h', by omega, All2.both (R := Rp H a) (S := Rp H a) (T := Li H (a.ht + 2)) (fun _ _ _ k1 k2 => rp_li (sh := a) ok.1 k1 k2) h1 h1'⟩)
end Law

-- RDX ral, rmd, rsq, rlu, rdp, rrp, Bool.true_or, Bool.false_or, Bool.or_false, Bool.or_true
namespace Law
open PySem PySem.Spec PyProof.Rows L2 Sw
section
variable {P : Program} {w : World} {K : Fg} {mg : Str → Option Value} {base : Heap}
theorem rz__law_same {H : Hp} {v u : V} {Q : VK} (h : Li H 0 v u ∧ ∀ H', Same H H' → Q (.bl true) H') : False := h.1
theorem okn__law_same (T : Tx K mg w) (c__law_is_whole : Cal P w K mg base 1 "_law_is_whole" ["thing"] (sp__law_is_whole K)) : ∀ n, Cal P w K mg base (2 + n) "_law_same" ["found", "due"] (spn__law_same K n) := by
  intro n
  induction n with
  | zero =>
    refine cal_mk T.F__law_same T.g__law_same sc__law_same (len2 _) (fun _ _ _ _ _ _ us hl => match us, hl with | [_, _], _ => rfl) (fun cdv A outer s H vs Q E hr h => ?_)
    obtain ⟨v0, v1, rfl, h⟩ := h
    exact (rz__law_same h).elim
  | succ n c__law_same =>
    refine cal_mk T.F__law_same T.g__law_same sc__law_same (len2 _) (fun _ _ _ _ _ _ us hl => match us, hl with | [_, _], _ => rfl) (fun cdv A outer s H vs Q E hr h => ?_)
    obtain ⟨v0, v1, rfl, h⟩ := h
    have hu := hu_of hr.r
    refine ⟨_, (pss_cons (ps_if (pt_not (pt_val (pe_callB is_q (by rfl) T.n_isinstance (by decide +kernel) (pa_cons (pv 1) (pa_cons (pe_bltn (v := .ty "tuple") (by rfl) T.n_tuple (by decide +kernel) rfl) pa_nil))))) (pss_one (ps_ret (pe_and (pe_cal c__law_is_whole hr (Nat.le_trans (by decide : 1 ≤ 2) (Nat.le_add_right _ _)) passL rfl (pa_cons (pv 0) pa_nil)) (pe_one (pe_cmpR (op_eqA hr.units) (pv 0) (pv 1) (nomark _)))))) pss_nil)
      (pss_cons (ps_if (PW.pt (pw_or (pt_not (pt_val (pe_callB is_q (by rfl) T.n_isinstance (by decide +kernel) (pa_cons (pv 0) (pa_cons (pe_bltn (v := .ty "tuple") (by rfl) T.n_tuple (by decide +kernel) rfl) pa_nil))))) (pw_or1 (pt_cmpR op_ne (pe_callB len_q (by rfl) T.n_len (by decide +kernel) (pa_cons (pv 0) pa_nil)) (pe_callB len_q (by rfl) T.n_len (by decide +kernel) (pa_cons (pv 1) pa_nil)) (nomark _))))) (pss_one (ps_ret pe_bl)) pss_nil)
      (pss_one (ps_ret (pe_cmpR (op_eqA hr.units) (pe_lc (own := [("k", 2)]) (g := (gName 2)) rfl sc__law_same.nd (pi_range1 (by rfl) T.n_range (pa_cons (pe_callB len_q (by rfl) T.n_len (by decide +kernel) (pa_cons (pv 1) pa_nil)) pa_nil)) (blkOk_by (N := nm__law_same) (sc := defScope s__law_same) (by decide +kernel)) (fun _ _ _ _ _ => (pg_name (i := 2) sc__law_same.nd rfl (Or.inl rfl))) (fun _ _ _ _ _ => (pts_one (pt_not (pt_val (pe_cal c__law_same hr (Nat.le_refl _) passL rfl (pa_cons (pe_ix ix_q (pv 0) (pv 2) (fun _ _ => rfl)) (pa_cons (pe_ix ix_q (pv 1) (pv 2) (fun _ _ => rfl)) pa_nil))))))) (fun _ _ _ _ _ => (pv 2))) (pe_lst pa_nil) (nomark _)))))), ?_⟩
    obtain ⟨lk, q⟩ := h
    rcases lk with ⟨z, rfl, rfl⟩ | ⟨p, r, xs, ys, rfl, rfl, hp, hr', hl, al⟩
    · simp only [and_assoc, rst, rs, re, ra, rq, rx, ro, rl, rl2, rsp, rz, rix, rln, rg, rd, ri, rv, rk, rdd, rwi, at0, at1, at2, at3, upd_at, List.getElem?_cons_zero, List.getElem?_cons_succ, Option.some.injEq, exists_eq_left', exists_eq_left, List.set_cons_zero, List.set_cons_succ, true_and, and_true, HO.lst.injEq, HO.tup.injEq, exists_and_left, exists_eq, exists_eq', Br.t, Br.f, Be.t, Be.f, List.cons.injEq, List.append_nil, scal, if_true, if_false, ite_true, ite_false, eq_self_iff_true, decide_true, decide_false, Bool.not_true, Bool.not_false, reduceIte, List.nil_append, List.cons_append, reduceCtorEq, false_and, exists_false, false_or, or_false, Int.reduceLT, ral, rmd, rsq, rlu, rdp, rrp, Bool.true_or, Bool.false_or, Bool.or_false, Bool.or_true]
      refine ⟨_, (ki z H).2.2.2.2.1, ?_⟩
      simp only [and_assoc, rst, rs, re, ra, rq, rx, ro, rl, rl2, rsp, rz, rix, rln, rg, rd, ri, rv, rk, rdd, rwi, at0, at1, at2, at3, upd_at, List.getElem?_cons_zero, List.getElem?_cons_succ, Option.some.injEq, exists_eq_left', exists_eq_left, List.set_cons_zero, List.set_cons_succ, true_and, and_true, HO.lst.injEq, HO.tup.injEq, exists_and_left, exists_eq, exists_eq', Br.t, Br.f, Be.t, Be.f, List.cons.injEq, List.append_nil, scal, if_true, if_false, ite_true, ite_false, eq_self_iff_true, decide_true, decide_false, Bool.not_true, Bool.not_false, reduceIte, List.nil_append, List.cons_append, reduceCtorEq, false_and, exists_false, false_or, or_false, Int.reduceLT, ral, rmd, rsq, rlu, rdp, rrp, Bool.true_or, Bool.false_or, Bool.or_false, Bool.or_true]
      refine ⟨_, rfl, ⟨_, rfl⟩, ?_⟩
      simp only [and_assoc, rst, rs, re, ra, rq, rx, ro, rl, rl2, rsp, rz, rix, rln, rg, rd, ri, rv, rk, rdd, rwi, at0, at1, at2, at3, upd_at, List.getElem?_cons_zero, List.getElem?_cons_succ, Option.some.injEq, exists_eq_left', exists_eq_left, List.set_cons_zero, List.set_cons_succ, true_and, and_true, HO.lst.injEq, HO.tup.injEq, exists_and_left, exists_eq, exists_eq', Br.t, Br.f, Be.t, Be.f, List.cons.injEq, List.append_nil, scal, if_true, if_false, ite_true, ite_false, eq_self_iff_true, decide_true, decide_false, Bool.not_true, Bool.not_false, reduceIte, List.nil_append, List.cons_append, reduceCtorEq, false_and, exists_false, false_or, or_false, Int.reduceLT, ral, rmd, rsq, rlu, rdp, rrp, Bool.true_or, Bool.false_or, Bool.or_false, Bool.or_true, show whole (.int z) = true from rfl]
      exact eqA_self (.inl ⟨_, .int z, rfl, Nat.zero_le _⟩) (q _ (fun _ _ e => e))
    · have kb := kindB hr' rfl
      have ka := kindB hp rfl
      have el := al.len
      simp only [and_assoc, rst, rs, re, ra, rq, rx, ro, rl, rl2, rsp, rz, rix, rln, rg, rd, ri, rv, rk, rdd, rwi, at0, at1, at2, at3, upd_at, List.getElem?_cons_zero, List.getElem?_cons_succ, Option.some.injEq, exists_eq_left', exists_eq_left, List.set_cons_zero, List.set_cons_succ, true_and, and_true, HO.lst.injEq, HO.tup.injEq, exists_and_left, exists_eq, exists_eq', Br.t, Br.f, Be.t, Be.f, List.cons.injEq, List.append_nil, scal, if_true, if_false, ite_true, ite_false, eq_self_iff_true, decide_true, decide_false, Bool.not_true, Bool.not_false, reduceIte, List.nil_append, List.cons_append, reduceCtorEq, false_and, exists_false, false_or, or_false, Int.reduceLT, ral, rmd, rsq, rlu, rdp, rrp, Bool.true_or, Bool.false_or, Bool.or_false, Bool.or_true]
      refine ⟨_, kb.2.2.2.2.2, ?_⟩
      simp only [and_assoc, rst, rs, re, ra, rq, rx, ro, rl, rl2, rsp, rz, rix, rln, rg, rd, ri, rv, rk, rdd, rwi, at0, at1, at2, at3, upd_at, List.getElem?_cons_zero, List.getElem?_cons_succ, Option.some.injEq, exists_eq_left', exists_eq_left, List.set_cons_zero, List.set_cons_succ, true_and, and_true, HO.lst.injEq, HO.tup.injEq, exists_and_left, exists_eq, exists_eq', Br.t, Br.f, Be.t, Be.f, List.cons.injEq, List.append_nil, scal, if_true, if_false, ite_true, ite_false, eq_self_iff_true, decide_true, decide_false, Bool.not_true, Bool.not_false, reduceIte, List.nil_append, List.cons_append, reduceCtorEq, false_and, exists_false, false_or, or_false, Int.reduceLT, ral, rmd, rsq, rlu, rdp, rrp, Bool.true_or, Bool.false_or, Bool.or_false, Bool.or_true]
      refine ⟨_, ka.2.2.2.2.2, ?_⟩
      simp only [and_assoc, rst, rs, re, ra, rq, rx, ro, rl, rl2, rsp, rz, rix, rln, rg, rd, ri, rv, rk, rdd, rwi, at0, at1, at2, at3, upd_at, List.getElem?_cons_zero, List.getElem?_cons_succ, Option.some.injEq, exists_eq_left', exists_eq_left, List.set_cons_zero, List.set_cons_succ, true_and, and_true, HO.lst.injEq, HO.tup.injEq, exists_and_left, exists_eq, exists_eq', Br.t, Br.f, Be.t, Be.f, List.cons.injEq, List.append_nil, scal, if_true, if_false, ite_true, ite_false, eq_self_iff_true, decide_true, decide_false, Bool.not_true, Bool.not_false, reduceIte, List.nil_append, List.cons_append, reduceCtorEq, false_and, exists_false, false_or, or_false, Int.reduceLT, ral, rmd, rsq, rlu, rdp, rrp, Bool.true_or, Bool.false_or, Bool.or_false, Bool.or_true, hp, hr']
      refine Br.n (fun c => absurd (by rw [el]) c) fun _ => ?_
      simp only [and_assoc, rst, rs, re, ra, rq, rx, ro, rl, rl2, rsp, rz, rix, rln, rg, rd, ri, rv, rk, rdd, rwi, at0, at1, at2, at3, upd_at, List.getElem?_cons_zero, List.getElem?_cons_succ, Option.some.injEq, exists_eq_left', exists_eq_left, List.set_cons_zero, List.set_cons_succ, true_and, and_true, HO.lst.injEq, HO.tup.injEq, exists_and_left, exists_eq, exists_eq', Br.t, Br.f, Be.t, Be.f, List.cons.injEq, List.append_nil, scal, if_true, if_false, ite_true, ite_false, eq_self_iff_true, decide_true, decide_false, Bool.not_true, Bool.not_false, reduceIte, List.nil_append, List.cons_append, reduceCtorEq, false_and, exists_false, false_or, or_false, Int.reduceLT, ral, rmd, rsq, rlu, rdp, rrp, Bool.true_or, Bool.false_or, Bool.or_false, Bool.or_true, hr']
      refine ⟨by omega, by omega, ?_⟩
      rw [Int.toNat_natCast]
      refine LC.rng (fun D i H' => Same H H' ∧ H' D = some (.lst [])) (fun D hD => ⟨Same.new hD, upd_same⟩) ?_ ?_
      · rintro D i H' hD hi ⟨s, hd⟩
        obtain ⟨a, b, ha, hb, k⟩ := al.at (i := i) (by omega)
        have g1 : atI xs (i : Int) = some a := atI_nat ha
        have g2 : atI ys (i : Int) = some b := atI_nat hb
        simp only [and_assoc, rst, rs, re, ra, rq, rx, ro, rl, rl2, rsp, rz, rix, rln, rg, rd, ri, rv, rk, rdd, rwi, at0, at1, at2, at3, upd_at, List.getElem?_cons_zero, List.getElem?_cons_succ, Option.some.injEq, exists_eq_left', exists_eq_left, List.set_cons_zero, List.set_cons_succ, true_and, and_true, HO.lst.injEq, HO.tup.injEq, exists_and_left, exists_eq, exists_eq', Br.t, Br.f, Be.t, Be.f, List.cons.injEq, List.append_nil, scal, if_true, if_false, ite_true, ite_false, eq_self_iff_true, decide_true, decide_false, Bool.not_true, Bool.not_false, reduceIte, List.nil_append, List.cons_append, reduceCtorEq, false_and, exists_false, false_or, or_false, Int.reduceLT, ral, rmd, rsq, rlu, rdp, rrp, Bool.true_or, Bool.false_or, Bool.or_false, Bool.or_true, s _ _ hp, s _ _ hr']
        refine ⟨a, by rw [Int.zero_add]; exact g1, b, by rw [Int.zero_add]; exact g2, ?_⟩
        refine ⟨_, _, rfl, k.same s, fun H2 s2 => ?_⟩
        simp only [and_assoc, rst, rs, re, ra, rq, rx, ro, rl, rl2, rsp, rz, rix, rln, rg, rd, ri, rv, rk, rdd, rwi, at0, at1, at2, at3, upd_at, List.getElem?_cons_zero, List.getElem?_cons_succ, Option.some.injEq, exists_eq_left', exists_eq_left, List.set_cons_zero, List.set_cons_succ, true_and, and_true, HO.lst.injEq, HO.tup.injEq, exists_and_left, exists_eq, exists_eq', Br.t, Br.f, Be.t, Be.f, List.cons.injEq, List.append_nil, scal, if_true, if_false, ite_true, ite_false, eq_self_iff_true, decide_true, decide_false, Bool.not_true, Bool.not_false, reduceIte, List.nil_append, List.cons_append, reduceCtorEq, false_and, exists_false, false_or, or_false, Int.reduceLT, ral, rmd, rsq, rlu, rdp, rrp, Bool.true_or, Bool.false_or, Bool.or_false, Bool.or_true]
        exact ⟨Same.trans s s2, s2 _ _ hd⟩
      · rintro D H' hD ⟨s, hd⟩
        exact fun p hp => .inl (eq_ints (ns := []) (ms := []) (SqL.of (Same.new hp _ _ hd)) (SqL.of upd_same) (q _ (Same.trans s (Same.new hp))))
theorem Bd.same {H H' : Hp} (s : Same H H') {v : V} (h : Bd K H v) : Bd K H' v := ⟨h.1.same s, let ⟨d, n, h1, h2⟩ := h.2; ⟨d, n, h1.same s, h2⟩⟩
theorem ok__law_refused (T : Tx K mg w) (c_ref_Orders : CalM P w K mg base 7 "Orders" "outcome" ["self", "number"] (sp_ref_Orders K)) (c_ref_Shares : CalM P w K mg base 9 "Shares" "outcome" ["self", "number"] (sp_ref_Shares K)) (c_ref_Sets : CalM P w K mg base 8 "Sets" "outcome" ["self", "number"] (sp_ref_Sets K)) (c_ref_Rows : CalM P w K mg base 11 "Rows" "outcome" ["self", "number"] (sp_ref_Rows K)) (c_ref_Below : CalM P w K mg base 5 "Below" "outcome" ["self", "number"] (sp_ref_Below K)) (c_ref_Pair : CalM P w K mg base 11 "Pair" "outcome" ["self", "number"] (sp_ref_Pair K))  : Cal P w K mg base 12 "_law_refused" ["shape", "thing"] (sp__law_refused K) := by
  refine cal_mk T.F__law_refused T.g__law_refused sc__law_refused (len2 _) (fun _ _ _ _ _ _ us hl => match us, hl with | [_, _], _ => rfl) (fun cdv A outer s H vs Q E hr h => ?_)
  obtain ⟨v0, v1, rfl, h⟩ := h
  have hu := hu_of hr.r
  have D0 := ((Disp.cons c_ref_Below (by decide) (Disp.cons c_ref_Shares (by decide) (Disp.cons c_ref_Orders (by decide) (Disp.cons c_ref_Sets (by decide) (Disp.cons c_ref_Pair (by decide) (Disp.cons c_ref_Rows (by decide) Disp.nil)))))) : Disp P w K mg base (11) "outcome" _)
  refine ⟨_, (pss_cons (ps_try_ases (i := 2) (tb := _) (Wz := fun _ _ _ _ => False) rfl rfl sc__law_refused.nd rfl rfl takes0
        (fun W pn xe tk _ => (pss_one (ps_expr (pe_mthD (K := K) rfl D0 hr tk (pv 0) (pa_cons (pv 1) pa_nil)))))
        (.cons ⟨rfl, by decide, Or.inl T.g_NoNumber⟩ (fun a oe cls d pn hz hf => (pss_one (ps_ret (pe_lstA (pa_cons pe_str (pa_cons (pe_exf T.x_NoNumber T.a_NoNumber_found hz hf (pv 2)) pa_nil)))))) (.bare ⟨rfl, by decide, Or.inl T.g_SeedError⟩ (fun a oe cls d pn hz hf => (pss_one (ps_ret (pe_lstA (pa_cons pe_str (pa_cons pe_non pa_nil)))))) .nil)))
      (pss_one (ps_ret (pe_lstA (pa_cons pe_str (pa_cons pe_non pa_nil)))))), ?_⟩
  obtain ⟨sh, ho, ty, hw, q⟩ := h
  obtain ⟨a, dx, fs, rfl, ha, _, _, n1, n2, n3, n4, n5⟩ := id ho.any
  simp only [and_assoc, rst, rs, re, ra, rq, rx, ro, rl, rl2, rsp, rz, rix, rln, rg, rd, ri, rv, rk, rdd, rwi, at0, at1, at2, at3, upd_at, List.getElem?_cons_zero, List.getElem?_cons_succ, Option.some.injEq, exists_eq_left', exists_eq_left, List.set_cons_zero, List.set_cons_succ, true_and, and_true, HO.lst.injEq, HO.tup.injEq, exists_and_left, exists_eq, exists_eq', Br.t, Br.f, Be.t, Be.f, List.cons.injEq, List.append_nil, scal, if_true, if_false, ite_true, ite_false, eq_self_iff_true, decide_true, decide_false, Bool.not_true, Bool.not_false, reduceIte, List.nil_append, List.cons_append, reduceCtorEq, false_and, exists_false, false_or, or_false, Int.reduceLT, ral, rmd, rsq, rlu, rdp, rrp, Bool.true_or, Bool.false_or, Bool.or_false, Bool.or_true]
  refine ⟨kindOf sh, spRef (kindOf sh) K, mem_ref6 sh, dx, fs, ha, n3, ?_⟩
  refine ⟨_, _, rfl, sh, rfl, ho, ty, hw, ?_⟩
  intro H' d s nd
  refine ⟨true, T.exm_NoNumber_NoNumber, fun _ z hz => ?_, nofun⟩
  simp only [and_assoc, rst, rs, re, ra, rq, rx, ro, rl, rl2, rsp, rz, rix, rln, rg, rd, ri, rv, rk, rdd, rwi, at0, at1, at2, at3, upd_at, List.getElem?_cons_zero, List.getElem?_cons_succ, Option.some.injEq, exists_eq_left', exists_eq_left, List.set_cons_zero, List.set_cons_succ, true_and, and_true, HO.lst.injEq, HO.tup.injEq, exists_and_left, exists_eq, exists_eq', Br.t, Br.f, Be.t, Be.f, List.cons.injEq, List.append_nil, scal, if_true, if_false, ite_true, ite_false, eq_self_iff_true, decide_true, decide_false, Bool.not_true, Bool.not_false, reduceIte, List.nil_append, List.cons_append, reduceCtorEq, false_and, exists_false, false_or, or_false, Int.reduceLT, ral, rmd, rsq, rlu, rdp, rrp, Bool.true_or, Bool.false_or, Bool.or_false, Bool.or_true]
  refine ⟨_, rfl, _, rfl, fun p H2 al => ?_⟩
  exact q _ _ (Same.trans s (Same.trans (Same.new nd) al.s)) (Same.free (Same.trans s (Same.new nd)) al.f) al.e
theorem rz__law_height {H : Hp} {x : V} {Q : VK} (h : ∃ sh : Sh, sh.ht < 0 ∧ Td H sh x ∧ Q (.int (sh.ht : Nat)) H) : False := by
  obtain ⟨sh, h, _⟩ := h
  omega
theorem okn__law_height (T : Tx K mg w)  : ∀ n, Cal P w K mg base (1 + n) "_law_height" ["told"] (spn__law_height K n) := by
  intro n
  induction n with
  | zero =>
    refine cal_mk T.F__law_height T.g__law_height sc__law_height (len1 _) (fun _ _ _ _ _ _ us hl => match us, hl with | [_], _ => rfl) (fun cdv A outer s H vs Q E hr h => ?_)
    obtain ⟨v0, rfl, h⟩ := h
    exact (rz__law_height h).elim
  | succ n c__law_height =>
    refine cal_mk T.F__law_height T.g__law_height sc__law_height (len1 _) (fun _ _ _ _ _ _ us hl => match us, hl with | [_], _ => rfl) (fun cdv A outer s H vs Q E hr h => ?_)
    obtain ⟨v0, rfl, h⟩ := h
    have hu := hu_of hr.r
    refine ⟨_, (pss_cons (ps_if (pt_cmpR op_eq (pe_ix ix_q (pv 0) pe_int (fun _ _ => rfl)) pe_str (nomark _)) (pss_one (ps_ret (pe_op op_add pe_int (pe_callB (call_max2 rfl) (by rfl) T.n_max (by decide +kernel) (pa_cons (pe_cal c__law_height hr (Nat.le_refl _) passL rfl (pa_cons (pe_ix ix_q (pv 0) pe_int (fun _ _ => rfl)) pa_nil)) (pa_cons (pe_cal c__law_height hr (Nat.le_refl _) passL rfl (pa_cons (pe_ix ix_q (pv 0) pe_int (fun _ _ => rfl)) pa_nil)) pa_nil)))))) pss_nil)
      (pss_cons (ps_if (pt_cmpR op_eq (pe_ix ix_q (pv 0) pe_int (fun _ _ => rfl)) pe_str (nomark _)) (pss_one (ps_ret (pe_op op_add pe_int (pe_cal c__law_height hr (Nat.le_refl _) passL rfl (pa_cons (pe_ix ix_q (pv 0) pe_int (fun _ _ => rfl)) pa_nil))))) pss_nil)
      (pss_one (ps_ret pe_int)))), ?_⟩
    obtain ⟨sh, hh, ht, q⟩ := h
    cases sh with
    | pair s t =>
      obtain ⟨p, x, y, rfl, hp, hx, hy⟩ := ht
      have hh2 : 1 + max s.ht t.ht < n + 1 := hh
      simp only [and_assoc, rst, rs, re, ra, rq, rx, ro, rl, rl2, rsp, rz, rix, rln, rg, rd, ri, rv, rk, rdd, rwi, at0, at1, at2, at3, upd_at, List.getElem?_cons_zero, List.getElem?_cons_succ, Option.some.injEq, exists_eq_left', exists_eq_left, List.set_cons_zero, List.set_cons_succ, true_and, and_true, HO.lst.injEq, HO.tup.injEq, exists_and_left, exists_eq, exists_eq', Br.t, Br.f, Be.t, Be.f, List.cons.injEq, List.append_nil, scal, if_true, if_false, ite_true, ite_false, eq_self_iff_true, decide_true, decide_false, Bool.not_true, Bool.not_false, reduceIte, List.nil_append, List.cons_append, reduceCtorEq, false_and, exists_false, false_or, or_false, Int.reduceLT, ral, rmd, rsq, rlu, rdp, rrp, Bool.true_or, Bool.false_or, Bool.or_false, Bool.or_true, hp]
      refine ⟨_, rfl, s, by omega, hx, ?_⟩
      simp only [and_assoc, rst, rs, re, ra, rq, rx, ro, rl, rl2, rsp, rz, rix, rln, rg, rd, ri, rv, rk, rdd, rwi, at0, at1, at2, at3, upd_at, List.getElem?_cons_zero, List.getElem?_cons_succ, Option.some.injEq, exists_eq_left', exists_eq_left, List.set_cons_zero, List.set_cons_succ, true_and, and_true, HO.lst.injEq, HO.tup.injEq, exists_and_left, exists_eq, exists_eq', Br.t, Br.f, Be.t, Be.f, List.cons.injEq, List.append_nil, scal, if_true, if_false, ite_true, ite_false, eq_self_iff_true, decide_true, decide_false, Bool.not_true, Bool.not_false, reduceIte, List.nil_append, List.cons_append, reduceCtorEq, false_and, exists_false, false_or, or_false, Int.reduceLT, ral, rmd, rsq, rlu, rdp, rrp, Bool.true_or, Bool.false_or, Bool.or_false, Bool.or_true, hp]
      refine ⟨_, rfl, t, by omega, hy, ?_⟩
      have eh : (1 + if (t.ht : Int) > (s.ht : Int) then (t.ht : Int) else (s.ht : Int)) = (((Sh.pair s t).ht : Nat) : Int) := by
        show _ = ((1 + max s.ht t.ht : Nat) : Int)
        split <;> omega
      refine ⟨_, rfl, ?_⟩
      rw [eh]
      exact q
    | rows s m =>
      obtain ⟨p, x, rfl, hp, hx⟩ := ht
      have hh2 : 1 + s.ht < n + 1 := hh
      simp only [and_assoc, rst, rs, re, ra, rq, rx, ro, rl, rl2, rsp, rz, rix, rln, rg, rd, ri, rv, rk, rdd, rwi, at0, at1, at2, at3, upd_at, List.getElem?_cons_zero, List.getElem?_cons_succ, Option.some.injEq, exists_eq_left', exists_eq_left, List.set_cons_zero, List.set_cons_succ, true_and, and_true, HO.lst.injEq, HO.tup.injEq, exists_and_left, exists_eq, exists_eq', Br.t, Br.f, Be.t, Be.f, List.cons.injEq, List.append_nil, scal, if_true, if_false, ite_true, ite_false, eq_self_iff_true, decide_true, decide_false, Bool.not_true, Bool.not_false, reduceIte, List.nil_append, List.cons_append, reduceCtorEq, false_and, exists_false, false_or, or_false, Int.reduceLT, ral, rmd, rsq, rlu, rdp, rrp, Bool.true_or, Bool.false_or, Bool.or_false, Bool.or_true, hp]
      refine Br.d (fun c => absurd c (by decide +kernel)) fun _ => ?_
      simp only [and_assoc, rst, rs, re, ra, rq, rx, ro, rl, rl2, rsp, rz, rix, rln, rg, rd, ri, rv, rk, rdd, rwi, at0, at1, at2, at3, upd_at, List.getElem?_cons_zero, List.getElem?_cons_succ, Option.some.injEq, exists_eq_left', exists_eq_left, List.set_cons_zero, List.set_cons_succ, true_and, and_true, HO.lst.injEq, HO.tup.injEq, exists_and_left, exists_eq, exists_eq', Br.t, Br.f, Be.t, Be.f, List.cons.injEq, List.append_nil, scal, if_true, if_false, ite_true, ite_false, eq_self_iff_true, decide_true, decide_false, Bool.not_true, Bool.not_false, reduceIte, List.nil_append, List.cons_append, reduceCtorEq, false_and, exists_false, false_or, or_false, Int.reduceLT, ral, rmd, rsq, rlu, rdp, rrp, Bool.true_or, Bool.false_or, Bool.or_false, Bool.or_true, hp]
      refine ⟨_, rfl, s, by omega, hx, _, rfl, ?_⟩
      have eh : 1 + (s.ht : Int) = (((Sh.rows s m).ht : Nat) : Int) := by
        show _ = ((1 + s.ht : Nat) : Int)
        omega
      rw [eh]
      exact q
    | bound b =>
      obtain ⟨p, rfl, hp⟩ := ht
      simp only [and_assoc, rst, rs, re, ra, rq, rx, ro, rl, rl2, rsp, rz, rix, rln, rg, rd, ri, rv, rk, rdd, rwi, at0, at1, at2, at3, upd_at, List.getElem?_cons_zero, List.getElem?_cons_succ, Option.some.injEq, exists_eq_left', exists_eq_left, List.set_cons_zero, List.set_cons_succ, true_and, and_true, HO.lst.injEq, HO.tup.injEq, exists_and_left, exists_eq, exists_eq', Br.t, Br.f, Be.t, Be.f, List.cons.injEq, List.append_nil, scal, if_true, if_false, ite_true, ite_false, eq_self_iff_true, decide_true, decide_false, Bool.not_true, Bool.not_false, reduceIte, List.nil_append, List.cons_append, reduceCtorEq, false_and, exists_false, false_or, or_false, Int.reduceLT, ral, rmd, rsq, rlu, rdp, rrp, Bool.true_or, Bool.false_or, Bool.or_false, Bool.or_true, hp]
      refine Br.d (fun c => absurd c (by decide +kernel)) fun _ => ?_
      simp only [and_assoc, rst, rs, re, ra, rq, rx, ro, rl, rl2, rsp, rz, rix, rln, rg, rd, ri, rv, rk, rdd, rwi, at0, at1, at2, at3, upd_at, List.getElem?_cons_zero, List.getElem?_cons_succ, Option.some.injEq, exists_eq_left', exists_eq_left, List.set_cons_zero, List.set_cons_succ, true_and, and_true, HO.lst.injEq, HO.tup.injEq, exists_and_left, exists_eq, exists_eq', Br.t, Br.f, Be.t, Be.f, List.cons.injEq, List.append_nil, scal, if_true, if_false, ite_true, ite_false, eq_self_iff_true, decide_true, decide_false, Bool.not_true, Bool.not_false, reduceIte, List.nil_append, List.cons_append, reduceCtorEq, false_and, exists_false, false_or, or_false, Int.reduceLT, ral, rmd, rsq, rlu, rdp, rrp, Bool.true_or, Bool.false_or, Bool.or_false, Bool.or_true, hp]
      refine Br.d (fun c => absurd c (by decide +kernel)) fun _ => ?_
      simp only [and_assoc, rst, rs, re, ra, rq, rx, ro, rl, rl2, rsp, rz, rix, rln, rg, rd, ri, rv, rk, rdd, rwi, at0, at1, at2, at3, upd_at, List.getElem?_cons_zero, List.getElem?_cons_succ, Option.some.injEq, exists_eq_left', exists_eq_left, List.set_cons_zero, List.set_cons_succ, true_and, and_true, HO.lst.injEq, HO.tup.injEq, exists_and_left, exists_eq, exists_eq', Br.t, Br.f, Be.t, Be.f, List.cons.injEq, List.append_nil, scal, if_true, if_false, ite_true, ite_false, eq_self_iff_true, decide_true, decide_false, Bool.not_true, Bool.not_false, reduceIte, List.nil_append, List.cons_append, reduceCtorEq, false_and, exists_false, false_or, or_false, Int.reduceLT, ral, rmd, rsq, rlu, rdp, rrp, Bool.true_or, Bool.false_or, Bool.or_false, Bool.or_true]
      exact q
    | shares ps =>
      obtain ⟨p, _, rfl, hp, _⟩ := ht
      simp only [and_assoc, rst, rs, re, ra, rq, rx, ro, rl, rl2, rsp, rz, rix, rln, rg, rd, ri, rv, rk, rdd, rwi, at0, at1, at2, at3, upd_at, List.getElem?_cons_zero, List.getElem?_cons_succ, Option.some.injEq, exists_eq_left', exists_eq_left, List.set_cons_zero, List.set_cons_succ, true_and, and_true, HO.lst.injEq, HO.tup.injEq, exists_and_left, exists_eq, exists_eq', Br.t, Br.f, Be.t, Be.f, List.cons.injEq, List.append_nil, scal, if_true, if_false, ite_true, ite_false, eq_self_iff_true, decide_true, decide_false, Bool.not_true, Bool.not_false, reduceIte, List.nil_append, List.cons_append, reduceCtorEq, false_and, exists_false, false_or, or_false, Int.reduceLT, ral, rmd, rsq, rlu, rdp, rrp, Bool.true_or, Bool.false_or, Bool.or_false, Bool.or_true, hp]
      refine Br.d (fun c => absurd c (by decide +kernel)) fun _ => ?_
      simp only [and_assoc, rst, rs, re, ra, rq, rx, ro, rl, rl2, rsp, rz, rix, rln, rg, rd, ri, rv, rk, rdd, rwi, at0, at1, at2, at3, upd_at, List.getElem?_cons_zero, List.getElem?_cons_succ, Option.some.injEq, exists_eq_left', exists_eq_left, List.set_cons_zero, List.set_cons_succ, true_and, and_true, HO.lst.injEq, HO.tup.injEq, exists_and_left, exists_eq, exists_eq', Br.t, Br.f, Be.t, Be.f, List.cons.injEq, List.append_nil, scal, if_true, if_false, ite_true, ite_false, eq_self_iff_true, decide_true, decide_false, Bool.not_true, Bool.not_false, reduceIte, List.nil_append, List.cons_append, reduceCtorEq, false_and, exists_false, false_or, or_false, Int.reduceLT, ral, rmd, rsq, rlu, rdp, rrp, Bool.true_or, Bool.false_or, Bool.or_false, Bool.or_true, hp]
      refine Br.d (fun c => absurd c (by decide +kernel)) fun _ => ?_
      simp only [and_assoc, rst, rs, re, ra, rq, rx, ro, rl, rl2, rsp, rz, rix, rln, rg, rd, ri, rv, rk, rdd, rwi, at0, at1, at2, at3, upd_at, List.getElem?_cons_zero, List.getElem?_cons_succ, Option.some.injEq, exists_eq_left', exists_eq_left, List.set_cons_zero, List.set_cons_succ, true_and, and_true, HO.lst.injEq, HO.tup.injEq, exists_and_left, exists_eq, exists_eq', Br.t, Br.f, Be.t, Be.f, List.cons.injEq, List.append_nil, scal, if_true, if_false, ite_true, ite_false, eq_self_iff_true, decide_true, decide_false, Bool.not_true, Bool.not_false, reduceIte, List.nil_append, List.cons_append, reduceCtorEq, false_and, exists_false, false_or, or_false, Int.reduceLT, ral, rmd, rsq, rlu, rdp, rrp, Bool.true_or, Bool.false_or, Bool.or_false, Bool.or_true]
      exact q
    | orders k =>
      obtain ⟨p, rfl, hp⟩ := ht
      simp only [and_assoc, rst, rs, re, ra, rq, rx, ro, rl, rl2, rsp, rz, rix, rln, rg, rd, ri, rv, rk, rdd, rwi, at0, at1, at2, at3, upd_at, List.getElem?_cons_zero, List.getElem?_cons_succ, Option.some.injEq, exists_eq_left', exists_eq_left, List.set_cons_zero, List.set_cons_succ, true_and, and_true, HO.lst.injEq, HO.tup.injEq, exists_and_left, exists_eq, exists_eq', Br.t, Br.f, Be.t, Be.f, List.cons.injEq, List.append_nil, scal, if_true, if_false, ite_true, ite_false, eq_self_iff_true, decide_true, decide_false, Bool.not_true, Bool.not_false, reduceIte, List.nil_append, List.cons_append, reduceCtorEq, false_and, exists_false, false_or, or_false, Int.reduceLT, ral, rmd, rsq, rlu, rdp, rrp, Bool.true_or, Bool.false_or, Bool.or_false, Bool.or_true, hp]
      refine Br.d (fun c => absurd c (by decide +kernel)) fun _ => ?_
      simp only [and_assoc, rst, rs, re, ra, rq, rx, ro, rl, rl2, rsp, rz, rix, rln, rg, rd, ri, rv, rk, rdd, rwi, at0, at1, at2, at3, upd_at, List.getElem?_cons_zero, List.getElem?_cons_succ, Option.some.injEq, exists_eq_left', exists_eq_left, List.set_cons_zero, List.set_cons_succ, true_and, and_true, HO.lst.injEq, HO.tup.injEq, exists_and_left, exists_eq, exists_eq', Br.t, Br.f, Be.t, Be.f, List.cons.injEq, List.append_nil, scal, if_true, if_false, ite_true, ite_false, eq_self_iff_true, decide_true, decide_false, Bool.not_true, Bool.not_false, reduceIte, List.nil_append, List.cons_append, reduceCtorEq, false_and, exists_false, false_or, or_false, Int.reduceLT, ral, rmd, rsq, rlu, rdp, rrp, Bool.true_or, Bool.false_or, Bool.or_false, Bool.or_true, hp]
      refine Br.d (fun c => absurd c (by decide +kernel)) fun _ => ?_
      simp only [and_assoc, rst, rs, re, ra, rq, rx, ro, rl, rl2, rsp, rz, rix, rln, rg, rd, ri, rv, rk, rdd, rwi, at0, at1, at2, at3, upd_at, List.getElem?_cons_zero, List.getElem?_cons_succ, Option.some.injEq, exists_eq_left', exists_eq_left, List.set_cons_zero, List.set_cons_succ, true_and, and_true, HO.lst.injEq, HO.tup.injEq, exists_and_left, exists_eq, exists_eq', Br.t, Br.f, Be.t, Be.f, List.cons.injEq, List.append_nil, scal, if_true, if_false, ite_true, ite_false, eq_self_iff_true, decide_true, decide_false, Bool.not_true, Bool.not_false, reduceIte, List.nil_append, List.cons_append, reduceCtorEq, false_and, exists_false, false_or, or_false, Int.reduceLT, ral, rmd, rsq, rlu, rdp, rrp, Bool.true_or, Bool.false_or, Bool.or_false, Bool.or_true]
      exact q
    | sets m k =>
      obtain ⟨p, rfl, hp⟩ := ht
      simp only [and_assoc, rst, rs, re, ra, rq, rx, ro, rl, rl2, rsp, rz, rix, rln, rg, rd, ri, rv, rk, rdd, rwi, at0, at1, at2, at3, upd_at, List.getElem?_cons_zero, List.getElem?_cons_succ, Option.some.injEq, exists_eq_left', exists_eq_left, List.set_cons_zero, List.set_cons_succ, true_and, and_true, HO.lst.injEq, HO.tup.injEq, exists_and_left, exists_eq, exists_eq', Br.t, Br.f, Be.t, Be.f, List.cons.injEq, List.append_nil, scal, if_true, if_false, ite_true, ite_false, eq_self_iff_true, decide_true, decide_false, Bool.not_true, Bool.not_false, reduceIte, List.nil_append, List.cons_append, reduceCtorEq, false_and, exists_false, false_or, or_false, Int.reduceLT, ral, rmd, rsq, rlu, rdp, rrp, Bool.true_or, Bool.false_or, Bool.or_false, Bool.or_true, hp]
      refine Br.d (fun c => absurd c (by decide +kernel)) fun _ => ?_
      simp only [and_assoc, rst, rs, re, ra, rq, rx, ro, rl, rl2, rsp, rz, rix, rln, rg, rd, ri, rv, rk, rdd, rwi, at0, at1, at2, at3, upd_at, List.getElem?_cons_zero, List.getElem?_cons_succ, Option.some.injEq, exists_eq_left', exists_eq_left, List.set_cons_zero, List.set_cons_succ, true_and, and_true, HO.lst.injEq, HO.tup.injEq, exists_and_left, exists_eq, exists_eq', Br.t, Br.f, Be.t, Be.f, List.cons.injEq, List.append_nil, scal, if_true, if_false, ite_true, ite_false, eq_self_iff_true, decide_true, decide_false, Bool.not_true, Bool.not_false, reduceIte, List.nil_append, List.cons_append, reduceCtorEq, false_and, exists_false, false_or, or_false, Int.reduceLT, ral, rmd, rsq, rlu, rdp, rrp, Bool.true_or, Bool.false_or, Bool.or_false, Bool.or_true, hp]
      refine Br.d (fun c => absurd c (by decide +kernel)) fun _ => ?_
      simp only [and_assoc, rst, rs, re, ra, rq, rx, ro, rl, rl2, rsp, rz, rix, rln, rg, rd, ri, rv, rk, rdd, rwi, at0, at1, at2, at3, upd_at, List.getElem?_cons_zero, List.getElem?_cons_succ, Option.some.injEq, exists_eq_left', exists_eq_left, List.set_cons_zero, List.set_cons_succ, true_and, and_true, HO.lst.injEq, HO.tup.injEq, exists_and_left, exists_eq, exists_eq', Br.t, Br.f, Be.t, Be.f, List.cons.injEq, List.append_nil, scal, if_true, if_false, ite_true, ite_false, eq_self_iff_true, decide_true, decide_false, Bool.not_true, Bool.not_false, reduceIte, List.nil_append, List.cons_append, reduceCtorEq, false_and, exists_false, false_or, or_false, Int.reduceLT, ral, rmd, rsq, rlu, rdp, rrp, Bool.true_or, Bool.false_or, Bool.or_false, Bool.or_true]
      exact q
theorem ok__law_numbers (T : Tx K mg w) (c__law_take : Cal P w K mg base 1 "_law_take" ["box", "many"] (sp__law_take K))  : Cal P w K mg base 2 "_law_numbers" ["box", "total"] (sp__law_numbers K) := by
  refine cal_mk T.F__law_numbers T.g__law_numbers sc__law_numbers (len2 _) (fun _ _ _ _ _ _ us hl => match us, hl with | [_, _], _ => rfl) (fun cdv A outer s H vs Q E hr h => ?_)
  obtain ⟨v0, v1, rfl, h⟩ := h
  have hu := hu_of hr.r
  refine ⟨_, (pss_one (ps_ret (pe_lstA (pa_cons pe_int (pa_cons (pe_op op_sub (pv 1) pe_int) (pa_cons (pe_op op_fdivW (pv 1) pe_int) (pa_cons (pe_cal c__law_take hr (by decide) passL rfl (pa_cons (pv 0) (pa_cons (pv 1) pa_nil))) (pa_cons (pe_cal c__law_take hr (by decide) passL rfl (pa_cons (pv 0) (pa_cons (pv 1) pa_nil))) pa_nil)))))))), ?_⟩
  obtain ⟨p, n, rfl, hw, rfl, n0, n1, q⟩ := h
  simp only [and_assoc, rst, rs, re, ra, rq, rx, ro, rl, rl2, rsp, rz, rix, rln, rg, rd, ri, rv, rk, rdd, rwi, at0, at1, at2, at3, upd_at, List.getElem?_cons_zero, List.getElem?_cons_succ, Option.some.injEq, exists_eq_left', exists_eq_left, List.set_cons_zero, List.set_cons_succ, true_and, and_true, HO.lst.injEq, HO.tup.injEq, exists_and_left, exists_eq, exists_eq', Br.t, Br.f, Be.t, Be.f, List.cons.injEq, List.append_nil, scal, if_true, if_false, ite_true, ite_false, eq_self_iff_true, decide_true, decide_false, Bool.not_true, Bool.not_false, reduceIte, List.nil_append, List.cons_append, reduceCtorEq, false_and, exists_false, false_or, or_false, Int.reduceLT, ral, rmd, rsq, rlu, rdp, rrp, Bool.true_or, Bool.false_or, Bool.or_false, Bool.or_true]
  refine ⟨wide_div (by decide) (b := 65) (by omega) (by decide) (by decide), _, _, rfl, p, n, rfl, hw, rfl, by omega, n1, fun x H1 x0 x1 b1 e1 => ⟨_, _, rfl, p, n, rfl, b1, rfl, by omega, n1, fun y H2 y0 y1 b2 e2 d H3 al => ?_⟩⟩
  have nd : d ≠ p := by
    obtain ⟨_, _, _, e⟩ := b2
    exact al.ne e
  refine q d [0, n - 1, n / 2, x, y] H3 (Wl.trans (Wl.draw b1 e1) (Wl.trans (Wl.draw b2 e2) (Wl.of_same b2 al.s))) (by rw [wo_at nd]; exact al.e) ?_ (by show 5 ≤ 10; decide)
  intro z hz
  simp only [List.mem_cons, List.not_mem_nil, or_false] at hz
  rcases hz with rfl | rfl | rfl | rfl | rfl <;> omega
theorem ok__law_right (T : Tx K mg w) (c_Pair_numbers : CalM P w K mg base 1 "Pair" "numbers" ["self"] (sp_Pair_numbers K)) (c_Pair_outcome_1 : CalM P w K mg base 11 "Pair" "outcome" ["self", "number"] (sp_Pair_outcome_1 K)) (c_Shares_height : CalM P w K mg base 1 "Shares" "height" ["self"] (sp_Shares_height K)) (c_Rows_height : CalM P w K mg base 1 "Rows" "height" ["self"] (sp_Rows_height K)) (c_Shares_numbers : CalM P w K mg base 1 "Shares" "numbers" ["self"] (sp_Shares_numbers K)) (c_Orders_outcome : CalM P w K mg base 7 "Orders" "outcome" ["self", "number"] (sp_Orders_outcome K)) (c_Pair_height : CalM P w K mg base 1 "Pair" "height" ["self"] (sp_Pair_height K)) (c_Below_outcome : CalM P w K mg base 5 "Below" "outcome" ["self", "number"] (sp_Below_outcome K)) (c_Pair_outcome_2 : CalM P w K mg base 13 "Pair" "outcome" ["self", "number"] (sp_Pair_outcome_2 K)) (c_Pair_outcome_3 : CalM P w K mg base 15 "Pair" "outcome" ["self", "number"] (sp_Pair_outcome_3 K)) (c_Rows_outcome_3 : CalM P w K mg base 15 "Rows" "outcome" ["self", "number"] (sp_Rows_outcome_3 K)) (c_Sets_numbers : CalM P w K mg base 1 "Sets" "numbers" ["self"] (sp_Sets_numbers K)) (c_Orders_height : CalM P w K mg base 1 "Orders" "height" ["self"] (sp_Orders_height K)) (c_Sets_outcome : CalM P w K mg base 8 "Sets" "outcome" ["self", "number"] (sp_Sets_outcome K)) (c_Rows_numbers : CalM P w K mg base 1 "Rows" "numbers" ["self"] (sp_Rows_numbers K)) (c_Orders_numbers : CalM P w K mg base 1 "Orders" "numbers" ["self"] (sp_Orders_numbers K)) (c_Rows_outcome_1 : CalM P w K mg base 11 "Rows" "outcome" ["self", "number"] (sp_Rows_outcome_1 K)) (c_Rows_outcome_2 : CalM P w K mg base 13 "Rows" "outcome" ["self", "number"] (sp_Rows_outcome_2 K)) (c_Sets_height : CalM P w K mg base 1 "Sets" "height" ["self"] (sp_Sets_height K)) (c_Below_numbers : CalM P w K mg base 1 "Below" "numbers" ["self"] (sp_Below_numbers K)) (c_Shares_outcome : CalM P w K mg base 9 "Shares" "outcome" ["self", "number"] (sp_Shares_outcome K)) (c_Below_height : CalM P w K mg base 1 "Below" "height" ["self"] (sp_Below_height K)) (c__law_total : Cal P w K mg base 6 "_law_total" ["told"] (sp__law_total K)) (c__law_outcome : Cal P w K mg base 11 "_law_outcome" ["told", "number"] (sp__law_outcome K)) (c__law_same : Cal P w K mg base 7 "_law_same" ["found", "due"] (sp__law_same K)) (c__law_height : Cal P w K mg base 5 "_law_height" ["told"] (sp__law_height K))  : Cal P w K mg base 16 "_law_right" ["shape", "told", "numbers"] (sp__law_right K) := by
  refine cal_mk T.F__law_right T.g__law_right sc__law_right (len3 _) (fun _ _ _ _ _ _ us hl => match us, hl with | [_, _, _], _ => rfl) (fun cdv A outer s H vs Q E hr h => ?_)
  obtain ⟨v0, v1, v2, rfl, h⟩ := h
  have hu := hu_of hr.r
  have D0 := ((Disp.cons c_Below_outcome (by decide) (Disp.cons c_Shares_outcome (by decide) (Disp.cons c_Orders_outcome (by decide) (Disp.cons c_Sets_outcome (by decide) (Disp.cons c_Pair_outcome_1 (by decide) (Disp.cons c_Rows_outcome_1 (by decide) (Disp.cons c_Pair_outcome_2 (by decide) (Disp.cons c_Rows_outcome_2 (by decide) (Disp.cons c_Pair_outcome_3 (by decide) (Disp.cons c_Rows_outcome_3 (by decide) Disp.nil)))))))))) : Disp P w K mg base (15) "outcome" _)
  have D1 := ((Disp.cons c_Below_numbers (by decide) (Disp.cons c_Shares_numbers (by decide) (Disp.cons c_Orders_numbers (by decide) (Disp.cons c_Sets_numbers (by decide) (Disp.cons c_Pair_numbers (by decide) (Disp.cons c_Rows_numbers (by decide) Disp.nil)))))) : Disp P w K mg base (15) "numbers" _)
  have D2 := ((Disp.cons c_Below_height (by decide) (Disp.cons c_Shares_height (by decide) (Disp.cons c_Orders_height (by decide) (Disp.cons c_Sets_height (by decide) (Disp.cons c_Pair_height (by decide) (Disp.cons c_Rows_height (by decide) Disp.nil)))))) : Disp P w K mg base (15) "height" _)
  refine ⟨_, (pss_cons (ps_for (passes_of rfl) rfl (pi_q (pv 2)) (pg_name (i := 3) sc__law_right.nd rfl (Or.inl rfl)) (pss_one (ps_if (pt_not (pt_val (pe_cal c__law_same hr (by decide) passL rfl (pa_cons (pe_mthD (K := K) rfl D0 hr takes0 (pv 0) (pa_cons (pv 3) pa_nil)) (pa_cons (pe_cal c__law_outcome hr (by decide) passL rfl (pa_cons (pv 1) (pa_cons (pv 3) pa_nil))) pa_nil))))) (pss_one (ps_ret pe_bl)) pss_nil)))
      (pss_one (ps_ret (pe_and (pe_cal c__law_same hr (by decide) passL rfl (pa_cons (pe_mthD0 (K := K) rfl D1 hr takes0 (pv 0)) (pa_cons (pe_cal c__law_total hr (by decide) passL rfl (pa_cons (pv 1) pa_nil)) pa_nil))) (pe_one (pe_cal c__law_same hr (by decide) passL rfl (pa_cons (pe_mthD0 (K := K) rfl D2 hr takes0 (pv 0)) (pa_cons (pe_cal c__law_height hr (by decide) passL rfl (pa_cons (pv 1) pa_nil)) pa_nil)))))))), ?_⟩
  obtain ⟨sh, nq, zs, hh, hok, ob, td, rfl, hq, hzs, q⟩ := h
  obtain ⟨oa, dx, fs, rfl, ha, _, _, n1, n2, n3, _, _⟩ := id ob.any
  simp only [and_assoc, rst, rs, re, ra, rq, rx, ro, rl, rl2, rsp, rz, rix, rln, rg, rd, ri, rv, rk, rdd, rwi, at0, at1, at2, at3, upd_at, List.getElem?_cons_zero, List.getElem?_cons_succ, Option.some.injEq, exists_eq_left', exists_eq_left, List.set_cons_zero, List.set_cons_succ, true_and, and_true, HO.lst.injEq, HO.tup.injEq, exists_and_left, exists_eq, exists_eq', Br.t, Br.f, Be.t, Be.f, List.cons.injEq, List.append_nil, scal, if_true, if_false, ite_true, ite_false, eq_self_iff_true, decide_true, decide_false, Bool.not_true, Bool.not_false, reduceIte, List.nil_append, List.cons_append, reduceCtorEq, false_and, exists_false, false_or, or_false, Int.reduceLT, ral, rmd, rsq, rlu, rdp, rrp, Bool.true_or, Bool.false_or, Bool.or_false, Bool.or_true]
  refine ⟨_, hq, _, rfl, FI.seq (o := .lst (zs.map V.int)) rfl (fun k σ H' => ∃ v3, Same H H' ∧ σ = [some (.ref oa), some v1, some (.ref nq), v3]) ⟨none, fun _ _ e => e, rfl⟩ (fun _ _ _ _ ⟨_, s, _⟩ => s _ _ hq) ?_ ?_⟩
  · rintro k y σ H7 hy ⟨v8', s7, rfl⟩
    obtain ⟨z, hz, rfl⟩ := map_at hy
    obtain ⟨z0, z1⟩ := hzs z (List.mem_of_getElem? hz)
    simp only [and_assoc, rst, rs, re, ra, rq, rx, ro, rl, rl2, rsp, rz, rix, rln, rg, rd, ri, rv, rk, rdd, rwi, at0, at1, at2, at3, upd_at, List.getElem?_cons_zero, List.getElem?_cons_succ, Option.some.injEq, exists_eq_left', exists_eq_left, List.set_cons_zero, List.set_cons_succ, true_and, and_true, HO.lst.injEq, HO.tup.injEq, exists_and_left, exists_eq, exists_eq', Br.t, Br.f, Be.t, Be.f, List.cons.injEq, List.append_nil, scal, if_true, if_false, ite_true, ite_false, eq_self_iff_true, decide_true, decide_false, Bool.not_true, Bool.not_false, reduceIte, List.nil_append, List.cons_append, reduceCtorEq, false_and, exists_false, false_or, or_false, Int.reduceLT, ral, rmd, rsq, rlu, rdp, rrp, Bool.true_or, Bool.false_or, Bool.or_false, Bool.or_true]
    refine ⟨kindOf sh, spOut (kindOf sh) sh.ht K, mem_outA hh, dx, fs, s7 _ _ ha, n3, ?_⟩
    refine ⟨_, _, rfl, sh, z, rfl, Nat.le_refl _, hok, ob.same s7, rfl, z0, z1, fun v H8 s8 r1 => ?_⟩
    refine ⟨_, _, rfl, sh, z, by omega, hh, hok, td.same (Same.trans s7 s8), rfl, z0, z1, fun u H9 s9 r3 => ?_⟩
    refine ⟨_, _, rfl, Li.upTo (by omega) (rp_li hok (Rp.same s9 r1) r3), fun H10 s10 => ?_⟩
    simp only [and_assoc, rst, rs, re, ra, rq, rx, ro, rl, rl2, rsp, rz, rix, rln, rg, rd, ri, rv, rk, rdd, rwi, at0, at1, at2, at3, upd_at, List.getElem?_cons_zero, List.getElem?_cons_succ, Option.some.injEq, exists_eq_left', exists_eq_left, List.set_cons_zero, List.set_cons_succ, true_and, and_true, HO.lst.injEq, HO.tup.injEq, exists_and_left, exists_eq, exists_eq', Br.t, Br.f, Be.t, Be.f, List.cons.injEq, List.append_nil, scal, if_true, if_false, ite_true, ite_false, eq_self_iff_true, decide_true, decide_false, Bool.not_true, Bool.not_false, reduceIte, List.nil_append, List.cons_append, reduceCtorEq, false_and, exists_false, false_or, or_false, Int.reduceLT, ral, rmd, rsq, rlu, rdp, rrp, Bool.true_or, Bool.false_or, Bool.or_false, Bool.or_true]
    exact Same.trans s7 (Same.trans s8 (Same.trans s9 s10))
  · rintro σ H7 ⟨v3, s7, rfl⟩
    simp only [and_assoc, rst, rs, re, ra, rq, rx, ro, rl, rl2, rsp, rz, rix, rln, rg, rd, ri, rv, rk, rdd, rwi, at0, at1, at2, at3, upd_at, List.getElem?_cons_zero, List.getElem?_cons_succ, Option.some.injEq, exists_eq_left', exists_eq_left, List.set_cons_zero, List.set_cons_succ, true_and, and_true, HO.lst.injEq, HO.tup.injEq, exists_and_left, exists_eq, exists_eq', Br.t, Br.f, Be.t, Be.f, List.cons.injEq, List.append_nil, scal, if_true, if_false, ite_true, ite_false, eq_self_iff_true, decide_true, decide_false, Bool.not_true, Bool.not_false, reduceIte, List.nil_append, List.cons_append, reduceCtorEq, false_and, exists_false, false_or, or_false, Int.reduceLT, ral, rmd, rsq, rlu, rdp, rrp, Bool.true_or, Bool.false_or, Bool.or_false, Bool.or_true]
    refine ⟨kindOf sh, spNum (kindOf sh) K, mem_num6 sh, dx, fs, s7 _ _ ha, n1, ?_⟩
    refine ⟨_, rfl, sh, rfl, ob.same s7, ?_⟩
    refine ⟨_, rfl, sh, by omega, ok_okS hok, td.same s7, ?_⟩
    refine ⟨_, _, rfl, Li.upTo (by decide) li_int, fun H11 s11 => ?_⟩
    simp only [and_assoc, rst, rs, re, ra, rq, rx, ro, rl, rl2, rsp, rz, rix, rln, rg, rd, ri, rv, rk, rdd, rwi, at0, at1, at2, at3, upd_at, List.getElem?_cons_zero, List.getElem?_cons_succ, Option.some.injEq, exists_eq_left', exists_eq_left, List.set_cons_zero, List.set_cons_succ, true_and, and_true, HO.lst.injEq, HO.tup.injEq, exists_and_left, exists_eq, exists_eq', Br.t, Br.f, Be.t, Be.f, List.cons.injEq, List.append_nil, scal, if_true, if_false, ite_true, ite_false, eq_self_iff_true, decide_true, decide_false, Bool.not_true, Bool.not_false, reduceIte, List.nil_append, List.cons_append, reduceCtorEq, false_and, exists_false, false_or, or_false, Int.reduceLT, ral, rmd, rsq, rlu, rdp, rrp, Bool.true_or, Bool.false_or, Bool.or_false, Bool.or_true]
    have s8 := Same.trans s7 s11
    refine ⟨kindOf sh, spHt (kindOf sh) K, mem_ht6 sh, dx, fs, s8 _ _ ha, n2, ?_⟩
    refine ⟨_, rfl, sh, rfl, ob.same s8, ?_⟩
    refine ⟨_, rfl, sh, by omega, td.same s8, ?_⟩
    exact ⟨_, _, rfl, Li.upTo (by decide) li_int, fun H12 s12 => q _ (Same.trans s8 s12)⟩
end
end Law

-- RDX ral, rmd, rsq, rlu, rdp, rrp, Bool.true_or, Bool.false_or, Bool.or_false, Bool.or_true
set_option pp.deepTerms true
set_option pp.maxSteps 100000
namespace Law
open PySem PySem.Spec PyProof.Rows L2 Sw
section
variable {P : Program} {w : World} {K : Fg} {mg : Str → Option Value} {base : Heap}
theorem alW {p d : Addr} {H H2 : Hp} {o : HO} (b : Well H p) (al : Al H d o H2) : d ≠ p ∧ Wl p H H2 ∧ wo p H2 d = some o := by
  have nd : d ≠ p := by
    obtain ⟨_, _, _, e⟩ := b
    exact al.ne e
  exact ⟨nd, Wl.of_same b al.s, by rw [wo_at nd]; exact al.e⟩
theorem ok__law_made (T : Tx K mg w) (c__law_take : Cal P w K mg base 1 "_law_take" ["box", "many"] (sp__law_take K)) (c__law_total : Cal P w K mg base 6 "_law_total" ["told"] (sp__law_total K)) (c__law_weight : Cal P w K mg base 5 "_law_weight" ["told"] (sp__law_weight K)) (c__law_told : Cal P w K mg base 11 "_law_told" ["box", "room", "most"] (sp__law_told K))  : Cal P w K mg base 12 "_law_made" ["box", "most"] (sp__law_made K) := by
  refine cal_mk T.F__law_made T.g__law_made sc__law_made (len2 _) (fun _ _ _ _ _ _ us hl => match us, hl with | [_, _], _ => rfl) (fun cdv A outer s H vs Q E hr h => ?_)
  obtain ⟨v0, v1, rfl, h⟩ := h
  have hu := hu_of hr.r
  refine ⟨_, (pss_cons (ps_set (i := 2) sc__law_made.nd rfl (Or.inl rfl) (pe_cal c__law_told hr (by decide) passL rfl (pa_cons (pv 0) (pa_cons pe_int (pa_cons (pv 1) pa_nil)))))
      (pss_cons (ps_set (i := 3) sc__law_made.nd rfl (Or.inl rfl) (pe_cal c__law_take hr (by decide) passL rfl (pa_cons (pv 0) (pa_cons pe_int pa_nil))))
      (pss_cons (ps_set (i := 4) sc__law_made.nd rfl (Or.inl rfl) (pe_cal c__law_told hr (by decide) passL rfl (pa_cons (pv 0) (pa_cons pe_int (pa_cons (pe_op op_fdivW (pv 1) (pe_cal c__law_total hr (by decide) passL rfl (pa_cons (pv 2) pa_nil))) pa_nil)))))
      (pss_cons (ps_if (pt_cmpR op_gt (pe_op op_add (pe_cal c__law_weight hr (by decide) passL rfl (pa_cons (pv 2) pa_nil)) (pe_cal c__law_weight hr (by decide) passL rfl (pa_cons (pv 4) pa_nil))) pe_int (nomark _)) (pss_one (ps_set (i := 4) sc__law_made.nd rfl (Or.inl rfl) (pe_tupA (pa_cons pe_str (pa_cons pe_int pa_nil))))) pss_nil)
      (pss_cons (ps_if (PW.pt (pw_and (pt_cmpR op_eq (pv 3) pe_int (nomark _)) (pw_and1 (pt_cmpR op_le (pe_op op_mulA (pe_cal c__law_total hr (by decide) passL rfl (pa_cons (pv 2) pa_nil)) (pe_cal c__law_total hr (by decide) passL rfl (pa_cons (pv 2) pa_nil))) (pv 1) (nomark _))))) (pss_one (ps_set (i := 4) sc__law_made.nd rfl (Or.inl rfl) (pv 2))) pss_nil)
      (pss_cons (ps_if (pt_cmpR op_eq (pv 3) pe_int (nomark _)) (pss_cons (ps_set (i := 5) sc__law_made.nd rfl (Or.inl rfl) (pe_cal c__law_take hr (by decide) passL rfl (pa_cons (pv 0) (pa_cons pe_int pa_nil))))
      (pss_cons (ps_while (passes_of rfl) (PW.pt (pw_or (pt_cmpR op_gt (pe_cal c__law_total hr (by decide) passL rfl (pa_cons (pe_tupA (pa_cons pe_str (pa_cons (pv 2) (pa_cons (pv 5) pa_nil)))) pa_nil)) (pv 1) (nomark _)) (pw_or1 (pt_cmpR op_gt (pe_cal c__law_weight hr (by decide) passL rfl (pa_cons (pe_tupA (pa_cons pe_str (pa_cons (pv 2) (pa_cons (pv 5) pa_nil)))) pa_nil)) pe_int (nomark _))))) (pss_one (ps_set (i := 5) sc__law_made.nd rfl (Or.inl rfl) (pe_op op_sub (pv 5) pe_int))))
      (pss_one (ps_ret (pe_tupA (pa_cons pe_str (pa_cons (pv 2) (pa_cons (pv 5) pa_nil)))))))) pss_nil)
      (pss_one (ps_ret (pe_tupA (pa_cons pe_str (pa_cons (pv 2) (pa_cons (pv 4) pa_nil)))))))))))), ?_⟩
  obtain ⟨p, m, rfl, hw, rfl, n0, n1, q⟩ := h
  refine seqI fun rr hr => ?_
  simp only [and_assoc, rst, rs, re, ra, rq, rx, ro, rl, rl2, rsp, rz, rix, rln, rg, rd, ri, rv, rk, rdd, rwi, at0, at1, at2, at3, upd_at, List.getElem?_cons_zero, List.getElem?_cons_succ, Option.some.injEq, exists_eq_left', exists_eq_left, List.set_cons_zero, List.set_cons_succ, true_and, and_true, HO.lst.injEq, HO.tup.injEq, exists_and_left, exists_eq, exists_eq', Br.t, Br.f, Be.t, Be.f, List.cons.injEq, List.append_nil, scal, if_true, if_false, ite_true, ite_false, eq_self_iff_true, decide_true, decide_false, Bool.not_true, Bool.not_false, reduceIte, List.nil_append, List.cons_append, reduceCtorEq, false_and, exists_false, false_or, or_false, Int.reduceLT, ral, rmd, rsq, rlu, rdp, rrp, Bool.true_or, Bool.false_or, Bool.or_false, Bool.or_true]
  refine ⟨_, _, _, rfl, p, m, 2, rfl, hw, rfl, by decide, by decide, rfl, n0, n1, fun u s H1 w1 hs hso hst hsd => ?_⟩
  subst hr
  refine seqI fun rr hr => ?_
  simp only [and_assoc, rst, rs, re, ra, rq, rx, ro, rl, rl2, rsp, rz, rix, rln, rg, rd, ri, rv, rk, rdd, rwi, at0, at1, at2, at3, upd_at, List.getElem?_cons_zero, List.getElem?_cons_succ, Option.some.injEq, exists_eq_left', exists_eq_left, List.set_cons_zero, List.set_cons_succ, true_and, and_true, HO.lst.injEq, HO.tup.injEq, exists_and_left, exists_eq, exists_eq', Br.t, Br.f, Be.t, Be.f, List.cons.injEq, List.append_nil, scal, if_true, if_false, ite_true, ite_false, eq_self_iff_true, decide_true, decide_false, Bool.not_true, Bool.not_false, reduceIte, List.nil_append, List.cons_append, reduceCtorEq, false_and, exists_false, false_or, or_false, Int.reduceLT, ral, rmd, rsq, rlu, rdp, rrp, Bool.true_or, Bool.false_or, Bool.or_false, Bool.or_true]
  refine ⟨_, _, rfl, p, 3, rfl, w1.1, rfl, by decide, by decide, fun r H2 a0 a1 b2 e2 => ?_⟩
  have wd := Wl.draw b2 e2
  have w2 := Wl.trans w1 wd
  have hsd2 := Td.same wd.2 hsd
  have st := tot_ok hso
  have d1 : 1 ≤ m / s.tot := (Int.le_ediv_iff_mul_le (by omega)).mpr (by omega)
  have d2 : m / s.tot ≤ m := Int.ediv_le_self _ (by omega)
  subst hr
  refine seqI fun rr hr => ?_
  simp only [and_assoc, rst, rs, re, ra, rq, rx, ro, rl, rl2, rsp, rz, rix, rln, rg, rd, ri, rv, rk, rdd, rwi, at0, at1, at2, at3, upd_at, List.getElem?_cons_zero, List.getElem?_cons_succ, Option.some.injEq, exists_eq_left', exists_eq_left, List.set_cons_zero, List.set_cons_succ, true_and, and_true, HO.lst.injEq, HO.tup.injEq, exists_and_left, exists_eq, exists_eq', Br.t, Br.f, Be.t, Be.f, List.cons.injEq, List.append_nil, scal, if_true, if_false, ite_true, ite_false, eq_self_iff_true, decide_true, decide_false, Bool.not_true, Bool.not_false, reduceIte, List.nil_append, List.cons_append, reduceCtorEq, false_and, exists_false, false_or, or_false, Int.reduceLT, ral, rmd, rsq, rlu, rdp, rrp, Bool.true_or, Bool.false_or, Bool.or_false, Bool.or_true]
  refine ⟨_, rfl, s, by omega, ok_okS hso, Td.same wo_same hsd2, ?_⟩
  refine ⟨_, rfl, wide_div (by omega) (b := 65) (by omega) (by decide) (by decide), _, _, _, rfl, p, m / s.tot, 2, rfl, b2, rfl, by decide, by decide, rfl, d1, by omega, fun v t H3 w3 hs' hto htt htd => ?_⟩
  have mm : t.tot * s.tot ≤ m := (Int.le_ediv_iff_mul_le (by omega)).mp htt
  rw [Int.mul_comm] at mm
  subst hr
  have fin : ∀ v t Hx, Wl p H Hx → Td (wo p Hx) s u → Td (wo p Hx) t v → t.ht ≤ 2 → t.ok → s.tot * t.tot ≤ m → ∀ g H4, Al Hx g (.tup [.str "pair", u, v]) H4 → Q (.ref g) H4 := fun v t Hx wx hu hv h2 hok hm g H4 al => by
    obtain ⟨ng, wg, hg⟩ := alW wx.1 al
    exact q _ (.pair s t) _ (Wl.trans wx wg) (by show 1 + max s.ht t.ht ≤ 3; omega) True.intro ⟨hso, hok, by omega⟩ ⟨g, u, v, rfl, hg, Td.same wg.2 hu, Td.same wg.2 hv⟩
  have wH3 := Wl.trans w2 w3
  have hs3 := Td.same w3.2 hsd2
  clear w2 hsd2 wd b2 e2 hsd
  refine seqJ (fun σ' H' => ∃ v t, Wl p H H' ∧ Td (wo p H') s u ∧ Td (wo p H') t v ∧ t.ht ≤ 2 ∧ t.ok ∧ s.tot * t.tot ≤ m ∧ σ' = [some (.ref p), some (.int m), some u, some (.int r), some v, none]) ?_ ?_
  · clear hs3 wH3 htd mm htt hto hs' w3
    rintro σ' H4 ⟨v, t, w4, hu, hv, h2, hto, hm, rfl⟩
    refine seqJ (fun σ' H' => ∃ v t, Wl p H H' ∧ Td (wo p H') s u ∧ Td (wo p H') t v ∧ t.ht ≤ 2 ∧ t.ok ∧ s.tot * t.tot ≤ m ∧ σ' = [some (.ref p), some (.int m), some u, some (.int r), some v, none]) ?_ ?_
    · clear hm hto h2 hv hu w4
      rintro σ' H4 ⟨v, t, w4, hu, hv, h2, hto, hm, rfl⟩
      refine seqI fun rr hr => ?_
      simp only [and_assoc, rst, rs, re, ra, rq, rx, ro, rl, rl2, rsp, rz, rix, rln, rg, rd, ri, rv, rk, rdd, rwi, at0, at1, at2, at3, upd_at, List.getElem?_cons_zero, List.getElem?_cons_succ, Option.some.injEq, exists_eq_left', exists_eq_left, List.set_cons_zero, List.set_cons_succ, true_and, and_true, HO.lst.injEq, HO.tup.injEq, exists_and_left, exists_eq, exists_eq', Br.t, Br.f, Be.t, Be.f, List.cons.injEq, List.append_nil, scal, if_true, if_false, ite_true, ite_false, eq_self_iff_true, decide_true, decide_false, Bool.not_true, Bool.not_false, reduceIte, List.nil_append, List.cons_append, reduceCtorEq, false_and, exists_false, false_or, or_false, Int.reduceLT, ral, rmd, rsq, rlu, rdp, rrp, Bool.true_or, Bool.false_or, Bool.or_false, Bool.or_true]
      refine Br.d (fun c => ?_) fun c => ?_
      · simp only [and_assoc, rst, rs, re, ra, rq, rx, ro, rl, rl2, rsp, rz, rix, rln, rg, rd, ri, rv, rk, rdd, rwi, at0, at1, at2, at3, upd_at, List.getElem?_cons_zero, List.getElem?_cons_succ, Option.some.injEq, exists_eq_left', exists_eq_left, List.set_cons_zero, List.set_cons_succ, true_and, and_true, HO.lst.injEq, HO.tup.injEq, exists_and_left, exists_eq, exists_eq', Br.t, Br.f, Be.t, Be.f, List.cons.injEq, List.append_nil, scal, if_true, if_false, ite_true, ite_false, eq_self_iff_true, decide_true, decide_false, Bool.not_true, Bool.not_false, reduceIte, List.nil_append, List.cons_append, reduceCtorEq, false_and, exists_false, false_or, or_false, Int.reduceLT, ral, rmd, rsq, rlu, rdp, rrp, Bool.true_or, Bool.false_or, Bool.or_false, Bool.or_true]
        refine ⟨_, _, rfl, p, 13, rfl, w4.1, rfl, by decide, by decide, fun xy H5 a8 a9 b5 e5 => ?_⟩
        have wd := Wl.draw b5 e5
        obtain ⟨y, rfl⟩ : ∃ y : Nat, xy = (y : Int) := ⟨xy.toNat, by omega⟩
        refine wh (fun i σ H' => Wl p H H' ∧ Td (wo p H') s u ∧ i ≤ 12 ∧ σ = [some (.ref p), some (.int m), some u, some (.int r), some v, some (.int (i : Int))]) y ⟨Wl.trans w4 wd, Td.same wd.2 hu, by omega, rfl⟩ ?_
        rintro i σ H' ⟨w5, ud, hi, rfl⟩
        simp only [and_assoc, rst, rs, re, ra, rq, rx, ro, rl, rl2, rsp, rz, rix, rln, rg, rd, ri, rv, rk, rdd, rwi, at0, at1, at2, at3, upd_at, List.getElem?_cons_zero, List.getElem?_cons_succ, Option.some.injEq, exists_eq_left', exists_eq_left, List.set_cons_zero, List.set_cons_succ, true_and, and_true, HO.lst.injEq, HO.tup.injEq, exists_and_left, exists_eq, exists_eq', Br.t, Br.f, Be.t, Be.f, List.cons.injEq, List.append_nil, scal, if_true, if_false, ite_true, ite_false, eq_self_iff_true, decide_true, decide_false, Bool.not_true, Bool.not_false, reduceIte, List.nil_append, List.cons_append, reduceCtorEq, false_and, exists_false, false_or, or_false, Int.reduceLT, ral, rmd, rsq, rlu, rdp, rrp, Bool.true_or, Bool.false_or, Bool.or_false, Bool.or_true]
        intro g H6 al
        obtain ⟨ng, wg, hg⟩ := alW w5.1 al
        have ud1 := Td.same wg.2 ud
        have tr : Td H6 (.rows s i) (.ref g) := ⟨g, u, rfl, al.e, Td.same wo_same ud1⟩
        have hh4 : (Sh.rows s i).ht < 4 := by
          show 1 + s.ht < 4
          omega
        refine ⟨_, rfl, .rows s i, hh4, ⟨hso, hi⟩, tr, _, rfl, Be.d (fun c4 => ?_) fun c4 => ?_⟩
        · refine Nx.go ?_
          have : i ≠ 0 := by
            rintro rfl
            have : (Sh.rows s 0).tot = 1 := Int.pow_zero _
            omega
          obtain ⟨l, rfl⟩ : ∃ l, i = l + 1 := ⟨i - 1, by omega⟩
          simp only [and_assoc, rst, rs, re, ra, rq, rx, ro, rl, rl2, rsp, rz, rix, rln, rg, rd, ri, rv, rk, rdd, rwi, at0, at1, at2, at3, upd_at, List.getElem?_cons_zero, List.getElem?_cons_succ, Option.some.injEq, exists_eq_left', exists_eq_left, List.set_cons_zero, List.set_cons_succ, true_and, and_true, HO.lst.injEq, HO.tup.injEq, exists_and_left, exists_eq, exists_eq', Br.t, Br.f, Be.t, Be.f, List.cons.injEq, List.append_nil, scal, if_true, if_false, ite_true, ite_false, eq_self_iff_true, decide_true, decide_false, Bool.not_true, Bool.not_false, reduceIte, List.nil_append, List.cons_append, reduceCtorEq, false_and, exists_false, false_or, or_false, Int.reduceLT, ral, rmd, rsq, rlu, rdp, rrp, Bool.true_or, Bool.false_or, Bool.or_false, Bool.or_true]
          exact ⟨l, by omega, Wl.trans w5 wg, ud1, by omega, by omega⟩
        · intro g2 H7 al2
          obtain ⟨ng2, wg2, hg2⟩ := alW wg.1 al2
          have ud2 := Td.same wg2.2 ud1
          have tr2 : Td H7 (.rows s i) (.ref g2) := ⟨g2, u, rfl, al2.e, Td.same wo_same ud2⟩
          refine ⟨_, rfl, .rows s i, hh4, ⟨hso, hi⟩, tr2, _, rfl, Br.d (fun c5 => ?_) fun c5 => ?_⟩
          · refine Nx.go ?_
            have : i ≠ 0 := by
              rintro rfl
              have : wgt (.rows s 0) = 1 := by
                show 1 + wgt s * ((0 : Nat) : Int) = 1
                simp
              omega
            obtain ⟨l, rfl⟩ : ∃ l, i = l + 1 := ⟨i - 1, by omega⟩
            simp only [and_assoc, rst, rs, re, ra, rq, rx, ro, rl, rl2, rsp, rz, rix, rln, rg, rd, ri, rv, rk, rdd, rwi, at0, at1, at2, at3, upd_at, List.getElem?_cons_zero, List.getElem?_cons_succ, Option.some.injEq, exists_eq_left', exists_eq_left, List.set_cons_zero, List.set_cons_succ, true_and, and_true, HO.lst.injEq, HO.tup.injEq, exists_and_left, exists_eq, exists_eq', Br.t, Br.f, Be.t, Be.f, List.cons.injEq, List.append_nil, scal, if_true, if_false, ite_true, ite_false, eq_self_iff_true, decide_true, decide_false, Bool.not_true, Bool.not_false, reduceIte, List.nil_append, List.cons_append, reduceCtorEq, false_and, exists_false, false_or, or_false, Int.reduceLT, ral, rmd, rsq, rlu, rdp, rrp, Bool.true_or, Bool.false_or, Bool.or_false, Bool.or_true]
            exact ⟨l, by omega, Wl.trans w5 (Wl.trans wg wg2), ud2, by omega, by omega⟩
          · simp only [and_assoc, rst, rs, re, ra, rq, rx, ro, rl, rl2, rsp, rz, rix, rln, rg, rd, ri, rv, rk, rdd, rwi, at0, at1, at2, at3, upd_at, List.getElem?_cons_zero, List.getElem?_cons_succ, Option.some.injEq, exists_eq_left', exists_eq_left, List.set_cons_zero, List.set_cons_succ, true_and, and_true, HO.lst.injEq, HO.tup.injEq, exists_and_left, exists_eq, exists_eq', Br.t, Br.f, Be.t, Be.f, List.cons.injEq, List.append_nil, scal, if_true, if_false, ite_true, ite_false, eq_self_iff_true, decide_true, decide_false, Bool.not_true, Bool.not_false, reduceIte, List.nil_append, List.cons_append, reduceCtorEq, false_and, exists_false, false_or, or_false, Int.reduceLT, ral, rmd, rsq, rlu, rdp, rrp, Bool.true_or, Bool.false_or, Bool.or_false, Bool.or_true]
            intro g3 H8 al3
            obtain ⟨ng3, wg3, hg3⟩ := alW wg2.1 al3
            have tm : s.tot ^ i ≤ m := by
              have : (Sh.rows s i).tot = s.tot ^ i := rfl
              omega
            exact q _ (.rows s i) _ (Wl.trans w5 (Wl.trans wg (Wl.trans wg2 wg3))) (by show 1 + s.ht ≤ 3; omega) True.intro ⟨hso, hi, by omega⟩ ⟨g3, u, rfl, hg3, Td.same wg3.2 ud2⟩
      · simp only [and_assoc, rst, rs, re, ra, rq, rx, ro, rl, rl2, rsp, rz, rix, rln, rg, rd, ri, rv, rk, rdd, rwi, at0, at1, at2, at3, upd_at, List.getElem?_cons_zero, List.getElem?_cons_succ, Option.some.injEq, exists_eq_left', exists_eq_left, List.set_cons_zero, List.set_cons_succ, true_and, and_true, HO.lst.injEq, HO.tup.injEq, exists_and_left, exists_eq, exists_eq', Br.t, Br.f, Be.t, Be.f, List.cons.injEq, List.append_nil, scal, if_true, if_false, ite_true, ite_false, eq_self_iff_true, decide_true, decide_false, Bool.not_true, Bool.not_false, reduceIte, List.nil_append, List.cons_append, reduceCtorEq, false_and, exists_false, false_or, or_false, Int.reduceLT, ral, rmd, rsq, rlu, rdp, rrp, Bool.true_or, Bool.false_or, Bool.or_false, Bool.or_true]
        subst hr
        simp only [and_assoc, rst, rs, re, ra, rq, rx, ro, rl, rl2, rsp, rz, rix, rln, rg, rd, ri, rv, rk, rdd, rwi, at0, at1, at2, at3, upd_at, List.getElem?_cons_zero, List.getElem?_cons_succ, Option.some.injEq, exists_eq_left', exists_eq_left, List.set_cons_zero, List.set_cons_succ, true_and, and_true, HO.lst.injEq, HO.tup.injEq, exists_and_left, exists_eq, exists_eq', Br.t, Br.f, Be.t, Be.f, List.cons.injEq, List.append_nil, scal, if_true, if_false, ite_true, ite_false, eq_self_iff_true, decide_true, decide_false, Bool.not_true, Bool.not_false, reduceIte, List.nil_append, List.cons_append, reduceCtorEq, false_and, exists_false, false_or, or_false, Int.reduceLT, ral, rmd, rsq, rlu, rdp, rrp, Bool.true_or, Bool.false_or, Bool.or_false, Bool.or_true]
        exact fun g H5 al => fin v t H4 w4 hu hv h2 hto hm g H5 al
    · intro rr hr
      simp only [and_assoc, rst, rs, re, ra, rq, rx, ro, rl, rl2, rsp, rz, rix, rln, rg, rd, ri, rv, rk, rdd, rwi, at0, at1, at2, at3, upd_at, List.getElem?_cons_zero, List.getElem?_cons_succ, Option.some.injEq, exists_eq_left', exists_eq_left, List.set_cons_zero, List.set_cons_succ, true_and, and_true, HO.lst.injEq, HO.tup.injEq, exists_and_left, exists_eq, exists_eq', Br.t, Br.f, Be.t, Be.f, List.cons.injEq, List.append_nil, scal, if_true, if_false, ite_true, ite_false, eq_self_iff_true, decide_true, decide_false, Bool.not_true, Bool.not_false, reduceIte, List.nil_append, List.cons_append, reduceCtorEq, false_and, exists_false, false_or, or_false, Int.reduceLT, ral, rmd, rsq, rlu, rdp, rrp, Bool.true_or, Bool.false_or, Bool.or_false, Bool.or_true]
      refine Be.d (fun c => ?_) fun c => ?_
      · refine ⟨_, rfl, s, by omega, ok_okS hso, Td.same wo_same hu, ?_⟩
        refine ⟨_, rfl, s, by omega, ok_okS hso, Td.same wo_same hu, ?_⟩
        refine ⟨_, rfl, _, rfl, mul_ok64 st.1 st.2 st.1 st.2, Br.d (fun c2 => ?_) fun c2 => ?_⟩
        · simp only [and_assoc, rst, rs, re, ra, rq, rx, ro, rl, rl2, rsp, rz, rix, rln, rg, rd, ri, rv, rk, rdd, rwi, at0, at1, at2, at3, upd_at, List.getElem?_cons_zero, List.getElem?_cons_succ, Option.some.injEq, exists_eq_left', exists_eq_left, List.set_cons_zero, List.set_cons_succ, true_and, and_true, HO.lst.injEq, HO.tup.injEq, exists_and_left, exists_eq, exists_eq', Br.t, Br.f, Be.t, Be.f, List.cons.injEq, List.append_nil, scal, if_true, if_false, ite_true, ite_false, eq_self_iff_true, decide_true, decide_false, Bool.not_true, Bool.not_false, reduceIte, List.nil_append, List.cons_append, reduceCtorEq, false_and, exists_false, false_or, or_false, Int.reduceLT, ral, rmd, rsq, rlu, rdp, rrp, Bool.true_or, Bool.false_or, Bool.or_false, Bool.or_true]
          exact hr _ _ ⟨u, s, w4, hu, hu, hs, hso, c2, rfl⟩
        · exact hr _ _ ⟨v, t, w4, hu, hv, h2, hto, hm, rfl⟩
      · exact hr _ _ ⟨v, t, w4, hu, hv, h2, hto, hm, rfl⟩
  · intro rr hr
    simp only [and_assoc, rst, rs, re, ra, rq, rx, ro, rl, rl2, rsp, rz, rix, rln, rg, rd, ri, rv, rk, rdd, rwi, at0, at1, at2, at3, upd_at, List.getElem?_cons_zero, List.getElem?_cons_succ, Option.some.injEq, exists_eq_left', exists_eq_left, List.set_cons_zero, List.set_cons_succ, true_and, and_true, HO.lst.injEq, HO.tup.injEq, exists_and_left, exists_eq, exists_eq', Br.t, Br.f, Be.t, Be.f, List.cons.injEq, List.append_nil, scal, if_true, if_false, ite_true, ite_false, eq_self_iff_true, decide_true, decide_false, Bool.not_true, Bool.not_false, reduceIte, List.nil_append, List.cons_append, reduceCtorEq, false_and, exists_false, false_or, or_false, Int.reduceLT, ral, rmd, rsq, rlu, rdp, rrp, Bool.true_or, Bool.false_or, Bool.or_false, Bool.or_true]
    refine ⟨_, rfl, s, by omega, ok_okS hso, Td.same wo_same hs3, _, rfl, t, by omega, ok_okS hto, Td.same wo_same htd, _, rfl, _, rfl, Br.d (fun c4 => ?_) fun c4 => ?_⟩
    · simp only [and_assoc, rst, rs, re, ra, rq, rx, ro, rl, rl2, rsp, rz, rix, rln, rg, rd, ri, rv, rk, rdd, rwi, at0, at1, at2, at3, upd_at, List.getElem?_cons_zero, List.getElem?_cons_succ, Option.some.injEq, exists_eq_left', exists_eq_left, List.set_cons_zero, List.set_cons_succ, true_and, and_true, HO.lst.injEq, HO.tup.injEq, exists_and_left, exists_eq, exists_eq', Br.t, Br.f, Be.t, Be.f, List.cons.injEq, List.append_nil, scal, if_true, if_false, ite_true, ite_false, eq_self_iff_true, decide_true, decide_false, Bool.not_true, Bool.not_false, reduceIte, List.nil_append, List.cons_append, reduceCtorEq, false_and, exists_false, false_or, or_false, Int.reduceLT, ral, rmd, rsq, rlu, rdp, rrp, Bool.true_or, Bool.false_or, Bool.or_false, Bool.or_true]
      intro g H4 al
      obtain ⟨ng, wg, hg⟩ := alW wH3.1 al
      exact hr _ _ ⟨.ref g, .bound 1, Wl.trans wH3 wg, Td.same wg.2 hs3, ⟨g, rfl, hg⟩, by decide, ⟨by decide, by decide⟩, by show s.tot * 1 ≤ _; omega, rfl⟩
    · exact hr _ _ ⟨v, t, wH3, hs3, htd, hs', hto, mm, rfl⟩
theorem ok__law_refused_right (T : Tx K mg w) (c__law_take : Cal P w K mg base 1 "_law_take" ["box", "many"] (sp__law_take K)) (c__law_refused : Cal P w K mg base 12 "_law_refused" ["shape", "thing"] (sp__law_refused K))  : Cal P w K mg base 13 "_law_refused_right" ["box", "shape", "total"] (sp__law_refused_right K) := by
  refine cal_mk T.F__law_refused_right T.g__law_refused_right sc__law_refused_right (len3 _) (fun _ _ _ _ _ _ us hl => match us, hl with | [_, _, _], _ => rfl) (fun cdv A outer s H vs Q E hr h => ?_)
  obtain ⟨v0, v1, v2, rfl, h⟩ := h
  have hu := hu_of hr.r
  refine ⟨_, (pss_cons (ps_set (i := 3) sc__law_refused_right.nd rfl (Or.inl rfl) (pe_lstA (pa_cons (pe_un un_neg pe_int) (pa_cons (pe_op op_sub pe_int (pv 2)) (pa_cons (pv 2) (pa_cons (pe_op op_add (pv 2) (pe_cal c__law_take hr (by decide) passL rfl (pa_cons (pv 0) (pa_cons (pv 2) pa_nil)))) (pa_cons (pe_op op_mulA pe_int (pv 2)) (pa_cons pe_bl (pa_cons pe_bl (pa_cons pe_non (pa_cons (pe_callTy call_str_int (by rfl) T.n_str (by decide +kernel) (pa_cons (pv 2) pa_nil)) (pa_cons (pe_lstA (pa_cons pe_int pa_nil)) (pa_cons (pe_tupA (pa_cons pe_int pa_nil)) pa_nil)))))))))))))
      (pss_cons (ps_for (passes_of rfl) rfl (pi_range1 (by rfl) T.n_range (pa_cons pe_int pa_nil)) (pg_name (i := 4) sc__law_refused_right.nd rfl (Or.inl rfl)) (pss_cons (ps_set (i := 5) sc__law_refused_right.nd rfl (Or.inl rfl) (pe_ix ix_q (pe_op op_catAl (pv 3) (pe_lstA (pa_cons pe_dnewA (pa_cons (pe_op op_sub (pe_op op_pow pe_int pe_int) pe_int) pa_nil)))) (pe_cal c__law_take hr (by decide) passL rfl (pa_cons (pv 0) (pa_cons pe_int pa_nil))) (fun _ _ => rfl)))
      (pss_cons (ps_set (i := 6) sc__law_refused_right.nd rfl (Or.inl rfl) (pe_cal c__law_refused hr (by decide) passL rfl (pa_cons (pv 1) (pa_cons (pv 5) pa_nil))))
      (pss_cons (ps_if (pt_val (pe_callB is_q (by rfl) T.n_isinstance (by decide +kernel) (pa_cons (pv 5) (pa_cons (pe_bltn (v := .ty "list") (by rfl) T.n_list (by decide +kernel) rfl) pa_nil)))) (pss_one (ps_expr (pe_ml PySem.F.slot_list_append PySem.F.type_list_append mt_append (pv 5) (pa_cons pe_int pa_nil)))) pss_nil)
      (pss_one (ps_if (pt_cmpR op_ne (pe_callB (call_repr (K := K) rfl T.sm hr.gd hr.units) (by rfl) T.n_repr (by decide +kernel) (pa_cons (pv 6) pa_nil)) (pe_callB (call_repr (K := K) rfl T.sm hr.gd hr.units) (by rfl) T.n_repr (by decide +kernel) (pa_cons (pe_lstA (pa_cons pe_str (pa_cons (pv 5) pa_nil))) pa_nil)) (nomark _)) (pss_one (ps_ret pe_bl)) pss_nil))))))
      (pss_one (ps_ret pe_bl)))), ?_⟩
  obtain ⟨p, sh, rfl, hw, ob, hok, rfl, q⟩ := h
  obtain ⟨t0, t1⟩ := tot_ok hok
  refine seqI fun rr hr => ?_
  simp only [and_assoc, rst, rs, re, ra, rq, rx, ro, rl, rl2, rsp, rz, rix, rln, rg, rd, ri, rv, rk, rdd, rwi, at0, at1, at2, at3, upd_at, List.getElem?_cons_zero, List.getElem?_cons_succ, Option.some.injEq, exists_eq_left', exists_eq_left, List.set_cons_zero, List.set_cons_succ, true_and, and_true, HO.lst.injEq, HO.tup.injEq, exists_and_left, exists_eq, exists_eq', Br.t, Br.f, Be.t, Be.f, List.cons.injEq, List.append_nil, scal, if_true, if_false, ite_true, ite_false, eq_self_iff_true, decide_true, decide_false, Bool.not_true, Bool.not_false, reduceIte, List.nil_append, List.cons_append, reduceCtorEq, false_and, exists_false, false_or, or_false, Int.reduceLT, ral, rmd, rsq, rlu, rdp, rrp, Bool.true_or, Bool.false_or, Bool.or_false, Bool.or_true]
  have tl : sh.tot.natAbs.log2 < 100 := (Nat.log2_lt (by omega)).mpr (by omega)
  refine ⟨_, _, rfl, p, sh.tot, rfl, hw, rfl, by omega, t1, fun x H1 x0 x1 b1 e1 => ⟨x, rfl, small_mul' (by decide) (by decide), by omega, fun l0 H2 a2 t0' H3 a3 => ⟨by rw [sizeLine_eq]; show 11 ≤ _; decide, fun L H4 a4 => ?_⟩⟩⟩
  have w1 := Wl.draw b1 e1
  obtain ⟨n2, w2, h2⟩ := alW w1.1 a2
  obtain ⟨n3, w3, h3⟩ := alW w2.1 a3
  obtain ⟨n4, w4, h4⟩ := alW w3.1 a4
  have W4 : Wl p H H4 := Wl.trans w1 (Wl.trans w2 (Wl.trans w3 w4))
  have hl0 : H4 l0 = some (.lst [.int 0]) := a4.k (a3.k a2.e)
  have ht0 : H4 t0' = some (.tup [.int 0]) := a4.k a3.e
  have hL := a4.e
  have f2 : H l0 = none := by
    have := a2.f
    have e := e1 l0 n2
    rw [← e]
    exact this
  have nLl : L ≠ l0 := a4.ne (a3.k a2.e)
  generalize hit : [V.int (-1), V.int (0 - sh.tot), V.int sh.tot, V.int (sh.tot + x), V.int (2 * sh.tot), V.bl true, V.bl false, V.non, V.str (Str.ofString (toString sh.tot)), V.ref l0, V.ref t0'] = items at hL
  subst hr
  refine seqI fun rr hr => ?_
  simp only [and_assoc, rst, rs, re, ra, rq, rx, ro, rl, rl2, rsp, rz, rix, rln, rg, rd, ri, rv, rk, rdd, rwi, at0, at1, at2, at3, upd_at, List.getElem?_cons_zero, List.getElem?_cons_succ, Option.some.injEq, exists_eq_left', exists_eq_left, List.set_cons_zero, List.set_cons_succ, true_and, and_true, HO.lst.injEq, HO.tup.injEq, exists_and_left, exists_eq, exists_eq', Br.t, Br.f, Be.t, Be.f, List.cons.injEq, List.append_nil, scal, if_true, if_false, ite_true, ite_false, eq_self_iff_true, decide_true, decide_false, Bool.not_true, Bool.not_false, reduceIte, List.nil_append, List.cons_append, reduceCtorEq, false_and, exists_false, false_or, or_false, Int.reduceLT, ral, rmd, rsq, rlu, rdp, rrp, Bool.true_or, Bool.false_or, Bool.or_false, Bool.or_true]
  refine ⟨by decide, by decide, FI.rng (fun i σ H' => ∃ v5 v6, ∃ zs : List Int, Wl p H H' ∧ H' L = some (.lst items) ∧ H' l0 = some (.lst (zs.map V.int)) ∧ zs.length ≤ 1 + i ∧ (∀ z ∈ zs, z = 0 ∨ z = 1) ∧ H' t0' = some (.tup [.int 0]) ∧ σ = [some (.ref p), some v1, some (.int sh.tot), some (.ref L), v5, v6.1, v6.2]) ⟨none, (none, none), [0], W4, hL, hl0, by decide, by decide, ht0, rfl⟩ ?_ ?_⟩
  · clear hl0 ht0 hL W4 w1 w2 w3 w4 h2 h3 h4 a2 a3 a4
    rintro i σ H5 hi ⟨v5, ⟨v6, v7⟩, zs, W5, hL, hl0, hzl, hz, ht0, rfl⟩
    dsimp only
    refine seqI fun rr2 hr2 => ?_
    simp only [and_assoc, rst, rs, re, ra, rq, rx, ro, rl, rl2, rsp, rz, rix, rln, rg, rd, ri, rv, rk, rdd, rwi, at0, at1, at2, at3, upd_at, List.getElem?_cons_zero, List.getElem?_cons_succ, Option.some.injEq, exists_eq_left', exists_eq_left, List.set_cons_zero, List.set_cons_succ, true_and, and_true, HO.lst.injEq, HO.tup.injEq, exists_and_left, exists_eq, exists_eq', Br.t, Br.f, Be.t, Be.f, List.cons.injEq, List.append_nil, scal, if_true, if_false, ite_true, ite_false, eq_self_iff_true, decide_true, decide_false, Bool.not_true, Bool.not_false, reduceIte, List.nil_append, List.cons_append, reduceCtorEq, false_and, exists_false, false_or, or_false, Int.reduceLT, ral, rmd, rsq, rlu, rdp, rrp, Bool.true_or, Bool.false_or, Bool.or_false, Bool.or_true]
    intro dc H6 a6
    refine ⟨⟨by decide, by decide, by decide⟩, fun l2 H7 a7 => ⟨_, a7.k (a6.k hL), _, a7.e, by rw [← hit, sizeLine_eq]; show 11 + 2 ≤ _; decide, fun l3 H8 a8 => ?_⟩⟩
    obtain ⟨n6, w6, h6⟩ := alW W5.1 a6
    obtain ⟨n7, w7, h7⟩ := alW w6.1 a7
    obtain ⟨n8, w8, h8⟩ := alW w7.1 a8
    refine ⟨_, _, rfl, p, 13, rfl, w8.1, rfl, by decide, by decide, fun r H9 y0 y1 b9 e9 => ?_⟩
    have w9 := Wl.draw b9 e9
    have W9 : Wl p H H9 := Wl.trans W5 (Wl.trans w6 (Wl.trans w7 (Wl.trans w8 w9)))
    have k9 : ∀ {a : Addr} {o : HO}, a ≠ p → H8 a = some o → H9 a = some o := fun n e => (e9 _ n).trans e
    have nLp : L ≠ p := n4
    have hL9 := k9 n4 (a8.k (a7.k (a6.k hL)))
    have hl09 := k9 n2 (a8.k (a7.k (a6.k hl0)))
    have ht09 := k9 n3 (a8.k (a7.k (a6.k ht0)))
    have hdc9 := k9 n6 (a8.k (a7.k a6.e))
    have s5 : ∀ {a : Addr} {o : HO}, H5 a = some o → a ≠ p → H9 a = some o := fun e n => k9 n (a8.k (a7.k (a6.k e)))
    have tlen : (Str.ofString (toString sh.tot)).length ≤ 101 := by
      rw [PySem.ofString_length]
      exact int_text_length_le (by decide) tl
    have dqi : ∀ {Hx : Hp} {k : Nat} (z : Int), z.natAbs < 2 ^ 110 → Dq K Hx (.int z) (.int z) k 1921 := fun z hz => .int z (by
      rcases Nat.eq_zero_or_pos z.natAbs with e | e
      · rw [e]; decide
      · exact Nat.lt_trans ((Nat.log2_lt (by omega)).mpr hz) (by decide))
    have small : ∀ z : Int, z.natAbs < 2 ^ 110 → Bd K H9 (.int z) := fun z hz => ⟨⟨_, rfl⟩, _, 1921, dqi z hz, by decide⟩
    have dl0 : ∀ (Hx : Hp) (zs : List Int), Hx l0 = some (.lst (zs.map V.int)) → zs.length ≤ 10 → (∀ z ∈ zs, z = 0 ∨ z = 1) → ∃ d n, Dq K Hx (.ref l0) d 3 n ∧ n ≤ 2 ^ 20 := by
      intro Hx zs h hl hz
      refine ⟨_, _, .lst (ds := zs.map PyData.int) (.inl (.inl h)) (by rw [h]; nofun) (by simp) (k := 2) (n := 1921) fun i x d hx hd => ?_, by rw [List.length_map]; have : zs.length * (1921 + 2) ≤ 10 * (1921 + 2) := Nat.mul_le_mul_right _ hl; omega⟩
      obtain ⟨z, ez, rfl⟩ := map_at hx
      rw [List.getElem?_map, ez] at hd
      cases hd
      refine dqi z ?_
      rcases hz z (List.mem_of_getElem? ez) with rfl | rfl <;> decide
    have all : ∀ x ∈ items ++ [V.ref dc, V.int (10 ^ Int.toNat 30 - 1)], Bd K H9 x ∧ within x 0 (sh.tot - 1) = false ∧ ((x = .ref l0 ∧ isB H9 x "list" = some true) ∨ (isB H9 x "list" = some false ∧ ∃ d n, Dq K (wo l0 H9) x d 3 n ∧ n ≤ 2 ^ 20)) := by
      have hid : ∀ (z : Int), z.natAbs < 2 ^ 110 → (0 ≤ z ∧ z ≤ sh.tot - 1 → False) → Bd K H9 (.int z) ∧ within (.int z) 0 (sh.tot - 1) = false ∧ ((V.int z = .ref l0 ∧ isB H9 (.int z) "list" = some true) ∨ (isB H9 (.int z) "list" = some false ∧ ∃ d n, Dq K (wo l0 H9) (.int z) d 3 n ∧ n ≤ 2 ^ 20)) :=
        fun z hz hn => ⟨small z hz, decide_eq_false hn, .inr ⟨(ki z H9).2.2.2.1, _, _, dqi z hz, by decide⟩⟩
      intro x hx
      rw [← hit] at hx
      simp only [List.cons_append, List.nil_append, List.mem_cons, List.not_mem_nil, or_false] at hx
      have one : ∀ {Hx : Hp} (k : Nat), Dq K Hx (.int 0) (.int 0) k 1921 := fun k => dqi 0 (by decide)
      rcases hx with rfl | rfl | rfl | rfl | rfl | rfl | rfl | rfl | rfl | rfl | rfl | rfl | rfl
      · exact hid _ (by decide) (by omega)
      · exact hid _ (by omega) (by omega)
      · exact hid _ (by omega) (by omega)
      · exact hid _ (by omega) (by omega)
      · exact hid _ (by omega) (by omega)
      · exact ⟨⟨⟨_, rfl⟩, _, _, .bl true, by decide⟩, rfl, .inr ⟨(kb _ _).2.2.2.1, _, _, .bl true, by decide⟩⟩
      · exact ⟨⟨⟨_, rfl⟩, _, _, .bl false, by decide⟩, rfl, .inr ⟨(kb _ _).2.2.2.1, _, _, .bl false, by decide⟩⟩
      · exact ⟨⟨⟨_, rfl⟩, _, _, .non, by decide⟩, rfl, .inr ⟨(kn _).2.2.2.1, _, _, .non, by decide⟩⟩
      · exact ⟨⟨⟨_, rfl⟩, _, _, .str _ (flat_str _), by omega⟩, rfl, .inr ⟨(ks _ _).2.2.2.1, _, _, .str _ (flat_str _), by omega⟩⟩
      · exact ⟨⟨⟨"list", by rw [tyN, hl09] <;> rfl⟩, dl0 H9 zs hl09 (by omega) hz⟩, rfl, .inl ⟨rfl, (kindB hl09 rfl).2.2.2.2.1⟩⟩
      · have tq : ∀ {Hx : Hp}, Hx t0' = some (.tup [.int 0]) → Dq K Hx (.ref t0') (.tuple [.int 0]) 3 (1 * (1921 + 2) + 3) := fun h => .tup (.inl (.inl h)) rfl fun i x d hx hd => by
          cases i with
          | zero => cases hx; cases hd; exact one 2
          | succ i => cases hx
        exact ⟨⟨⟨"tuple", by rw [tyN, ht09] <;> rfl⟩, _, _, tq ht09, by decide⟩, rfl, .inr ⟨(kindB ht09 rfl).2.2.2.2.1, _, _, tq (by rw [wo_at (fun e => by rw [e, hl09] at ht09; cases ht09)]; exact ht09), by decide⟩⟩
      · exact ⟨⟨⟨"dict", by rw [tyN, hdc9] <;> rfl⟩, _, _, .dic hdc9, by decide⟩, rfl, .inr ⟨(kindD hdc9).2.2.2.2.1, _, _, .dic (by rw [wo_at (fun e => by rw [e, hl09] at hdc9; cases hdc9)]; exact hdc9), by decide⟩⟩
      · exact hid _ (by decide) (by have : (10 : Int) ^ Int.toNat 30 = 10 ^ 30 := rfl; omega)
    obtain ⟨th, hth, mem⟩ := at_mem (xs := items ++ [V.ref dc, V.int (10 ^ Int.toNat 30 - 1)]) y0 (by rw [← hit]; exact y1)
    obtain ⟨bd, wi, kind⟩ := all th mem
    refine ⟨_, k9 n8 a8.e, _, rfl, r, rfl, th, hth, ?_⟩
    subst hr2
    refine seqI fun rr2 hr2 => ?_
    simp only [and_assoc, rst, rs, re, ra, rq, rx, ro, rl, rl2, rsp, rz, rix, rln, rg, rd, ri, rv, rk, rdd, rwi, at0, at1, at2, at3, upd_at, List.getElem?_cons_zero, List.getElem?_cons_succ, Option.some.injEq, exists_eq_left', exists_eq_left, List.set_cons_zero, List.set_cons_succ, true_and, and_true, HO.lst.injEq, HO.tup.injEq, exists_and_left, exists_eq, exists_eq', Br.t, Br.f, Be.t, Be.f, List.cons.injEq, List.append_nil, scal, if_true, if_false, ite_true, ite_false, eq_self_iff_true, decide_true, decide_false, Bool.not_true, Bool.not_false, reduceIte, List.nil_append, List.cons_append, reduceCtorEq, false_and, exists_false, false_or, or_false, Int.reduceLT, ral, rmd, rsq, rlu, rdp, rrp, Bool.true_or, Bool.false_or, Bool.or_false, Bool.or_true]
    refine ⟨_, _, rfl, sh, Ob.same wo_same (Ob.same W9.2 ob), bd.1, wi, fun q1 H10 s10 f10 e10 => ?_⟩
    dsimp only
    subst hr2
    have W10 : Wl p H H10 := Wl.trans W9 (Wl.of_same W9.1 s10)
    have nq1 : q1 ≠ l0 := fun e => by rw [e, hl09] at f10; cases f10
    have nt0 : t0' ≠ l0 := fun e => by rw [e, hl09] at ht09; cases ht09
    refine seqJ (fun σ' H' => ∃ zs : List Int, Wl p H H' ∧ H' L = some (.lst items) ∧ H' l0 = some (.lst (zs.map V.int)) ∧ zs.length ≤ 1 + (i + 1) ∧ (∀ z ∈ zs, z = 0 ∨ z = 1) ∧ H' t0' = some (.tup [.int 0]) ∧ H' q1 = some (.lst [.str "number", th]) ∧ (∃ d n, Dq K H' th d 3 n ∧ n ≤ 2 ^ 20) ∧ σ' = [some (.ref p), some v1, some (.int sh.tot), some (.ref L), some (.int (0 + (i : Nat))), some th, some (.ref q1)]) ?_ ?_
    · clear kind wi bd hth mem all dl0 small dqi s5 hdc9 ht09 hl09 hL9 k9 W9 w9 W5 w6 w7 w8 a6 a7 a8 hL hl0 ht0 hzl hz b9 e9 W10 e10 f10 s10 h6 h7 h8
      rintro σ' H11 ⟨zs, W11, hL, hl0, hzl, hz, ht0, hq1, ⟨d, n, hd, hn⟩, rfl⟩
      have lq : ∀ {Hx : Hp} {g : Addr}, Hx g = some (.lst [.str "number", th]) → Dq K Hx th d 3 n → Dq K Hx (.ref g) (.list [.str "number", d]) 4 (2 * (2 ^ 20 + 2) + 3) := fun h h2 => .lst (ds := [.str "number", d]) (.inl (.inl h)) (by rw [h]; nofun) rfl fun i x d' hx hd' => by
        cases i with
        | zero => cases hx; cases hd'; exact .up (.str _ (flat_str "number")) (by decide)
        | succ i =>
          cases i with
          | zero => cases hx; cases hd'; exact .up h2 hn
          | succ i => cases hx
      simp only [and_assoc, rst, rs, re, ra, rq, rx, ro, rl, rl2, rsp, rz, rix, rln, rg, rd, ri, rv, rk, rdd, rwi, at0, at1, at2, at3, upd_at, List.getElem?_cons_zero, List.getElem?_cons_succ, Option.some.injEq, exists_eq_left', exists_eq_left, List.set_cons_zero, List.set_cons_succ, true_and, and_true, HO.lst.injEq, HO.tup.injEq, exists_and_left, exists_eq, exists_eq', Br.t, Br.f, Be.t, Be.f, List.cons.injEq, List.append_nil, scal, if_true, if_false, ite_true, ite_false, eq_self_iff_true, decide_true, decide_false, Bool.not_true, Bool.not_false, reduceIte, List.nil_append, List.cons_append, reduceCtorEq, false_and, exists_false, false_or, or_false, Int.reduceLT, ral, rmd, rsq, rlu, rdp, rrp, Bool.true_or, Bool.false_or, Bool.or_false, Bool.or_true]
      refine ⟨_, 4, _, lq hq1 hd, by decide, by decide, fun g H12 a12 => ⟨_, 4, _, lq a12.e (hd.same a12.s), by decide, by decide, ?_⟩⟩
      obtain ⟨ng, wg, _⟩ := alW W11.1 a12
      simp only [and_assoc, rst, rs, re, ra, rq, rx, ro, rl, rl2, rsp, rz, rix, rln, rg, rd, ri, rv, rk, rdd, rwi, at0, at1, at2, at3, upd_at, List.getElem?_cons_zero, List.getElem?_cons_succ, Option.some.injEq, exists_eq_left', exists_eq_left, List.set_cons_zero, List.set_cons_succ, true_and, and_true, HO.lst.injEq, HO.tup.injEq, exists_and_left, exists_eq, exists_eq', Br.t, Br.f, Be.t, Be.f, List.cons.injEq, List.append_nil, scal, if_true, if_false, ite_true, ite_false, eq_self_iff_true, decide_true, decide_false, Bool.not_true, Bool.not_false, reduceIte, List.nil_append, List.cons_append, reduceCtorEq, false_and, exists_false, false_or, or_false, Int.reduceLT, ral, rmd, rsq, rlu, rdp, rrp, Bool.true_or, Bool.false_or, Bool.or_false, Bool.or_true]
      exact ⟨Wl.trans W11 wg, a12.k hL, _, (_, _), zs, a12.k hl0, hzl, hz, a12.k ht0, rfl, rfl, rfl⟩
    · intro rr2 hr2
      simp only [and_assoc, rst, rs, re, ra, rq, rx, ro, rl, rl2, rsp, rz, rix, rln, rg, rd, ri, rv, rk, rdd, rwi, at0, at1, at2, at3, upd_at, List.getElem?_cons_zero, List.getElem?_cons_succ, Option.some.injEq, exists_eq_left', exists_eq_left, List.set_cons_zero, List.set_cons_succ, true_and, and_true, HO.lst.injEq, HO.tup.injEq, exists_and_left, exists_eq, exists_eq', Br.t, Br.f, Be.t, Be.f, List.cons.injEq, List.append_nil, scal, if_true, if_false, ite_true, ite_false, eq_self_iff_true, decide_true, decide_false, Bool.not_true, Bool.not_false, reduceIte, List.nil_append, List.cons_append, reduceCtorEq, false_and, exists_false, false_or, or_false, Int.reduceLT, ral, rmd, rsq, rlu, rdp, rrp, Bool.true_or, Bool.false_or, Bool.or_false, Bool.or_true]
      rcases kind with ⟨rfl, kl⟩ | ⟨kl, d, n, hd, hn⟩
      · refine ⟨_, isB_same s10 kl, ?_⟩
        simp only [and_assoc, rst, rs, re, ra, rq, rx, ro, rl, rl2, rsp, rz, rix, rln, rg, rd, ri, rv, rk, rdd, rwi, at0, at1, at2, at3, upd_at, List.getElem?_cons_zero, List.getElem?_cons_succ, Option.some.injEq, exists_eq_left', exists_eq_left, List.set_cons_zero, List.set_cons_succ, true_and, and_true, HO.lst.injEq, HO.tup.injEq, exists_and_left, exists_eq, exists_eq', Br.t, Br.f, Be.t, Be.f, List.cons.injEq, List.append_nil, scal, if_true, if_false, ite_true, ite_false, eq_self_iff_true, decide_true, decide_false, Bool.not_true, Bool.not_false, reduceIte, List.nil_append, List.cons_append, reduceCtorEq, false_and, exists_false, false_or, or_false, Int.reduceLT, ral, rmd, rsq, rlu, rdp, rrp, Bool.true_or, Bool.false_or, Bool.or_false, Bool.or_true]
        have hl10 := s10 _ _ hl09
        refine ⟨_, hl10, _, hl10, by rw [List.length_map, sizeLine_eq]; omega, hr2 _ _ ⟨zs ++ [1], ?_, ?_, ?_, ?_, ?_, ?_, ?_, ?_, rfl⟩⟩
        · exact Wl.mut W10 n2 f2
        · rw [upd_ne nLl]; exact s10 _ _ hL9
        · rw [upd_same, List.map_append]; rfl
        · rw [List.length_append, List.length_singleton]; omega
        · intro z hz2
          rcases List.mem_append.mp hz2 with h | h
          · exact hz z h
          · exact .inr (List.mem_singleton.mp h)
        · rw [upd_ne nt0]; exact s10 _ _ ht09
        · rw [upd_ne nq1]; exact e10
        · exact dl0 _ (zs ++ [1]) (by rw [upd_same, List.map_append]; rfl) (by rw [List.length_append, List.length_singleton]; omega) (by
            intro z hz2
            rcases List.mem_append.mp hz2 with h | h
            · exact hz z h
            · exact .inr (List.mem_singleton.mp h))
      · refine ⟨_, isB_same s10 kl, ?_⟩
        simp only [and_assoc, rst, rs, re, ra, rq, rx, ro, rl, rl2, rsp, rz, rix, rln, rg, rd, ri, rv, rk, rdd, rwi, at0, at1, at2, at3, upd_at, List.getElem?_cons_zero, List.getElem?_cons_succ, Option.some.injEq, exists_eq_left', exists_eq_left, List.set_cons_zero, List.set_cons_succ, true_and, and_true, HO.lst.injEq, HO.tup.injEq, exists_and_left, exists_eq, exists_eq', Br.t, Br.f, Be.t, Be.f, List.cons.injEq, List.append_nil, scal, if_true, if_false, ite_true, ite_false, eq_self_iff_true, decide_true, decide_false, Bool.not_true, Bool.not_false, reduceIte, List.nil_append, List.cons_append, reduceCtorEq, false_and, exists_false, false_or, or_false, Int.reduceLT, ral, rmd, rsq, rlu, rdp, rrp, Bool.true_or, Bool.false_or, Bool.or_false, Bool.or_true]
        exact hr2 _ _ ⟨zs, W10, s10 _ _ hL9, s10 _ _ hl09, by omega, hz, s10 _ _ ht09, e10, ⟨d, n, (hd.same wo_same).same s10, hn⟩, rfl⟩
  · rintro σ H5 ⟨v5, v6, zs, W5, _, _, _, _, _, rfl⟩
    subst hr
    simp only [and_assoc, rst, rs, re, ra, rq, rx, ro, rl, rl2, rsp, rz, rix, rln, rg, rd, ri, rv, rk, rdd, rwi, at0, at1, at2, at3, upd_at, List.getElem?_cons_zero, List.getElem?_cons_succ, Option.some.injEq, exists_eq_left', exists_eq_left, List.set_cons_zero, List.set_cons_succ, true_and, and_true, HO.lst.injEq, HO.tup.injEq, exists_and_left, exists_eq, exists_eq', Br.t, Br.f, Be.t, Be.f, List.cons.injEq, List.append_nil, scal, if_true, if_false, ite_true, ite_false, eq_self_iff_true, decide_true, decide_false, Bool.not_true, Bool.not_false, reduceIte, List.nil_append, List.cons_append, reduceCtorEq, false_and, exists_false, false_or, or_false, Int.reduceLT, ral, rmd, rsq, rlu, rdp, rrp, Bool.true_or, Bool.false_or, Bool.or_false, Bool.or_true]
    exact q _ W5
end
end Law

namespace Law
open PySem PySem.Spec PyProof.Rows L2 Sw
/-! what is told, as data; told alike: the same shape -/
def nmT : Sh → Str
  | .bound _ => "below"
  | .shares _ => "shares"
  | .orders _ => "orders"
  | .sets _ _ => "sets"
  | .pair _ _ => "pair"
  | .rows _ _ => "rows"
def dT : Sh → PyData
  | .bound b => .tuple [.str "below", .int b]
  | .shares ps => .tuple [.str "shares", .tuple (ps.map PyData.int)]
  | .orders n => .tuple [.str "orders", .int (n : Nat)]
  | .sets n k => .tuple [.str "sets", .int (n : Nat), .int (k : Nat)]
  | .pair a b => .tuple [.str "pair", dT a, dT b]
  | .rows a n => .tuple [.str "rows", dT a, .int (n : Nat)]
def kT : Sh → Nat
  | .bound _ => 0
  | .shares _ => 1
  | .orders _ => 2
  | .sets _ _ => 3
  | .pair _ _ => 4
  | .rows _ _ => 5
theorem nm_kT : ∀ a b : Sh, nmT a = nmT b → kT a = kT b := by
  intro a b h
  cases a <;> cases b <;> first | rfl | (exact absurd h (by simp only [nmT]; decide +kernel))
theorem two (x y : Str) (d e : List PyData) (h : PyData.eqv (.tuple (.str x :: d)) (.tuple (.str y :: e)) = true) : x = y ∧ PyData.eqvAll d e = true := by
  have h2 : ((x == y) && PyData.eqvAll d e) = true := by
    simpa only [PyData.eqv, PyData.eqvAll] using h
  rw [Bool.and_eq_true] at h2
  exact ⟨beq_iff_eq.mp h2.1, h2.2⟩
theorem restT : ∀ a : Sh, ∃ r, dT a = .tuple (.str (nmT a) :: r)
  | .bound _ => ⟨_, rfl⟩
  | .shares _ => ⟨_, rfl⟩
  | .orders _ => ⟨_, rfl⟩
  | .sets _ _ => ⟨_, rfl⟩
  | .pair _ _ => ⟨_, rfl⟩
  | .rows _ _ => ⟨_, rfl⟩
theorem kT_of {a b : Sh} (h : PyData.eqv (dT a) (dT b) = true) : kT a = kT b := by
  obtain ⟨r, e⟩ := restT a
  obtain ⟨s, e2⟩ := restT b
  rw [e, e2] at h
  exact nm_kT a b (two _ _ _ _ h).1
theorem cons_eqv (x y : PyData) (xs ys : List PyData) (h : PyData.eqvAll (x :: xs) (y :: ys) = true) : PyData.eqv x y = true ∧ PyData.eqvAll xs ys = true := by
  simp only [PyData.eqvAll, Bool.and_eq_true] at h
  exact h
theorem int_eqv {i j : Int} (h : PyData.eqv (.int i) (.int j) = true) : i = j := by
  simp only [PyData.eqv, beq_iff_eq] at h
  exact h
theorem dT_inj : ∀ {a b : Sh}, PyData.eqv (dT a) (dT b) = true → a = b
  | .bound x, b, h => by
    have k := kT_of h
    cases b <;> first | cases k | skip
    rw [int_eqv (cons_eqv _ _ _ _ (two _ _ _ _ h).2).1]
  | .shares ps, b, h => by
    have k := kT_of h
    cases b <;> first | cases k | skip
    have h2 := (cons_eqv _ _ _ _ (two _ _ _ _ h).2).1
    simp only [PyData.eqv, PySem.W.ked_eqvAll, decide_eq_true_eq] at h2
    rw [h2]
  | .orders n, b, h => by
    have k := kT_of h
    cases b <;> first | cases k | skip
    have h2 := int_eqv (cons_eqv _ _ _ _ (two _ _ _ _ h).2).1
    rw [Int.natCast_inj.mp h2]
  | .sets n m, b, h => by
    have k := kT_of h
    cases b <;> first | cases k | skip
    have h2 := cons_eqv _ _ _ _ (two _ _ _ _ h).2
    have h3 := int_eqv (cons_eqv _ _ _ _ h2.2).1
    rw [Int.natCast_inj.mp (int_eqv h2.1), Int.natCast_inj.mp h3]
  | .pair s t, b, h => by
    have k := kT_of h
    cases b <;> first | cases k | skip
    have h2 := cons_eqv _ _ _ _ (two _ _ _ _ h).2
    rw [dT_inj (a := s) h2.1, dT_inj (a := t) (cons_eqv _ _ _ _ h2.2).1]
  | .rows s n, b, h => by
    have k := kT_of h
    cases b <;> first | cases k | skip
    have h2 := cons_eqv _ _ _ _ (two _ _ _ _ h).2
    rw [dT_inj (a := s) h2.1, Int.natCast_inj.mp (int_eqv (cons_eqv _ _ _ _ h2.2).1)]
theorem ints_dp {K : Fg} {H : Hp} : ∀ ps : List Int, DpAll K H (ps.map V.int) (ps.map PyData.int)
  | [] => .nil
  | p :: r => .cons (.int p) (ints_dp r)
theorem td_dp {K : Fg} {H : Hp} : ∀ {sh : Sh} {v : V}, Td H sh v → Dp K H v (dT sh)
  | .bound _, _, ⟨p, e, h⟩ => by rw [e]; exact .tup (SqT.of h) (.cons (.str _) (.cons (.int _) .nil))
  | .shares ps, _, ⟨p, q, e, h, h2⟩ => by rw [e]; exact .tup (SqT.of h) (.cons (.str _) (.cons (.tup (SqT.of h2) (ints_dp ps)) .nil))
  | .orders _, _, ⟨p, e, h⟩ => by rw [e]; exact .tup (SqT.of h) (.cons (.str _) (.cons (.int _) .nil))
  | .sets _ _, _, ⟨p, e, h⟩ => by rw [e]; exact .tup (SqT.of h) (.cons (.str _) (.cons (.int _) (.cons (.int _) .nil)))
  | .pair a b, _, ⟨p, x, y, e, h, h1, h2⟩ => by rw [e]; exact .tup (SqT.of h) (.cons (.str _) (.cons (td_dp (sh := a) h1) (.cons (td_dp (sh := b) h2) .nil)))
  | .rows a n, _, ⟨p, x, e, h, h1⟩ => by rw [e]; exact .tup (SqT.of h) (.cons (.str _) (.cons (td_dp (sh := a) h1) (.cons (.int _) .nil)))
theorem lay_ints : ∀ ps : List Int, PyData.canLayAll0 (ps.map PyData.int) = true
  | [] => rfl
  | p :: r => by
    show (PyData.canLay0 (.int p) && PyData.canLayAll0 (r.map PyData.int)) = true
    rw [lay_ints r]
    rfl
theorem deep_ints : ∀ ps : List Int, PyData.depthAll (ps.map PyData.int) ≤ 0
  | [] => Nat.le_refl _
  | p :: r => by
    have := deep_ints r
    simp only [List.map_cons, PyData.depthAll, PyData.depth]
    omega
theorem str_lay (s : String) : PyData.canLay0 (.str (s : Str)) = true := flat_str s
theorem lay_T : ∀ sh : Sh, PyData.canLay0 (dT sh) = true
  | .bound _ => by simp only [dT, PyData.canLay0, PyData.canLayAll0]; rw [show PyData.strOk ("below" : Str) = true from flat_str "below"]; rfl
  | .shares ps => by
    have := lay_ints ps
    simp only [dT, PyData.canLay0, PyData.canLayAll0]
    rw [this, show PyData.strOk ("shares" : Str) = true from flat_str "shares"]
    rfl
  | .orders _ => by simp only [dT, PyData.canLay0, PyData.canLayAll0]; rw [show PyData.strOk ("orders" : Str) = true from flat_str "orders"]; rfl
  | .sets _ _ => by simp only [dT, PyData.canLay0, PyData.canLayAll0]; rw [show PyData.strOk ("sets" : Str) = true from flat_str "sets"]; rfl
  | .pair a b => by
    have h1 := lay_T a
    have h2 := lay_T b
    simp only [dT, PyData.canLay0, PyData.canLayAll0]
    rw [h1, h2, show PyData.strOk ("pair" : Str) = true from flat_str "pair"]
    rfl
  | .rows a _ => by
    have h1 := lay_T a
    simp only [dT, PyData.canLay0, PyData.canLayAll0]
    rw [h1, show PyData.strOk ("rows" : Str) = true from flat_str "rows"]
    rfl
theorem deep_T : ∀ sh : Sh, PyData.depth (dT sh) ≤ sh.ht + 3
  | .bound _ => by simp only [dT, PyData.depth, PyData.depthAll]; omega
  | .shares ps => by
    have := deep_ints ps
    simp only [dT, PyData.depth, PyData.depthAll]
    omega
  | .orders _ => by simp only [dT, PyData.depth, PyData.depthAll]; omega
  | .sets _ _ => by simp only [dT, PyData.depth, PyData.depthAll]; omega
  | .pair a b => by
    have h1 := deep_T a
    have h2 := deep_T b
    have : (Sh.pair a b).ht = 1 + max a.ht b.ht := rfl
    simp only [dT, PyData.depth, PyData.depthAll]
    omega
  | .rows a n => by
    have h1 := deep_T a
    have : (Sh.rows a n).ht = 1 + a.ht := rfl
    simp only [dT, PyData.depth, PyData.depthAll]
    omega
/-- == of two told shapes: true where they are the same -/
theorem eq_told {K : Fg} {H : Hp} {a b : Sh} {x y : V} (ha : Td H a x) (hb : Td H b y) (h1 : a.ht ≤ 3) (h2 : b.ht ≤ 3) {Q : VK} (q : ∀ c : Bool, (c = true → a = b) → Q (.bl c) H) : rEqA K x y H Q :=
  .inl ⟨_, _, td_dp ha, td_dp hb, shaped_of (lay_T a) (by have := deep_T a; omega), shaped_of (lay_T b) (by have := deep_T b; omega), q _ dT_inj⟩
end Law

-- RDX ral, rmd, rsq, rlu, rdp, rrp, Bool.true_or, Bool.false_or, Bool.or_false, Bool.or_true
set_option pp.deepTerms true
set_option pp.maxSteps 100000
namespace Law
open PySem PySem.Spec PyProof.Rows L2 Sw
section
variable {P : Program} {w : World} {K : Fg} {mg : Str → Option Value} {base : Heap}
/-- the parts of a told pair or of told rows -/
theorem big_parts {H : Hp} {sh : Sh} {v : V} (hb : big sh) (hh : sh.ht ≤ 3) (hok : sh.ok) (td : Td H sh v) : ∃ tp nm x y a, v = .ref tp ∧ H tp = some (.tup [.str nm, x, y]) ∧ Td H a x ∧ a.ht ≤ 2 ∧ a.ok ∧
    ((nm = "rows" ∧ ∃ n : Nat, y = .int (n : Int) ∧ sh = .rows a n) ∨ (¬ nm = "rows" ∧ ∃ b, sh = .pair a b ∧ Td H b y)) := by
  cases sh with
  | pair a b =>
    obtain ⟨p, x, y, e, h, h1, h2⟩ := td
    have : 1 + max a.ht b.ht ≤ 3 := hh
    exact ⟨p, _, x, y, a, e, h, h1, by omega, hok.1, .inr ⟨by decide +kernel, b, rfl, h2⟩⟩
  | rows a n =>
    obtain ⟨p, x, e, h, h1⟩ := td
    have : 1 + a.ht ≤ 3 := hh
    exact ⟨p, _, x, _, a, e, h, h1, by omega, hok.1, .inl ⟨rfl, n, rfl, rfl⟩⟩
  | _ => exact hb.elim
theorem wlist {p : Addr} {H H' : Hp} (w : Wl p H H') : ∃ l, H' p = some (.lst l) := by
  obtain ⟨_, _, _, e⟩ := w.1
  exact ⟨_, e⟩
theorem ok_law {fd : FuncData} (T : Tx K mg w) (F_law : FunD K "law" "law" (defArgs s_law) (defBody s_law) (defScope s_law) [] [] (He.ga K "law") fd) (c_Pair_init : CalM P w K mg base 6 "Pair" "__init__" ["self", "one", "other"] (sp_Pair_init K)) (c_Rows_init : CalM P w K mg base 6 "Rows" "__init__" ["self", "shape", "many"] (sp_Rows_init K)) (c__law_cell_at : Cal P w K mg base 1 "_law_cell_at" ["script", "k"] (sp__law_cell_at K)) (c__law_box : Cal P w K mg base 1 "_law_box" ["cell"] (sp__law_box K)) (c__law_take : Cal P w K mg base 1 "_law_take" ["box", "many"] (sp__law_take K)) (c__law_total : Cal P w K mg base 6 "_law_total" ["told"] (sp__law_total K)) (c__law_shape : Cal P w K mg base 12 "_law_shape" ["told"] (sp__law_shape K)) (c__law_told : Cal P w K mg base 11 "_law_told" ["box", "room", "most"] (sp__law_told K)) (c__law_numbers : Cal P w K mg base 2 "_law_numbers" ["box", "total"] (sp__law_numbers K)) (c__law_right : Cal P w K mg base 16 "_law_right" ["shape", "told", "numbers"] (sp__law_right K)) (c__law_refused_right : Cal P w K mg base 13 "_law_refused_right" ["box", "shape", "total"] (sp__law_refused_right K)) (c__law_made : Cal P w K mg base 12 "_law_made" ["box", "most"] (sp__law_made K)) : FnG P w K mg base 17 (He.ga K "law") fd ["script"] (sp_law K) := by
  refine fn_mk F_law sc_law (len1 _) (fun cdv A outer s H vs Q E hr h => ?_)
  obtain ⟨v0, rfl, h⟩ := h
  have hu := hu_of hr.r
  refine ⟨_, (pss_cons (ps_for (passes_of rfl) rfl (pi_range1 (by rfl) T.n_range (pa_cons (pe_callB (call_max2 rfl) (by rfl) T.n_max (by decide +kernel) (pa_cons pe_int (pa_cons (pe_callB (call_min2 rfl) (by rfl) T.n_min (by decide +kernel) (pa_cons (pe_callB call_len_seq (by rfl) T.n_len (by decide +kernel) (pa_cons (pv 0) pa_nil)) (pa_cons pe_int pa_nil))) pa_nil))) pa_nil)) (pg_name (i := 1) sc_law.nd rfl (Or.inl rfl)) (pss_cons (ps_set (i := 2) sc_law.nd rfl (Or.inl rfl) (pe_cal c__law_box hr (by decide) passL rfl (pa_cons (pe_cal c__law_cell_at hr (by decide) passL rfl (pa_cons (pv 0) (pa_cons (pv 1) pa_nil))) pa_nil)))
      (pss_cons (ps_set (i := 3) sc_law.nd rfl (Or.inl rfl) (pe_ix ix_q (pe_lstA (pa_cons pe_int (pa_cons pe_int (pa_cons (pe_op op_pow pe_int pe_int) pa_nil)))) (pe_cal c__law_take hr (by decide) passL rfl (pa_cons (pv 2) (pa_cons pe_int pa_nil))) (fun _ _ => rfl)))
      (pss_cons (ps_set (i := 4) sc_law.nd rfl (Or.inl rfl) (pe_cal c__law_made hr (by decide) passL rfl (pa_cons (pv 2) (pa_cons (pv 3) pa_nil))))
      (pss_cons (ps_set (i := 5) sc_law.nd rfl (Or.inl rfl) (pe_cal c__law_shape hr (by decide) passL rfl (pa_cons (pe_ix ix_q (pv 4) pe_int (fun _ _ => rfl)) pa_nil)))
      (pss_cons (ps_if (pt_cmpR op_eq (pe_ix ix_q (pv 4) pe_int (fun _ _ => rfl)) pe_str (nomark _)) (pss_one (ps_set (i := 6) sc_law.nd rfl (Or.inl rfl) (pe_mk c_Rows_init T.mk_Rows T.g_Rows hr (by decide) passL rfl (pa_cons (pv 5) (pa_cons (pe_ix ix_q (pv 4) pe_int (fun _ _ => rfl)) pa_nil))))) (pss_one (ps_if (pt_cmpR (op_eqA hr.units) (pe_ix ix_q (pv 4) pe_int (fun _ _ => rfl)) (pe_ix ix_q (pv 4) pe_int (fun _ _ => rfl)) (nomark _)) (pss_one (ps_set (i := 6) sc_law.nd rfl (Or.inl rfl) (pe_mk c_Pair_init T.mk_Pair T.g_Pair hr (by decide) passL rfl (pa_cons (pv 5) (pa_cons (pv 5) pa_nil))))) (pss_one (ps_set (i := 6) sc_law.nd rfl (Or.inl rfl) (pe_mk c_Pair_init T.mk_Pair T.g_Pair hr (by decide) passL rfl (pa_cons (pv 5) (pa_cons (pe_cal c__law_shape hr (by decide) passL rfl (pa_cons (pe_ix ix_q (pv 4) pe_int (fun _ _ => rfl)) pa_nil)) pa_nil))))))))
      (pss_cons (ps_set (i := 7) sc_law.nd rfl (Or.inl rfl) (pe_cal c__law_numbers hr (by decide) passL rfl (pa_cons (pv 2) (pa_cons (pe_cal c__law_total hr (by decide) passL rfl (pa_cons (pv 4) pa_nil)) pa_nil))))
      (pss_cons (ps_set (i := 8) sc_law.nd rfl (Or.inl rfl) (pe_cal c__law_told hr (by decide) passL rfl (pa_cons (pv 2) (pa_cons pe_int (pa_cons pe_int pa_nil)))))
      (pss_cons (ps_if (PW.pt (pw_or (pt_not (pt_val (pe_cal c__law_right hr (by decide) passL rfl (pa_cons (pv 6) (pa_cons (pv 4) (pa_cons (pv 7) pa_nil)))))) (pw_or1 (pt_not (pt_val (pe_cal c__law_right hr (by decide) passL rfl (pa_cons (pe_cal c__law_shape hr (by decide) passL rfl (pa_cons (pv 8) pa_nil)) (pa_cons (pv 8) (pa_cons (pe_lstA (pa_cons pe_int pa_nil)) pa_nil))))))))) (pss_one (ps_ret pe_bl)) pss_nil)
      (pss_cons (ps_if (pt_not (pt_val (pe_cal c__law_right hr (by decide) passL rfl (pa_cons (pv 5) (pa_cons (pe_ix ix_q (pv 4) pe_int (fun _ _ => rfl)) (pa_cons (pe_cal c__law_numbers hr (by decide) passL rfl (pa_cons (pv 2) (pa_cons (pe_cal c__law_total hr (by decide) passL rfl (pa_cons (pe_ix ix_q (pv 4) pe_int (fun _ _ => rfl)) pa_nil)) pa_nil))) pa_nil)))))) (pss_one (ps_ret pe_bl)) pss_nil)
      (pss_cons (ps_for (passes_of rfl) rfl (pi_q (pe_lstA (pa_cons (pe_tupA (pa_cons (pv 6) (pa_cons (pv 4) pa_nil))) (pa_cons (pe_tupA (pa_cons (pe_cal c__law_shape hr (by decide) passL rfl (pa_cons (pv 8) pa_nil)) (pa_cons (pv 8) pa_nil))) (pa_cons (pe_tupA (pa_cons (pv 5) (pa_cons (pe_ix ix_q (pv 4) pe_int (fun _ _ => rfl)) pa_nil))) pa_nil))))) (pg_tupQ rfl (pgs_cons (pg_name (i := 9) sc_law.nd rfl (Or.inl rfl)) (pgs_cons (pg_name (i := 10) sc_law.nd rfl (Or.inl rfl)) pgs_nil)) (gname_len (gname_len (fun _ _ _ _ h => gnil_len h)))) (pss_one (ps_if (pt_not (pt_val (pe_cal c__law_refused_right hr (by decide) passL rfl (pa_cons (pv 2) (pa_cons (pv 9) (pa_cons (pe_cal c__law_total hr (by decide) passL rfl (pa_cons (pv 10) pa_nil)) pa_nil)))))) (pss_one (ps_ret pe_bl)) pss_nil)))
      (pss_one (ps_if (pt_not (pt_val (pe_cal c__law_right hr (by decide) passL rfl (pa_cons (pv 6) (pa_cons (pv 4) (pa_cons (pe_revL (pv 7)) pa_nil)))))) (pss_one (ps_ret pe_bl)) pss_nil)))))))))))))
      (pss_one (ps_ret pe_bl))), ?_⟩
  obtain ⟨a, ns, rfl, hS, hl, q⟩ := h
  simp only [and_assoc, rst, rs, re, ra, rq, rx, ro, rl, rl2, rsp, rz, rix, rln, rg, rd, ri, rv, rk, rdd, rwi, at0, at1, at2, at3, upd_at, List.getElem?_cons_zero, List.getElem?_cons_succ, Option.some.injEq, exists_eq_left', exists_eq_left, List.set_cons_zero, List.set_cons_succ, true_and, and_true, HO.lst.injEq, HO.tup.injEq, exists_and_left, exists_eq, exists_eq', Br.t, Br.f, Be.t, Be.f, List.cons.injEq, List.append_nil, scal, if_true, if_false, ite_true, ite_false, eq_self_iff_true, decide_true, decide_false, Bool.not_true, Bool.not_false, reduceIte, List.nil_append, List.cons_append, reduceCtorEq, false_and, exists_false, false_or, or_false, Int.reduceLT, ral, rmd, rsq, rlu, rdp, rrp, Bool.true_or, Bool.false_or, Bool.or_false, Bool.or_true]
  generalize hn : (if (if (8 : Int) < ((ns.map V.int).length : Int) then (8 : Int) else ((ns.map V.int).length : Int)) > 1 then if (8 : Int) < ((ns.map V.int).length : Int) then (8 : Int) else ((ns.map V.int).length : Int) else 1) = n
  have hn6 : 1 ≤ n ∧ n ≤ 8 := by
    rw [← hn]
    split
    · split <;> omega
    · omega
  refine ⟨ns.map V.int, .inl hS, ?_⟩
  rw [hn]
  refine ⟨by omega, by omega, FI.rng (fun i σ H' => ∃ v1 v2 v3 v4 v5 v6 v7 v8 v9 v10, Same H H' ∧ σ = [some (.ref a), v1, v2, v3, v4, v5, v6, v7, v8, v9, v10]) ⟨none, none, none, none, none, none, none, none, none, none, fun _ _ e => e, rfl⟩ ?_ ?_⟩
  · rintro i σ H' hi ⟨v1, v2, v3, v4, v5, v6, v7, v8, v9, v10, s, rfl⟩
    refine seqI fun rr hr => ?_
    simp only [and_assoc, rst, rs, re, ra, rq, rx, ro, rl, rl2, rsp, rz, rix, rln, rg, rd, ri, rv, rk, rdd, rwi, at0, at1, at2, at3, upd_at, List.getElem?_cons_zero, List.getElem?_cons_succ, Option.some.injEq, exists_eq_left', exists_eq_left, List.set_cons_zero, List.set_cons_succ, true_and, and_true, HO.lst.injEq, HO.tup.injEq, exists_and_left, exists_eq, exists_eq', Br.t, Br.f, Be.t, Be.f, List.cons.injEq, List.append_nil, scal, if_true, if_false, ite_true, ite_false, eq_self_iff_true, decide_true, decide_false, Bool.not_true, Bool.not_false, reduceIte, List.nil_append, List.cons_append, reduceCtorEq, false_and, exists_false, false_or, or_false, Int.reduceLT, ral, rmd, rsq, rlu, rdp, rrp, Bool.true_or, Bool.false_or, Bool.or_false, Bool.or_true]
    rw [Int.zero_add]
    refine ⟨_, _, rfl, a, ns, i, rfl, sql_same s hS, rfl, by omega, fun z => ?_⟩
    refine ⟨_, rfl, z, rfl, fun p H1 s1 f1 w1 => ?_⟩
    have fp : H p = none := Same.free s f1
    subst hr
    refine seqI fun rr hr => ?_
    simp only [and_assoc, rst, rs, re, ra, rq, rx, ro, rl, rl2, rsp, rz, rix, rln, rg, rd, ri, rv, rk, rdd, rwi, at0, at1, at2, at3, upd_at, List.getElem?_cons_zero, List.getElem?_cons_succ, Option.some.injEq, exists_eq_left', exists_eq_left, List.set_cons_zero, List.set_cons_succ, true_and, and_true, HO.lst.injEq, HO.tup.injEq, exists_and_left, exists_eq, exists_eq', Br.t, Br.f, Be.t, Be.f, List.cons.injEq, List.append_nil, scal, if_true, if_false, ite_true, ite_false, eq_self_iff_true, decide_true, decide_false, Bool.not_true, Bool.not_false, reduceIte, List.nil_append, List.cons_append, reduceCtorEq, false_and, exists_false, false_or, or_false, Int.reduceLT, ral, rmd, rsq, rlu, rdp, rrp, Bool.true_or, Bool.false_or, Bool.or_false, Bool.or_true]
    refine ⟨⟨by decide, by decide, by decide⟩, fun d H2 al => ?_⟩
    obtain ⟨nd, W2, _⟩ := alW w1 al
    refine ⟨_, _, rfl, p, 3, rfl, W2.1, rfl, by decide, by decide, fun r H3 a0 a1 b3 e3 => ?_⟩
    have hx : ∃ m : Int, 1 ≤ m ∧ m ≤ 2 ^ 64 ∧ atI [V.int 12, V.int 200, V.int (2 ^ Int.toNat 64)] r = some (.int m) := by
      have : r = 0 ∨ r = 1 ∨ r = 2 := by omega
      rcases this with rfl | rfl | rfl
      · exact ⟨12, by decide, by decide, rfl⟩
      · exact ⟨200, by decide, by decide, rfl⟩
      · exact ⟨2 ^ 64, by decide, by decide, rfl⟩
    obtain ⟨m, m0, m1, hx⟩ := hx
    refine ⟨_, (e3 d nd).trans al.e, _, rfl, _, rfl, _, hx, ?_⟩
    have W3 : Wl p H1 H3 := Wl.trans W2 (Wl.draw b3 e3)
    clear W2 e3 hx al nd
    subst hr
    refine seqI fun rr hr => ?_
    simp only [and_assoc, rst, rs, re, ra, rq, rx, ro, rl, rl2, rsp, rz, rix, rln, rg, rd, ri, rv, rk, rdd, rwi, at0, at1, at2, at3, upd_at, List.getElem?_cons_zero, List.getElem?_cons_succ, Option.some.injEq, exists_eq_left', exists_eq_left, List.set_cons_zero, List.set_cons_succ, true_and, and_true, HO.lst.injEq, HO.tup.injEq, exists_and_left, exists_eq, exists_eq', Br.t, Br.f, Be.t, Be.f, List.cons.injEq, List.append_nil, scal, if_true, if_false, ite_true, ite_false, eq_self_iff_true, decide_true, decide_false, Bool.not_true, Bool.not_false, reduceIte, List.nil_append, List.cons_append, reduceCtorEq, false_and, exists_false, false_or, or_false, Int.reduceLT, ral, rmd, rsq, rlu, rdp, rrp, Bool.true_or, Bool.false_or, Bool.or_false, Bool.or_true]
    refine ⟨_, _, rfl, p, m, rfl, b3, rfl, m0, m1, fun told sh H4 W4 hh hb hok td => ?_⟩
    have WH4 := Wl.trans W3 W4
    clear W4 W3 b3
    obtain ⟨tp, nm, x, y, sa, rfl, ht, tx, ha2, haok, kind⟩ := big_parts hb hh hok td
    obtain ⟨t0, t1⟩ := tot_ok hok
    obtain ⟨ta0, ta1⟩ := tot_ok haok
    have ntp : tp ≠ p := fun e => by unfold wo at ht; rw [if_pos e] at ht; cases ht
    have htf := wo_same _ _ ht
    subst hr
    refine seqI fun rr hr => ?_
    simp only [and_assoc, rst, rs, re, ra, rq, rx, ro, rl, rl2, rsp, rz, rix, rln, rg, rd, ri, rv, rk, rdd, rwi, at0, at1, at2, at3, upd_at, List.getElem?_cons_zero, List.getElem?_cons_succ, Option.some.injEq, exists_eq_left', exists_eq_left, List.set_cons_zero, List.set_cons_succ, true_and, and_true, HO.lst.injEq, HO.tup.injEq, exists_and_left, exists_eq, exists_eq', Br.t, Br.f, Be.t, Be.f, List.cons.injEq, List.append_nil, scal, if_true, if_false, ite_true, ite_false, eq_self_iff_true, decide_true, decide_false, Bool.not_true, Bool.not_false, reduceIte, List.nil_append, List.cons_append, reduceCtorEq, false_and, exists_false, false_or, or_false, Int.reduceLT, ral, rmd, rsq, rlu, rdp, rrp, Bool.true_or, Bool.false_or, Bool.or_false, Bool.or_true, htf]
    refine ⟨_, rfl, sa, p, wlist WH4, by omega, by omega, haok, Td.same wo_same tx, fun inner H5 s5 oi => ?_⟩
    have W5 := Wl.of_same WH4.1 s5
    subst hr
    refine seqJ (fun σ' H' => ∃ o, Wl p H4 H' ∧ Ob K (wo p H') sh o ∧ Ob K (wo p H') sa inner ∧ σ' = [some (.ref a), some (.int (i : Int)), some (.ref p), some (.int m), some (.ref tp), some inner, some o, v7, v8, v9, v10]) ?_ ?_
    · clear kind htf ntp s5 oi W5
      have tx' := tx
      clear tx
      rintro σ' H6 ⟨o, W6, ob, oi, rfl⟩
      have ntp : tp ≠ p := fun e => by unfold wo at ht; rw [if_pos e] at ht; cases ht
      -- what stays behind any drawing
      have tdx : ∀ {Hx : Hp}, Wl p H6 Hx → Td Hx sh (.ref tp) := fun w => Td.same wo_same (Td.same (Wl.trans W6 w).2 td)
      have txx : ∀ {Hx : Hp}, Wl p H6 Hx → Td Hx sa x := fun w => Td.same wo_same (Td.same (Wl.trans W6 w).2 tx')
      have htx : ∀ {Hx : Hp}, Wl p H6 Hx → Hx tp = some (.tup [.str nm, x, y]) := fun w => wo_same _ _ ((Wl.trans W6 w).2 _ _ ht)
      have obx : ∀ {Hx : Hp}, Wl p H6 Hx → Ob K Hx sh o := fun w => Ob.same wo_same (Ob.same w.2 ob)
      have oix : ∀ {Hx : Hp}, Wl p H6 Hx → Ob K Hx sa inner := fun w => Ob.same wo_same (Ob.same w.2 oi)
      refine seqI fun rr hr => ?_
      simp only [and_assoc, rst, rs, re, ra, rq, rx, ro, rl, rl2, rsp, rz, rix, rln, rg, rd, ri, rv, rk, rdd, rwi, at0, at1, at2, at3, upd_at, List.getElem?_cons_zero, List.getElem?_cons_succ, Option.some.injEq, exists_eq_left', exists_eq_left, List.set_cons_zero, List.set_cons_succ, true_and, and_true, HO.lst.injEq, HO.tup.injEq, exists_and_left, exists_eq, exists_eq', Br.t, Br.f, Be.t, Be.f, List.cons.injEq, List.append_nil, scal, if_true, if_false, ite_true, ite_false, eq_self_iff_true, decide_true, decide_false, Bool.not_true, Bool.not_false, reduceIte, List.nil_append, List.cons_append, reduceCtorEq, false_and, exists_false, false_or, or_false, Int.reduceLT, ral, rmd, rsq, rlu, rdp, rrp, Bool.true_or, Bool.false_or, Bool.or_false, Bool.or_true]
      refine ⟨_, rfl, sh, by omega, ok_okS hok, tdx (Wl.refl W6.1), ?_⟩
      refine ⟨_, _, rfl, p, sh.tot, rfl, W6.1, rfl, by omega, t1, fun nq zs H7 W7 hnq hzs hzl => ?_⟩
      have nnq : nq ≠ p := fun e => by unfold wo at hnq; rw [if_pos e] at hnq; cases hnq
      have hnqx : ∀ {Hx : Hp}, Wl p H7 Hx → Hx nq = some (.lst (zs.map V.int)) := fun w => wo_same _ _ (w.2 _ _ hnq)
      subst hr
      refine seqI fun rr hr => ?_
      simp only [and_assoc, rst, rs, re, ra, rq, rx, ro, rl, rl2, rsp, rz, rix, rln, rg, rd, ri, rv, rk, rdd, rwi, at0, at1, at2, at3, upd_at, List.getElem?_cons_zero, List.getElem?_cons_succ, Option.some.injEq, exists_eq_left', exists_eq_left, List.set_cons_zero, List.set_cons_succ, true_and, and_true, HO.lst.injEq, HO.tup.injEq, exists_and_left, exists_eq, exists_eq', Br.t, Br.f, Be.t, Be.f, List.cons.injEq, List.append_nil, scal, if_true, if_false, ite_true, ite_false, eq_self_iff_true, decide_true, decide_false, Bool.not_true, Bool.not_false, reduceIte, List.nil_append, List.cons_append, reduceCtorEq, false_and, exists_false, false_or, or_false, Int.reduceLT, ral, rmd, rsq, rlu, rdp, rrp, Bool.true_or, Bool.false_or, Bool.or_false, Bool.or_true]
      refine ⟨_, _, _, rfl, p, 200, 3, rfl, W7.1, rfl, by decide, by decide, rfl, by decide, by decide, fun bes sb H8 W8 bh bok btot btd => ?_⟩
      have btdx : ∀ {Hx : Hp}, Wl p H8 Hx → Td Hx sb bes := fun w => Td.same wo_same (Td.same w.2 btd)
      have W78 := Wl.trans W7 W8
      obtain ⟨b0, b1⟩ := tot_ok bok
      subst hr
      refine seqI fun rr hr => ?_
      simp only [and_assoc, rst, rs, re, ra, rq, rx, ro, rl, rl2, rsp, rz, rix, rln, rg, rd, ri, rv, rk, rdd, rwi, at0, at1, at2, at3, upd_at, List.getElem?_cons_zero, List.getElem?_cons_succ, Option.some.injEq, exists_eq_left', exists_eq_left, List.set_cons_zero, List.set_cons_succ, true_and, and_true, HO.lst.injEq, HO.tup.injEq, exists_and_left, exists_eq, exists_eq', Br.t, Br.f, Be.t, Be.f, List.cons.injEq, List.append_nil, scal, if_true, if_false, ite_true, ite_false, eq_self_iff_true, decide_true, decide_false, Bool.not_true, Bool.not_false, reduceIte, List.nil_append, List.cons_append, reduceCtorEq, false_and, exists_false, false_or, or_false, Int.reduceLT, ral, rmd, rsq, rlu, rdp, rrp, Bool.true_or, Bool.false_or, Bool.or_false, Bool.or_true]
      refine ⟨_, _, _, rfl, sh, nq, zs, hh, hok, obx W78, tdx W78, rfl, hnqx W8, hzs, fun H9 s9 => ?_⟩
      have W9 := Wl.of_same W8.1 s9
      simp only [and_assoc, rst, rs, re, ra, rq, rx, ro, rl, rl2, rsp, rz, rix, rln, rg, rd, ri, rv, rk, rdd, rwi, at0, at1, at2, at3, upd_at, List.getElem?_cons_zero, List.getElem?_cons_succ, Option.some.injEq, exists_eq_left', exists_eq_left, List.set_cons_zero, List.set_cons_succ, true_and, and_true, HO.lst.injEq, HO.tup.injEq, exists_and_left, exists_eq, exists_eq', Br.t, Br.f, Be.t, Be.f, List.cons.injEq, List.append_nil, scal, if_true, if_false, ite_true, ite_false, eq_self_iff_true, decide_true, decide_false, Bool.not_true, Bool.not_false, reduceIte, List.nil_append, List.cons_append, reduceCtorEq, false_and, exists_false, false_or, or_false, Int.reduceLT, ral, rmd, rsq, rlu, rdp, rrp, Bool.true_or, Bool.false_or, Bool.or_false, Bool.or_true]
      refine ⟨_, rfl, sb, p, wlist W9, by omega, by omega, bok, btdx W9, fun bo H10 s10 obs => ?_⟩
      have W10 := Wl.trans W9 (Wl.of_same W9.1 s10)
      refine fun z0 H11 a11 => ?_
      obtain ⟨nz, w11, hz0⟩ := alW W10.1 a11
      have W11 := Wl.trans W10 w11
      refine ⟨_, _, _, rfl, sb, z0, [0], by omega, bok, Ob.same a11.s (Ob.same wo_same obs), btdx W11, rfl, a11.e, fun z hz => by rw [List.mem_singleton.mp hz]; omega, fun H12 s12 => ?_⟩
      have W12 := Wl.trans W11 (Wl.of_same W11.1 s12)
      simp only [and_assoc, rst, rs, re, ra, rq, rx, ro, rl, rl2, rsp, rz, rix, rln, rg, rd, ri, rv, rk, rdd, rwi, at0, at1, at2, at3, upd_at, List.getElem?_cons_zero, List.getElem?_cons_succ, Option.some.injEq, exists_eq_left', exists_eq_left, List.set_cons_zero, List.set_cons_succ, true_and, and_true, HO.lst.injEq, HO.tup.injEq, exists_and_left, exists_eq, exists_eq', Br.t, Br.f, Be.t, Be.f, List.cons.injEq, List.append_nil, scal, if_true, if_false, ite_true, ite_false, eq_self_iff_true, decide_true, decide_false, Bool.not_true, Bool.not_false, reduceIte, List.nil_append, List.cons_append, reduceCtorEq, false_and, exists_false, false_or, or_false, Int.reduceLT, ral, rmd, rsq, rlu, rdp, rrp, Bool.true_or, Bool.false_or, Bool.or_false, Bool.or_true]
      subst hr
      refine seqI fun rr hr => ?_
      have W612 := Wl.trans W78 W12
      simp only [and_assoc, rst, rs, re, ra, rq, rx, ro, rl, rl2, rsp, rz, rix, rln, rg, rd, ri, rv, rk, rdd, rwi, at0, at1, at2, at3, upd_at, List.getElem?_cons_zero, List.getElem?_cons_succ, Option.some.injEq, exists_eq_left', exists_eq_left, List.set_cons_zero, List.set_cons_succ, true_and, and_true, HO.lst.injEq, HO.tup.injEq, exists_and_left, exists_eq, exists_eq', Br.t, Br.f, Be.t, Be.f, List.cons.injEq, List.append_nil, scal, if_true, if_false, ite_true, ite_false, eq_self_iff_true, decide_true, decide_false, Bool.not_true, Bool.not_false, reduceIte, List.nil_append, List.cons_append, reduceCtorEq, false_and, exists_false, false_or, or_false, Int.reduceLT, ral, rmd, rsq, rlu, rdp, rrp, Bool.true_or, Bool.false_or, Bool.or_false, Bool.or_true, htx W612]
      refine ⟨_, rfl, sa, by omega, ok_okS haok, txx W612, ?_⟩
      refine ⟨_, _, rfl, p, sa.tot, rfl, W12.1, rfl, by omega, ta1, fun n3 zs3 H13 W13 hn3 hz3 _ => ?_⟩
      have W613 := Wl.trans W612 W13
      refine ⟨_, _, _, rfl, sa, n3, zs3, by omega, haok, oix W613, txx W613, rfl, wo_same _ _ hn3, hz3, fun H14 s14 => ?_⟩
      have W14 := Wl.of_same W13.1 s14
      have W814 := Wl.trans W12 (Wl.trans W13 W14)
      simp only [and_assoc, rst, rs, re, ra, rq, rx, ro, rl, rl2, rsp, rz, rix, rln, rg, rd, ri, rv, rk, rdd, rwi, at0, at1, at2, at3, upd_at, List.getElem?_cons_zero, List.getElem?_cons_succ, Option.some.injEq, exists_eq_left', exists_eq_left, List.set_cons_zero, List.set_cons_succ, true_and, and_true, HO.lst.injEq, HO.tup.injEq, exists_and_left, exists_eq, exists_eq', Br.t, Br.f, Be.t, Be.f, List.cons.injEq, List.append_nil, scal, if_true, if_false, ite_true, ite_false, eq_self_iff_true, decide_true, decide_false, Bool.not_true, Bool.not_false, reduceIte, List.nil_append, List.cons_append, reduceCtorEq, false_and, exists_false, false_or, or_false, Int.reduceLT, ral, rmd, rsq, rlu, rdp, rrp, Bool.true_or, Bool.false_or, Bool.or_false, Bool.or_true]
      subst hr
      refine seqI fun rr hr => ?_
      have W614 := Wl.trans W78 W814
      have obp : ∀ {Hx : Hp}, Wl p H6 Hx → Ob K (wo p Hx) sh o ∧ Td (wo p Hx) sh (.ref tp) ∧ Ob K (wo p Hx) sa inner ∧ Td (wo p Hx) sa x := fun w => ⟨Ob.same w.2 ob, Td.same (Wl.trans W6 w).2 td, Ob.same w.2 oi, Td.same (Wl.trans W6 w).2 tx'⟩
      simp only [and_assoc, rst, rs, re, ra, rq, rx, ro, rl, rl2, rsp, rz, rix, rln, rg, rd, ri, rv, rk, rdd, rwi, at0, at1, at2, at3, upd_at, List.getElem?_cons_zero, List.getElem?_cons_succ, Option.some.injEq, exists_eq_left', exists_eq_left, List.set_cons_zero, List.set_cons_succ, true_and, and_true, HO.lst.injEq, HO.tup.injEq, exists_and_left, exists_eq, exists_eq', Br.t, Br.f, Be.t, Be.f, List.cons.injEq, List.append_nil, scal, if_true, if_false, ite_true, ite_false, eq_self_iff_true, decide_true, decide_false, Bool.not_true, Bool.not_false, reduceIte, List.nil_append, List.cons_append, reduceCtorEq, false_and, exists_false, false_or, or_false, Int.reduceLT, ral, rmd, rsq, rlu, rdp, rrp, Bool.true_or, Bool.false_or, Bool.or_false, Bool.or_true]
      intro t1' H15 a15
      obtain ⟨nt1, w15, ht1⟩ := alW W614.1 a15
      have W815 := Wl.trans W814 w15
      refine ⟨_, rfl, sb, p, wlist W815, by omega, by omega, bok, btdx W815, fun bo2 H16 s16 obs2 => ?_⟩
      have w16 := Wl.of_same W815.1 s16
      have W816 := Wl.trans W815 w16
      refine fun t2 H17 a17 => ?_
      obtain ⟨nt2, w17, ht2⟩ := alW W816.1 a17
      have W817 := Wl.trans W816 w17
      have W617 := Wl.trans W78 W817
      simp only [and_assoc, rst, rs, re, ra, rq, rx, ro, rl, rl2, rsp, rz, rix, rln, rg, rd, ri, rv, rk, rdd, rwi, at0, at1, at2, at3, upd_at, List.getElem?_cons_zero, List.getElem?_cons_succ, Option.some.injEq, exists_eq_left', exists_eq_left, List.set_cons_zero, List.set_cons_succ, true_and, and_true, HO.lst.injEq, HO.tup.injEq, exists_and_left, exists_eq, exists_eq', Br.t, Br.f, Be.t, Be.f, List.cons.injEq, List.append_nil, scal, if_true, if_false, ite_true, ite_false, eq_self_iff_true, decide_true, decide_false, Bool.not_true, Bool.not_false, reduceIte, List.nil_append, List.cons_append, reduceCtorEq, false_and, exists_false, false_or, or_false, Int.reduceLT, ral, rmd, rsq, rlu, rdp, rrp, Bool.true_or, Bool.false_or, Bool.or_false, Bool.or_true, htx W617]
      refine fun t3 H18 a18 => ?_
      obtain ⟨nt3, w18, ht3⟩ := alW W817.1 a18
      have W818 := Wl.trans W817 w18
      refine fun tl H19 a19 => ?_
      obtain ⟨ntl, w19, htl⟩ := alW W818.1 a19
      have W819 := Wl.trans W818 w19
      have W619 := Wl.trans W78 W819
      have its : ∀ v ∈ [V.ref t1', V.ref t2, V.ref t3], ∃ tj oj tj' sj, v = .ref tj ∧ wo p H19 tj = some (.tup [oj, tj']) ∧ Ob K (wo p H19) sj oj ∧ Td (wo p H19) sj tj' ∧ sj.ht ≤ 3 ∧ sj.ok := by
        intro v hv
        simp only [List.mem_cons, List.not_mem_nil, or_false] at hv
        rcases hv with rfl | rfl | rfl
        · exact ⟨t1', _, _, sh, rfl, (Wl.trans w16 (Wl.trans w17 (Wl.trans w18 w19))).2 _ _ ht1, (obp W619).1, (obp W619).2.1, hh, hok⟩
        · exact ⟨t2, _, _, sb, rfl, (Wl.trans w18 w19).2 _ _ ht2, Ob.same (Wl.trans w17 (Wl.trans w18 w19)).2 obs2, Td.same W819.2 btd, bh, bok⟩
        · exact ⟨t3, _, _, sa, rfl, w19.2 _ _ ht3, (obp W619).2.2.1, (obp W619).2.2.2, by omega, haok⟩
      have hl := a19.e
      generalize [V.ref t1', V.ref t2, V.ref t3] = items at hl its
      refine ⟨_, hl, _, rfl, FI.seq (o := .lst items) rfl (fun k σ H' => ∃ v9 v10, Wl p H19 H' ∧ σ = [some (.ref a), some (.int (i : Int)), some (.ref p), some (.int m), some (.ref tp), some inner, some o, some (.ref nq), some bes, v9, v10]) ⟨v9, v10, Wl.refl W819.1, rfl⟩ (fun _ _ _ _ ⟨_, _, h, _⟩ => h.at ntl hl) ?_ ?_⟩
      · rintro k v σ H20 hv ⟨v9, v10, W20, rfl⟩
        obtain ⟨tj, oj, tj', sj, rfl, h1, h2, h3, h4, h5⟩ := its v (List.mem_of_getElem? hv)
        simp only [and_assoc, rst, rs, re, ra, rq, rx, ro, rl, rl2, rsp, rz, rix, rln, rg, rd, ri, rv, rk, rdd, rwi, at0, at1, at2, at3, upd_at, List.getElem?_cons_zero, List.getElem?_cons_succ, Option.some.injEq, exists_eq_left', exists_eq_left, List.set_cons_zero, List.set_cons_succ, true_and, and_true, HO.lst.injEq, HO.tup.injEq, exists_and_left, exists_eq, exists_eq', Br.t, Br.f, Be.t, Be.f, List.cons.injEq, List.append_nil, scal, if_true, if_false, ite_true, ite_false, eq_self_iff_true, decide_true, decide_false, Bool.not_true, Bool.not_false, reduceIte, List.nil_append, List.cons_append, reduceCtorEq, false_and, exists_false, false_or, or_false, Int.reduceLT, ral, rmd, rsq, rlu, rdp, rrp, Bool.true_or, Bool.false_or, Bool.or_false, Bool.or_true]
        refine ⟨_, wo_same _ _ (W20.2 _ _ h1), rfl, _, rfl, ?_⟩
        simp only [and_assoc, rst, rs, re, ra, rq, rx, ro, rl, rl2, rsp, rz, rix, rln, rg, rd, ri, rv, rk, rdd, rwi, at0, at1, at2, at3, upd_at, List.getElem?_cons_zero, List.getElem?_cons_succ, Option.some.injEq, exists_eq_left', exists_eq_left, List.set_cons_zero, List.set_cons_succ, true_and, and_true, HO.lst.injEq, HO.tup.injEq, exists_and_left, exists_eq, exists_eq', Br.t, Br.f, Be.t, Be.f, List.cons.injEq, List.append_nil, scal, if_true, if_false, ite_true, ite_false, eq_self_iff_true, decide_true, decide_false, Bool.not_true, Bool.not_false, reduceIte, List.nil_append, List.cons_append, reduceCtorEq, false_and, exists_false, false_or, or_false, Int.reduceLT, ral, rmd, rsq, rlu, rdp, rrp, Bool.true_or, Bool.false_or, Bool.or_false, Bool.or_true]
        refine ⟨_, rfl, sj, by omega, ok_okS h5, Td.same wo_same (Td.same W20.2 h3), ?_⟩
        refine ⟨_, _, _, rfl, p, sj, rfl, W20.1, Ob.same W20.2 h2, h5, rfl, fun H21 W21 => ?_⟩
        simp only [and_assoc, rst, rs, re, ra, rq, rx, ro, rl, rl2, rsp, rz, rix, rln, rg, rd, ri, rv, rk, rdd, rwi, at0, at1, at2, at3, upd_at, List.getElem?_cons_zero, List.getElem?_cons_succ, Option.some.injEq, exists_eq_left', exists_eq_left, List.set_cons_zero, List.set_cons_succ, true_and, and_true, HO.lst.injEq, HO.tup.injEq, exists_and_left, exists_eq, exists_eq', Br.t, Br.f, Be.t, Be.f, List.cons.injEq, List.append_nil, scal, if_true, if_false, ite_true, ite_false, eq_self_iff_true, decide_true, decide_false, Bool.not_true, Bool.not_false, reduceIte, List.nil_append, List.cons_append, reduceCtorEq, false_and, exists_false, false_or, or_false, Int.reduceLT, ral, rmd, rsq, rlu, rdp, rrp, Bool.true_or, Bool.false_or, Bool.or_false, Bool.or_true]
        exact Wl.trans W20 W21
      · rintro σ H20 ⟨v9, v10, W20, rfl⟩
        subst hr
        have W720 := Wl.trans W8 (Wl.trans W819 W20)
        have hnq20 := hnqx W720
        simp only [and_assoc, rst, rs, re, ra, rq, rx, ro, rl, rl2, rsp, rz, rix, rln, rg, rd, ri, rv, rk, rdd, rwi, at0, at1, at2, at3, upd_at, List.getElem?_cons_zero, List.getElem?_cons_succ, Option.some.injEq, exists_eq_left', exists_eq_left, List.set_cons_zero, List.set_cons_succ, true_and, and_true, HO.lst.injEq, HO.tup.injEq, exists_and_left, exists_eq, exists_eq', Br.t, Br.f, Be.t, Be.f, List.cons.injEq, List.append_nil, scal, if_true, if_false, ite_true, ite_false, eq_self_iff_true, decide_true, decide_false, Bool.not_true, Bool.not_false, reduceIte, List.nil_append, List.cons_append, reduceCtorEq, false_and, exists_false, false_or, or_false, Int.reduceLT, ral, rmd, rsq, rlu, rdp, rrp, Bool.true_or, Bool.false_or, Bool.or_false, Bool.or_true]
        refine ⟨_, SqL.of hnq20, fun rvl hrv => ?_⟩
        obtain ⟨nrv, wrv⟩ := newW (o := .lst (zs.map V.int).reverse) W20.1 hrv
        have W621 := Wl.trans W7 (Wl.trans W720 wrv)
        refine ⟨_, _, _, rfl, sh, rvl, zs.reverse, hh, hok, obx W621, tdx W621, rfl, by rw [upd_same, List.map_reverse], fun z hz => hzs z (List.mem_reverse.mp hz), fun H22 s22 => ?_⟩
        simp only [and_assoc, rst, rs, re, ra, rq, rx, ro, rl, rl2, rsp, rz, rix, rln, rg, rd, ri, rv, rk, rdd, rwi, at0, at1, at2, at3, upd_at, List.getElem?_cons_zero, List.getElem?_cons_succ, Option.some.injEq, exists_eq_left', exists_eq_left, List.set_cons_zero, List.set_cons_succ, true_and, and_true, HO.lst.injEq, HO.tup.injEq, exists_and_left, exists_eq, exists_eq', Br.t, Br.f, Be.t, Be.f, List.cons.injEq, List.append_nil, scal, if_true, if_false, ite_true, ite_false, eq_self_iff_true, decide_true, decide_false, Bool.not_true, Bool.not_false, reduceIte, List.nil_append, List.cons_append, reduceCtorEq, false_and, exists_false, false_or, or_false, Int.reduceLT, ral, rmd, rsq, rlu, rdp, rrp, Bool.true_or, Bool.false_or, Bool.or_false, Bool.or_true]
        refine fun b' o' e' => ?_
        refine (Wl.trans WH4 (Wl.trans W6 (Wl.trans W621 (Wl.of_same W621.1 s22)))).at ?_ ((Same.trans s s1) _ _ e')
        intro zz
        subst zz
        rw [fp] at e'
        cases e'
    · intro rr hr
      have ht5 := s5 _ _ htf
      have tx5 : Td H5 sa x := Td.same s5 (Td.same wo_same tx)
      obtain ⟨lp, hlp⟩ := wlist W5
      simp only [and_assoc, rst, rs, re, ra, rq, rx, ro, rl, rl2, rsp, rz, rix, rln, rg, rd, ri, rv, rk, rdd, rwi, at0, at1, at2, at3, upd_at, List.getElem?_cons_zero, List.getElem?_cons_succ, Option.some.injEq, exists_eq_left', exists_eq_left, List.set_cons_zero, List.set_cons_succ, true_and, and_true, HO.lst.injEq, HO.tup.injEq, exists_and_left, exists_eq, exists_eq', Br.t, Br.f, Be.t, Be.f, List.cons.injEq, List.append_nil, scal, if_true, if_false, ite_true, ite_false, eq_self_iff_true, decide_true, decide_false, Bool.not_true, Bool.not_false, reduceIte, List.nil_append, List.cons_append, reduceCtorEq, false_and, exists_false, false_or, or_false, Int.reduceLT, ral, rmd, rsq, rlu, rdp, rrp, Bool.true_or, Bool.false_or, Bool.or_false, Bool.or_true, ht5]
      refine Br.d (fun c => ?_) fun c => ?_
      · subst c
        rcases kind with ⟨_, n, rfl, rfl⟩ | ⟨c2, _⟩
        · simp only [and_assoc, rst, rs, re, ra, rq, rx, ro, rl, rl2, rsp, rz, rix, rln, rg, rd, ri, rv, rk, rdd, rwi, at0, at1, at2, at3, upd_at, List.getElem?_cons_zero, List.getElem?_cons_succ, Option.some.injEq, exists_eq_left', exists_eq_left, List.set_cons_zero, List.set_cons_succ, true_and, and_true, HO.lst.injEq, HO.tup.injEq, exists_and_left, exists_eq, exists_eq', Br.t, Br.f, Be.t, Be.f, List.cons.injEq, List.append_nil, scal, if_true, if_false, ite_true, ite_false, eq_self_iff_true, decide_true, decide_false, Bool.not_true, Bool.not_false, reduceIte, List.nil_append, List.cons_append, reduceCtorEq, false_and, exists_false, false_or, or_false, Int.reduceLT, ral, rmd, rsq, rlu, rdp, rrp, Bool.true_or, Bool.false_or, Bool.or_false, Bool.or_true, ht5]
          exact fun b dx hb' hd nd => ⟨_, _, _, rfl, b, sa, n, p, ⟨rfl, dx, upd_same⟩, hok, by omega, ne_of_none hlp hb', (mkN hlp hb' hd).2, Ob.same (wo_mono (mkA hb' hd)) oi, rfl, fun H' k o => ⟨rfl, hr _ _ ⟨.ref b, Wl.trans W5 (Wl.of_same W5.1 (mkS hb' hd k)), o, Ob.same (wo_mono (mkS hb' hd k)) oi, rfl⟩⟩⟩
        · exact absurd rfl c2
      · rcases kind with ⟨c2, _⟩ | ⟨_, sb, rfl, ty⟩
        · exact absurd c2 c
        · have ty5 : Td H5 sb y := Td.same s5 (Td.same wo_same ty)
          have hh3 : 1 + max sa.ht sb.ht ≤ 3 := hh
          simp only [and_assoc, rst, rs, re, ra, rq, rx, ro, rl, rl2, rsp, rz, rix, rln, rg, rd, ri, rv, rk, rdd, rwi, at0, at1, at2, at3, upd_at, List.getElem?_cons_zero, List.getElem?_cons_succ, Option.some.injEq, exists_eq_left', exists_eq_left, List.set_cons_zero, List.set_cons_succ, true_and, and_true, HO.lst.injEq, HO.tup.injEq, exists_and_left, exists_eq, exists_eq', Br.t, Br.f, Be.t, Be.f, List.cons.injEq, List.append_nil, scal, if_true, if_false, ite_true, ite_false, eq_self_iff_true, decide_true, decide_false, Bool.not_true, Bool.not_false, reduceIte, List.nil_append, List.cons_append, reduceCtorEq, false_and, exists_false, false_or, or_false, Int.reduceLT, ral, rmd, rsq, rlu, rdp, rrp, Bool.true_or, Bool.false_or, Bool.or_false, Bool.or_true, ht5]
          refine eq_told tx5 ty5 (by omega) (by omega) fun c3 hc => ?_
          simp only [and_assoc, rst, rs, re, ra, rq, rx, ro, rl, rl2, rsp, rz, rix, rln, rg, rd, ri, rv, rk, rdd, rwi, at0, at1, at2, at3, upd_at, List.getElem?_cons_zero, List.getElem?_cons_succ, Option.some.injEq, exists_eq_left', exists_eq_left, List.set_cons_zero, List.set_cons_succ, true_and, and_true, HO.lst.injEq, HO.tup.injEq, exists_and_left, exists_eq, exists_eq', Br.t, Br.f, Be.t, Be.f, List.cons.injEq, List.append_nil, scal, if_true, if_false, ite_true, ite_false, eq_self_iff_true, decide_true, decide_false, Bool.not_true, Bool.not_false, reduceIte, List.nil_append, List.cons_append, reduceCtorEq, false_and, exists_false, false_or, or_false, Int.reduceLT, ral, rmd, rsq, rlu, rdp, rrp, Bool.true_or, Bool.false_or, Bool.or_false, Bool.or_true]
          refine Br.of (fun c4 => ?_) fun _ => ?_
          · have e := hc c4
            subst e
            simp only [and_assoc, rst, rs, re, ra, rq, rx, ro, rl, rl2, rsp, rz, rix, rln, rg, rd, ri, rv, rk, rdd, rwi, at0, at1, at2, at3, upd_at, List.getElem?_cons_zero, List.getElem?_cons_succ, Option.some.injEq, exists_eq_left', exists_eq_left, List.set_cons_zero, List.set_cons_succ, true_and, and_true, HO.lst.injEq, HO.tup.injEq, exists_and_left, exists_eq, exists_eq', Br.t, Br.f, Be.t, Be.f, List.cons.injEq, List.append_nil, scal, if_true, if_false, ite_true, ite_false, eq_self_iff_true, decide_true, decide_false, Bool.not_true, Bool.not_false, reduceIte, List.nil_append, List.cons_append, reduceCtorEq, false_and, exists_false, false_or, or_false, Int.reduceLT, ral, rmd, rsq, rlu, rdp, rrp, Bool.true_or, Bool.false_or, Bool.or_false, Bool.or_true]
            exact fun b dx hb' hd nd => ⟨_, _, _, rfl, b, sa, sa, p, ⟨rfl, dx, upd_same⟩, hok, by omega, by omega, ne_of_none hlp hb', (mkN hlp hb' hd).2, Ob.same (wo_mono (mkA hb' hd)) oi, Ob.same (wo_mono (mkA hb' hd)) oi, fun H' k o => ⟨rfl, hr _ _ ⟨.ref b, Wl.trans W5 (Wl.of_same W5.1 (mkS hb' hd k)), o, Ob.same (wo_mono (mkS hb' hd k)) oi, rfl⟩⟩⟩
          · simp only [and_assoc, rst, rs, re, ra, rq, rx, ro, rl, rl2, rsp, rz, rix, rln, rg, rd, ri, rv, rk, rdd, rwi, at0, at1, at2, at3, upd_at, List.getElem?_cons_zero, List.getElem?_cons_succ, Option.some.injEq, exists_eq_left', exists_eq_left, List.set_cons_zero, List.set_cons_succ, true_and, and_true, HO.lst.injEq, HO.tup.injEq, exists_and_left, exists_eq, exists_eq', Br.t, Br.f, Be.t, Be.f, List.cons.injEq, List.append_nil, scal, if_true, if_false, ite_true, ite_false, eq_self_iff_true, decide_true, decide_false, Bool.not_true, Bool.not_false, reduceIte, List.nil_append, List.cons_append, reduceCtorEq, false_and, exists_false, false_or, or_false, Int.reduceLT, ral, rmd, rsq, rlu, rdp, rrp, Bool.true_or, Bool.false_or, Bool.or_false, Bool.or_true, ht5]
            refine ⟨_, rfl, sb, p, ⟨_, hlp⟩, by omega, by omega, hok.2.1, ty5, fun u2 H6 s6 o2 => ?_⟩
            have W6 := Wl.trans W5 (Wl.of_same W5.1 s6)
            exact fun b dx hb' hd nd => ⟨_, _, _, rfl, b, sa, sb, p, ⟨rfl, dx, upd_same⟩, hok, by omega, by omega, ne_of_none (s6 _ _ hlp) hb', (mkN (s6 _ _ hlp) hb' hd).2, Ob.same (wo_mono (Same.trans s6 (mkA hb' hd))) oi, Ob.same (wo_mono (mkA hb' hd)) o2, fun H' k o => ⟨rfl, hr _ _ ⟨.ref b, Wl.trans W6 (Wl.of_same W6.1 (mkS hb' hd k)), o, Ob.same (wo_mono (Same.trans s6 (mkS hb' hd k))) oi, rfl⟩⟩⟩
  · rintro σ H' ⟨v1, v2, v3, v4, v5, v6, v7, v8, v9, v10, s, rfl⟩
    simp only [and_assoc, rst, rs, re, ra, rq, rx, ro, rl, rl2, rsp, rz, rix, rln, rg, rd, ri, rv, rk, rdd, rwi, at0, at1, at2, at3, upd_at, List.getElem?_cons_zero, List.getElem?_cons_succ, Option.some.injEq, exists_eq_left', exists_eq_left, List.set_cons_zero, List.set_cons_succ, true_and, and_true, HO.lst.injEq, HO.tup.injEq, exists_and_left, exists_eq, exists_eq', Br.t, Br.f, Be.t, Be.f, List.cons.injEq, List.append_nil, scal, if_true, if_false, ite_true, ite_false, eq_self_iff_true, decide_true, decide_false, Bool.not_true, Bool.not_false, reduceIte, List.nil_append, List.cons_append, reduceCtorEq, false_and, exists_false, false_or, or_false, Int.reduceLT, ral, rmd, rsq, rlu, rdp, rrp, Bool.true_or, Bool.false_or, Bool.or_false, Bool.or_true]
    exact q _
end
theorem sp_law_of {K : Fg} {H : Hp} {a : Addr} {ns : List Int} (h1 : ns.length ≤ 63) (h2 : SqL K H a (ns.map V.int)) : sp_law K [.ref a] H (fun v _ => v = .bl true) fun _ _ _ => False := ⟨_, rfl, a, ns, rfl, h2, h1, fun _ => rfl⟩
end Law

namespace Law
open PySem PySem.Spec PyProof.Rows L2 Sw
section
variable {P : Program} {w : World} {K : Fg} {mg : Str → Option Value} {base : Heap}
theorem okL__law_total (T : Tx K mg w) (c__law_orders : Cal P w K mg base 1 "_law_orders" ["many"] (sp__law_orders K)) (c__law_sets : Cal P w K mg base 1 "_law_sets" ["many", "size"] (sp__law_sets K))  : Cal P w K mg base 6 "_law_total" ["told"] (sp__law_total K) := okn__law_total T c__law_orders c__law_sets  4
theorem okL__law_shape (T : Tx K mg w) (c_Below_init : CalM P w K mg base 6 "Below" "__init__" ["self", "bound"] (sp_Below_init K)) (c_Shares_init : CalM P w K mg base 6 "Shares" "__init__" ["self", "shares"] (sp_Shares_init K)) (c_Orders_init : CalM P w K mg base 6 "Orders" "__init__" ["self", "many"] (sp_Orders_init K)) (c_Sets_init : CalM P w K mg base 6 "Sets" "__init__" ["self", "many", "size"] (sp_Sets_init K)) (c_Pair_init : CalM P w K mg base 6 "Pair" "__init__" ["self", "one", "other"] (sp_Pair_init K)) (c_Rows_init : CalM P w K mg base 6 "Rows" "__init__" ["self", "shape", "many"] (sp_Rows_init K))  : Cal P w K mg base 12 "_law_shape" ["told"] (sp__law_shape K) := okn__law_shape T c_Below_init c_Shares_init c_Orders_init c_Sets_init c_Pair_init c_Rows_init  4
theorem okL__law_outcome (T : Tx K mg w) (c__law_total : Cal P w K mg base 6 "_law_total" ["told"] (sp__law_total K)) (c__law_order : Cal P w K mg base 2 "_law_order" ["many", "rank"] (sp__law_order K)) (c__law_set : Cal P w K mg base 2 "_law_set" ["many", "size", "rank"] (sp__law_set K)) (c__law_share : Cal P w K mg base 1 "_law_share" ["portions", "number"] (sp__law_share K))  : Cal P w K mg base 11 "_law_outcome" ["told", "number"] (sp__law_outcome K) := okn__law_outcome T c__law_total c__law_order c__law_set c__law_share  4
theorem okL__law_same (T : Tx K mg w) (c__law_is_whole : Cal P w K mg base 1 "_law_is_whole" ["thing"] (sp__law_is_whole K))  : Cal P w K mg base 7 "_law_same" ["found", "due"] (sp__law_same K) := okn__law_same T c__law_is_whole  5
theorem okL__law_weight (T : Tx K mg w)   : Cal P w K mg base 5 "_law_weight" ["told"] (sp__law_weight K) := okn__law_weight T   4
theorem okL__law_told (T : Tx K mg w) (c__law_take : Cal P w K mg base 1 "_law_take" ["box", "many"] (sp__law_take K)) (c__law_total : Cal P w K mg base 6 "_law_total" ["told"] (sp__law_total K)) (c__law_simple : Cal P w K mg base 3 "_law_simple" ["box", "most"] (sp__law_simple K)) (c__law_weight : Cal P w K mg base 5 "_law_weight" ["told"] (sp__law_weight K))  : Cal P w K mg base 11 "_law_told" ["box", "room", "most"] (sp__law_told K) := okn__law_told T c__law_take c__law_total c__law_simple c__law_weight  4
theorem okL__law_height (T : Tx K mg w)   : Cal P w K mg base 5 "_law_height" ["told"] (sp__law_height K) := okn__law_height T   4
end
end Law

namespace Law
open PySem PySem.Spec PyProof.Rows L2 Sw
theorem all_ok {P : Program} {w : World} {K : Fg} {mg : Str → Option Value} {base : Heap} {fd : FuncData} (T : Tx K mg w) (F_law : FunD K "law" "law" (defArgs s_law) (defBody s_law) (defScope s_law) [] [] (He.ga K "law") fd) : FnG P w K mg base 17 (He.ga K "law") fd ["script"] (sp_law K) := by
  have c_is_whole := ok_is_whole (P := P) (w := w) (base := base) T  
  have c_is_within := ok_is_within (P := P) (w := w) (base := base) T (c_is_whole := c_is_whole) 
  have c_product := ok_product (P := P) (w := w) (base := base) T  
  have c_unmixed := ok_unmixed (P := P) (w := w) (base := base) T (c_is_within := c_is_within) (c_product := c_product) (ex_NoNumber T)
  have c_products_to := ok_products_to (P := P) (w := w) (base := base) T  
  have c_orders_many := ok_orders_many (P := P) (w := w) (base := base) T (c_is_within := c_is_within) (c_products_to := c_products_to) (ex_NoNumber T)
  have c_order_at := ok_order_at (P := P) (w := w) (base := base) T (c_is_within := c_is_within) (c_products_to := c_products_to) (c_orders_many := c_orders_many) (ex_NoNumber T)
  have c_need_many := ok_need_many (P := P) (w := w) (base := base) T (c_is_within := c_is_within) (ex_NoNumber T)
  have c_ways := ok_ways (P := P) (w := w) (base := base) T  
  have c_sets_many := ok_sets_many (P := P) (w := w) (base := base) T (c_need_many := c_need_many) (c_ways := c_ways) 
  have c_set_at := ok_set_at (P := P) (w := w) (base := base) T (c_is_within := c_is_within) (c_ways := c_ways) (c_sets_many := c_sets_many) (ex_NoNumber T)
  have c_need_shares := ok_need_shares (P := P) (w := w) (base := base) T (c_is_within := c_is_within) (ex_NoShares T)
  have c_shares_many := ok_shares_many (P := P) (w := w) (base := base) T (c_need_shares := c_need_shares) 
  have c_parted_at := ok_parted_at (P := P) (w := w) (base := base) T (c_is_within := c_is_within) (c_shares_many := c_shares_many) (ex_NoNumber T)
  have c_share_at := ok_share_at (P := P) (w := w) (base := base) T (c_parted_at := c_parted_at) 
  have c_need_number := ok_need_number (P := P) (w := w) (base := base) T (c_is_within := c_is_within) (ex_NoNumber T)
  have c_Sets_height := ok_Sets_height (P := P) (w := w) (base := base) T  
  have c_Shares_height := ok_Shares_height (P := P) (w := w) (base := base) T  
  have c_Pair_height := ok_Pair_height (P := P) (w := w) (base := base) T  
  have c_Orders_height := ok_Orders_height (P := P) (w := w) (base := base) T  
  have c_Rows_height := ok_Rows_height (P := P) (w := w) (base := base) T  
  have c_Below_height := ok_Below_height (P := P) (w := w) (base := base) T  
  have c_need_shape := ok_need_shape (P := P) (w := w) (base := base) T (c_Sets_height := c_Sets_height) (c_Shares_height := c_Shares_height) (c_Pair_height := c_Pair_height) (c_Orders_height := c_Orders_height) (c_Rows_height := c_Rows_height) (c_Below_height := c_Below_height) (ex_NoShape T)
  have c__law_cell_at := ok__law_cell_at (P := P) (w := w) (base := base) T  
  have c__law_box := ok__law_box (P := P) (w := w) (base := base) T  
  have c__law_take := ok__law_take (P := P) (w := w) (base := base) T  
  have c__law_is_whole := ok__law_is_whole (P := P) (w := w) (base := base) T  
  have c__law_orders := ok__law_orders (P := P) (w := w) (base := base) T  
  have c__law_sets := ok__law_sets (P := P) (w := w) (base := base) T  
  have c__law_total := okL__law_total (P := P) (w := w) (base := base) T (c__law_orders := c__law_orders) (c__law_sets := c__law_sets) 
  have c_sinit_Below := ok_sinit_Below (P := P) (w := w) (base := base) T  (ex_TooWide T)
  have c_Below_init := ok_Below_init (P := P) (w := w) (base := base) T (c_is_whole := c_is_whole) (c_sinit_Below := c_sinit_Below) (ex_NoNumber T)
  have c_sinit_Shares := ok_sinit_Shares (P := P) (w := w) (base := base) T  (ex_TooWide T)
  have c_Shares_init := ok_Shares_init (P := P) (w := w) (base := base) T (c_shares_many := c_shares_many) (c_sinit_Shares := c_sinit_Shares) 
  have c_sinit_Orders := ok_sinit_Orders (P := P) (w := w) (base := base) T  (ex_TooWide T)
  have c_Orders_init := ok_Orders_init (P := P) (w := w) (base := base) T (c_orders_many := c_orders_many) (c_need_number := c_need_number) (c_sinit_Orders := c_sinit_Orders) 
  have c_sinit_Sets := ok_sinit_Sets (P := P) (w := w) (base := base) T  (ex_TooWide T)
  have c_Sets_init := ok_Sets_init (P := P) (w := w) (base := base) T (c_sets_many := c_sets_many) (c_need_number := c_need_number) (c_sinit_Sets := c_sinit_Sets) 
  have c_Pair_numbers := ok_Pair_numbers (P := P) (w := w) (base := base) T  
  have c_Shares_numbers := ok_Shares_numbers (P := P) (w := w) (base := base) T  
  have c_Sets_numbers := ok_Sets_numbers (P := P) (w := w) (base := base) T  
  have c_Rows_numbers := ok_Rows_numbers (P := P) (w := w) (base := base) T  
  have c_Orders_numbers := ok_Orders_numbers (P := P) (w := w) (base := base) T  
  have c_Below_numbers := ok_Below_numbers (P := P) (w := w) (base := base) T  
  have c_sinit_Pair := ok_sinit_Pair (P := P) (w := w) (base := base) T  (ex_TooWide T)
  have c_Pair_init := ok_Pair_init (P := P) (w := w) (base := base) T (c_Pair_numbers := c_Pair_numbers) (c_Shares_height := c_Shares_height) (c_Rows_height := c_Rows_height) (c_Shares_numbers := c_Shares_numbers) (c_Pair_height := c_Pair_height) (c_Sets_numbers := c_Sets_numbers) (c_Orders_height := c_Orders_height) (c_Rows_numbers := c_Rows_numbers) (c_Orders_numbers := c_Orders_numbers) (c_Sets_height := c_Sets_height) (c_Below_numbers := c_Below_numbers) (c_sinit_Pair := c_sinit_Pair) (c_Below_height := c_Below_height) (c_need_shape := c_need_shape) 
  have c_sinit_Rows := ok_sinit_Rows (P := P) (w := w) (base := base) T  (ex_TooWide T)
  have c_Rows_init := ok_Rows_init (P := P) (w := w) (base := base) T (c_product := c_product) (c_need_number := c_need_number) (c_Pair_numbers := c_Pair_numbers) (c_sinit_Rows := c_sinit_Rows) (c_Shares_height := c_Shares_height) (c_Rows_height := c_Rows_height) (c_Shares_numbers := c_Shares_numbers) (c_Pair_height := c_Pair_height) (c_Sets_numbers := c_Sets_numbers) (c_Orders_height := c_Orders_height) (c_Rows_numbers := c_Rows_numbers) (c_Orders_numbers := c_Orders_numbers) (c_Sets_height := c_Sets_height) (c_Below_numbers := c_Below_numbers) (c_Below_height := c_Below_height) (c_need_shape := c_need_shape) 
  have c__law_shape := okL__law_shape (P := P) (w := w) (base := base) T (c_Below_init := c_Below_init) (c_Shares_init := c_Shares_init) (c_Orders_init := c_Orders_init) (c_Sets_init := c_Sets_init) (c_Pair_init := c_Pair_init) (c_Rows_init := c_Rows_init) 
  have c__law_portions := ok__law_portions (P := P) (w := w) (base := base) T (c__law_take := c__law_take) 
  have c__law_simple := ok__law_simple (P := P) (w := w) (base := base) T (c__law_take := c__law_take) (c__law_orders := c__law_orders) (c__law_sets := c__law_sets) (c__law_portions := c__law_portions) 
  have c__law_weight := okL__law_weight (P := P) (w := w) (base := base) T  
  have c__law_told := okL__law_told (P := P) (w := w) (base := base) T (c__law_take := c__law_take) (c__law_total := c__law_total) (c__law_simple := c__law_simple) (c__law_weight := c__law_weight) 
  have c__law_order := ok__law_order (P := P) (w := w) (base := base) T (c__law_orders := c__law_orders) 
  have c__law_set := ok__law_set (P := P) (w := w) (base := base) T (c__law_sets := c__law_sets) 
  have c__law_share := ok__law_share (P := P) (w := w) (base := base) T  
  have c__law_outcome := okL__law_outcome (P := P) (w := w) (base := base) T (c__law_total := c__law_total) (c__law_order := c__law_order) (c__law_set := c__law_set) (c__law_share := c__law_share) 
  have c__law_same := okL__law_same (P := P) (w := w) (base := base) T (c__law_is_whole := c__law_is_whole) 
  have c__law_height := okL__law_height (P := P) (w := w) (base := base) T  
  have c__law_numbers := ok__law_numbers (P := P) (w := w) (base := base) T (c__law_take := c__law_take) 
  have c_Shares_outcome_at := ok_Shares_outcome_at (P := P) (w := w) (base := base) T (c_share_at := c_share_at) 
  have c_Shares_outcome := ok_Shares_outcome (P := P) (w := w) (base := base) T (c_need_number := c_need_number) (c_Shares_outcome_at := c_Shares_outcome_at) 
  have c_Orders_outcome_at := ok_Orders_outcome_at (P := P) (w := w) (base := base) T (c_order_at := c_order_at) 
  have c_Orders_outcome := ok_Orders_outcome (P := P) (w := w) (base := base) T (c_need_number := c_need_number) (c_Orders_outcome_at := c_Orders_outcome_at) 
  have c_Below_outcome_at := ok_Below_outcome_at (P := P) (w := w) (base := base) T  
  have c_Below_outcome := ok_Below_outcome (P := P) (w := w) (base := base) T (c_need_number := c_need_number) (c_Below_outcome_at := c_Below_outcome_at) 
  have c_Sets_outcome_at := ok_Sets_outcome_at (P := P) (w := w) (base := base) T (c_set_at := c_set_at) 
  have c_Sets_outcome := ok_Sets_outcome (P := P) (w := w) (base := base) T (c_need_number := c_need_number) (c_Sets_outcome_at := c_Sets_outcome_at) 
  have c_Pair_outcome_at_1 := ok_Pair_outcome_at_1 (P := P) (w := w) (base := base) T (c_Shares_numbers := c_Shares_numbers) (c_Shares_outcome := c_Shares_outcome) (c_Below_numbers := c_Below_numbers) (c_Orders_outcome := c_Orders_outcome) (c_Below_outcome := c_Below_outcome) (c_Sets_outcome := c_Sets_outcome) (c_Orders_numbers := c_Orders_numbers) (c_Sets_numbers := c_Sets_numbers) 
  have c_Pair_outcome_1 := ok_Pair_outcome_1 (P := P) (w := w) (base := base) T (c_need_number := c_need_number) (c_Pair_outcome_at_1 := c_Pair_outcome_at_1) 
  have c_Rows_outcome_at_1 := ok_Rows_outcome_at_1 (P := P) (w := w) (base := base) T (c_unmixed := c_unmixed) (c_Orders_outcome := c_Orders_outcome) (c_Below_outcome := c_Below_outcome) (c_Sets_outcome := c_Sets_outcome) (c_Shares_outcome := c_Shares_outcome) 
  have c_Rows_outcome_1 := ok_Rows_outcome_1 (P := P) (w := w) (base := base) T (c_need_number := c_need_number) (c_Rows_outcome_at_1 := c_Rows_outcome_at_1) 
  have c_Pair_outcome_at_2 := ok_Pair_outcome_at_2 (P := P) (w := w) (base := base) T (c_Shares_numbers := c_Shares_numbers) (c_Pair_numbers := c_Pair_numbers) (c_Shares_outcome := c_Shares_outcome) (c_Pair_outcome_1 := c_Pair_outcome_1) (c_Below_numbers := c_Below_numbers) (c_Orders_outcome := c_Orders_outcome) (c_Rows_outcome_1 := c_Rows_outcome_1) (c_Below_outcome := c_Below_outcome) (c_Sets_outcome := c_Sets_outcome) (c_Rows_numbers := c_Rows_numbers) (c_Orders_numbers := c_Orders_numbers) (c_Sets_numbers := c_Sets_numbers) 
  have c_Pair_outcome_2 := ok_Pair_outcome_2 (P := P) (w := w) (base := base) T (c_need_number := c_need_number) (c_Pair_outcome_at_2 := c_Pair_outcome_at_2) 
  have c_Rows_outcome_at_2 := ok_Rows_outcome_at_2 (P := P) (w := w) (base := base) T (c_unmixed := c_unmixed) (c_Pair_outcome_1 := c_Pair_outcome_1) (c_Rows_outcome_1 := c_Rows_outcome_1) (c_Orders_outcome := c_Orders_outcome) (c_Below_outcome := c_Below_outcome) (c_Sets_outcome := c_Sets_outcome) (c_Shares_outcome := c_Shares_outcome) 
  have c_Rows_outcome_2 := ok_Rows_outcome_2 (P := P) (w := w) (base := base) T (c_need_number := c_need_number) (c_Rows_outcome_at_2 := c_Rows_outcome_at_2) 
  have c_Pair_outcome_at_3 := ok_Pair_outcome_at_3 (P := P) (w := w) (base := base) T (c_Pair_numbers := c_Pair_numbers) (c_Pair_outcome_1 := c_Pair_outcome_1) (c_Shares_numbers := c_Shares_numbers) (c_Orders_outcome := c_Orders_outcome) (c_Below_outcome := c_Below_outcome) (c_Pair_outcome_2 := c_Pair_outcome_2) (c_Sets_numbers := c_Sets_numbers) (c_Sets_outcome := c_Sets_outcome) (c_Rows_numbers := c_Rows_numbers) (c_Orders_numbers := c_Orders_numbers) (c_Rows_outcome_1 := c_Rows_outcome_1) (c_Rows_outcome_2 := c_Rows_outcome_2) (c_Below_numbers := c_Below_numbers) (c_Shares_outcome := c_Shares_outcome) 
  have c_Pair_outcome_3 := ok_Pair_outcome_3 (P := P) (w := w) (base := base) T (c_need_number := c_need_number) (c_Pair_outcome_at_3 := c_Pair_outcome_at_3) 
  have c_Rows_outcome_at_3 := ok_Rows_outcome_at_3 (P := P) (w := w) (base := base) T (c_unmixed := c_unmixed) (c_Rows_outcome_2 := c_Rows_outcome_2) (c_Pair_outcome_1 := c_Pair_outcome_1) (c_Rows_outcome_1 := c_Rows_outcome_1) (c_Orders_outcome := c_Orders_outcome) (c_Below_outcome := c_Below_outcome) (c_Sets_outcome := c_Sets_outcome) (c_Pair_outcome_2 := c_Pair_outcome_2) (c_Shares_outcome := c_Shares_outcome) 
  have c_Rows_outcome_3 := ok_Rows_outcome_3 (P := P) (w := w) (base := base) T (c_need_number := c_need_number) (c_Rows_outcome_at_3 := c_Rows_outcome_at_3) 
  have c__law_right := ok__law_right (P := P) (w := w) (base := base) T (c_Pair_numbers := c_Pair_numbers) (c_Pair_outcome_1 := c_Pair_outcome_1) (c_Shares_height := c_Shares_height) (c_Rows_height := c_Rows_height) (c_Shares_numbers := c_Shares_numbers) (c_Orders_outcome := c_Orders_outcome) (c_Pair_height := c_Pair_height) (c_Below_outcome := c_Below_outcome) (c_Pair_outcome_2 := c_Pair_outcome_2) (c_Pair_outcome_3 := c_Pair_outcome_3) (c_Rows_outcome_3 := c_Rows_outcome_3) (c_Sets_numbers := c_Sets_numbers) (c_Orders_height := c_Orders_height) (c_Sets_outcome := c_Sets_outcome) (c_Rows_numbers := c_Rows_numbers) (c_Orders_numbers := c_Orders_numbers) (c_Rows_outcome_1 := c_Rows_outcome_1) (c_Rows_outcome_2 := c_Rows_outcome_2) (c_Sets_height := c_Sets_height) (c_Below_numbers := c_Below_numbers) (c_Shares_outcome := c_Shares_outcome) (c_Below_height := c_Below_height) (c__law_total := c__law_total) (c__law_outcome := c__law_outcome) (c__law_same := c__law_same) (c__law_height := c__law_height) 
  have c_ref_Orders := ok_ref_Orders (P := P) (w := w) (base := base) T (c_need_number := c_need_number) (c_Orders_outcome_at := c_Orders_outcome_at) 
  have c_ref_Shares := ok_ref_Shares (P := P) (w := w) (base := base) T (c_need_number := c_need_number) (c_Shares_outcome_at := c_Shares_outcome_at) 
  have c_ref_Sets := ok_ref_Sets (P := P) (w := w) (base := base) T (c_need_number := c_need_number) (c_Sets_outcome_at := c_Sets_outcome_at) 
  have c_ref_Rows := ok_ref_Rows (P := P) (w := w) (base := base) T (c_need_number := c_need_number) (c_Rows_outcome_at_1 := c_Rows_outcome_at_1) 
  have c_ref_Below := ok_ref_Below (P := P) (w := w) (base := base) T (c_need_number := c_need_number) (c_Below_outcome_at := c_Below_outcome_at) 
  have c_ref_Pair := ok_ref_Pair (P := P) (w := w) (base := base) T (c_need_number := c_need_number) (c_Pair_outcome_at_1 := c_Pair_outcome_at_1) 
  have c__law_refused := ok__law_refused (P := P) (w := w) (base := base) T (c_ref_Orders := c_ref_Orders) (c_ref_Shares := c_ref_Shares) (c_ref_Sets := c_ref_Sets) (c_ref_Rows := c_ref_Rows) (c_ref_Below := c_ref_Below) (c_ref_Pair := c_ref_Pair) 
  have c__law_refused_right := ok__law_refused_right (P := P) (w := w) (base := base) T (c__law_take := c__law_take) (c__law_refused := c__law_refused) 
  have c__law_made := ok__law_made (P := P) (w := w) (base := base) T (c__law_take := c__law_take) (c__law_total := c__law_total) (c__law_weight := c__law_weight) (c__law_told := c__law_told) 
  exact ok_law T F_law c_Pair_init c_Rows_init c__law_cell_at c__law_box c__law_take c__law_total c__law_shape c__law_told c__law_numbers c__law_right c__law_refused_right c__law_made
theorem fin {P : Program} {w : World} {K : Fg} {mg : Str → Option Value} {h : Heap} {fa : Addr} (KX : K.In h) (G : h.Ns mainGlobals mg) (c : sayT fp fn ts w K) (hmg : mg ("law" : Str) = some (.ref fa)) :
    ∃ (K : PySem.W.Frag) (fd : FuncData) (sp : Sp), K.In h ∧ (∀ (s : Shared) (u : Value), BindsTo s fd ⟨[u], []⟩ [("script", u)]) ∧
        (∀ (H : Hp) (a : Addr) (ns : List Int), ns.length ≤ 63 → Only H → SqL K H a (ns.map V.int) → sp [.ref a] H (fun v _ => v = .bl true) fun _ _ _ => False) ∧
        ∀ base : Heap, FnG P w K mg base 17 fa fd ["script"] sp := by
  have T := tx_mk KX G c
  have e : fa = He.ga K "law" := Value.ref.inj (Option.some.inj (hmg.symm.trans T.g_law))
  exact fin_mk KX e T.F_law (fun _ _ _ _ _ _ us hl => match us, hl with | [_], _ => rfl) (fun H a ns h1 h2 => sp_law_of h1 h2) (fun fd base F => all_ok T F)
abbrev R : PySem.W.OpenRow := PySem.W.OpenLaw.row PySem.Challenge.rw_splitwide_k62_pairs_and_rows
abbrev hk : PySem.W.Hook := hkT 4 fp fn ts
def ob (s : PySem.W.SharedT) : AlX := obT fp fn ts (He.frG (HandSHeadRun.getT s) (asZ (HandSHeadRun.getT s) 4))
theorem ob_eq (s : PySem.W.SharedT) : ob s = hk.obs s.abs := obT_eq (HandSHeadRun.getT_eq s)
def loose : List Str := (["_wall", "SeedError", "NoNumber", "NoWidth", "NoShares", "NoShape", "TooWide", "is_whole", "is_within", "product", "unmixed", "products_to", "orders_many", "order_at", "need_many", "ways", "sets_many", "set_at", "need_shares", "shares_many", "parted_at", "share_at", "need_number", "Shape", "Below", "Shares", "Orders", "Sets", "need_shape", "Pair"] : List Str) ++ (["Rows", "_law_cell_at", "_law_box", "_law_take", "_law_is_whole", "_law_orders", "_law_sets", "_law_total", "_law_shape", "_law_portions", "_law_simple", "_law_weight", "_law_told", "_law_order", "_law_set", "_law_share", "_law_outcome", "_law_same", "_law_height", "_law_numbers", "_law_right", "_law_refused", "_law_refused_right", "_law_made", "MOST_RANKED", "MOST_OUT_OF", "MOST_SHARES", "MOST_SHARE", "MOST_NUMBERS", "MOST_HEIGHT"] : List Str) ++ (["MOST_ORDERED", "MOST_THINGS", "MOST_TIMES"] : List Str)
theorem run (w : World) : HandSHeadRun.RunEq R (PySem.W.view R.prog [71]) hk ob 20000 loose w := by
  intro os
  kernel_rfl
end Law
open PySem PySem.W PySem.Calls PyProof.Rows
theorem PySem.Challenge.cw_splitwide_k62_pairs_and_rows_holds : PySem.Challenge.rw_splitwide_k62_pairs_and_rows.Holds := by
  w_on; o_law
  refine HandSHeadRun.head_any (r := OpenLaw.row PySem.Challenge.rw_splitwide_k62_pairs_and_rows) (q := view (OpenLaw.row PySem.Challenge.rw_splitwide_k62_pairs_and_rows).prog [71]) (H := Law.hk) (ob := Law.ob) (M := 20000) (loose := Law.loose) (d := HandSHeadRun.topDef (OpenLaw.row PySem.Challenge.rw_splitwide_k62_pairs_and_rows).prog 71) (kwd := []) Law.ob_eq
    (by kernel_rfl) (fun s => by kernel_rfl) Law.run (by kernel_rfl) (by kernel_rfl) (by kernel_rfl) (by rfl) (by first | assumption | decide +kernel) (by decide +kernel) ⟨rfl, rfl, rfl, rfl, rfl, by decide +kernel⟩ ?hw ?hc
  case hw => w_witness2
  case hc =>
    refine Sw.walk_top (l := PySem.Challenge.rw_splitwide_k62_pairs_and_rows) (n := 63) (k := 17) (x := "script") rfl (by decide) (by kernel_rfl) ⟨⟨rfl, by decide, by decide⟩, rfl⟩ ?F
    intro w mg fa h Y G hmg0
    obtain ⟨K, KX, c⟩ := Y
    have hmg : mg ("law" : PySem.Str) = some (.ref fa) := by
      have e : (HandSHeadRun.topDef (OpenLaw.row PySem.Challenge.rw_splitwide_k62_pairs_and_rows).prog 71).name = ("law" : PySem.Str) := by kernel_rfl
      rw [← e]
      exact hmg0
    exact Law.fin KX G c hmg
