import PyProof.Rows.All
import Wide.All
import OpenK.AllK
import Wide.FinOn
import HandS.ForMost
import HandS.ForExc
import HandS.CallSlots
import HandS.Defaults
import HandS.HeadEnd
import KE.KStateDown
import HandS.More
import HandS.Head0
import HandS.Head1
import HandS.Head2
import HandS.HeadHook1
import HandS.HeadHook2
import HandS.TupAny
import HandS.Text
import HandS.Walk
import HandS.NoneIn
import HandS.Zip
import HandS.Conv
import HandS.Wide
import PyProof.ReprRoads
import PyProof.SumWalkG
import KE.KExcSuper
import HandS.ClsMeth
import HandS.ExcInit
import HandS.TryMany
import HandS.ExcField
import HandS.ExcIs
import HandS.IsInst
import PySem.Challenge.RW_onehearing_k79_levels_and_formulas
set_option Elab.async false
set_option linter.all false
set_option maxRecDepth 100000
set_option maxHeartbeats 4000000
namespace L3
open PySem PySem.Spec PyProof.Rows L2

/-- what is asked of the surroundings: b: no guard stands -/
def Gd (b : Bool) (A : Around) : Prop := b = true → A.guards = some []
theorem Gd.deeper {b : Bool} {A : Around} (g : Gd b A) (env : Env) : Gd b (A.deeper env) := fun h => g h

/-- a def that keeps a promise where no guard stands (or anywhere, b = false) -/
structure FnG (b : Bool) (P : Program) (w : World) (K : PySem.W.Frag) (mg : Str → Option Value) (base : Heap) (CX : CXT) (k : Nat) (f : Addr) (fd : FuncData) (ps : List Str) (sp : Sp) : Prop where
  len : ∀ vs H Q E, sp vs H Q E → vs.length = ps.length
  run : ∀ (A : Around) (outer : List Env) (s : Shared) (H : Hp) (args : Args) (us : List Value) (vs : List V) (Q : VK) (E : XK),
    Room k A → Gd b A → Env0 P w K mg base A outer s H → BindsTo s fd args (ps.zip us) → Vals vs us → sp vs H Q E →
      codeAny (model P w) A (.call (.ref f) args) (CR CX outer P w H s Q E) s

section
variable {b : Bool} {P : Program} {w : World} {K : PySem.W.Frag} {mg : Str → Option Value} {base : Heap} {CX : CXT} {k : Nat} {f : Addr} {fd : FuncData} {ps : List Str} {sp : Sp}
theorem FnG.toOk (F : FnG false P w K mg base CX k f fd ps sp) : FnOk P w K mg base CX k f fd ps sp :=
  ⟨F.len, fun A o s H a us vs Q E r e b v p => F.run A o s H a us vs Q E r (fun z => nomatch z) e b v p⟩
theorem FnG.ofOk (F : FnOk P w K mg base CX k f fd ps sp) : FnG b P w K mg base CX k f fd ps sp :=
  ⟨F.len, fun A o s H a us vs Q E r _ e b v p => F.run A o s H a us vs Q E r e b v p⟩
theorem FnG.of0 (F : FnG false P w K mg base CX k f fd ps sp) : FnG b P w K mg base CX k f fd ps sp := .ofOk F.toOk
theorem FnG.mono {j : Nat} (F : FnG b P w K mg base CX j f fd ps sp) (h : j ≤ k) : FnG b P w K mg base CX k f fd ps sp :=
  ⟨F.len, fun A o s H a us vs Q E r => F.run A o s H a us vs Q E (r.mono h)⟩
theorem FnG.imp {sp' : Sp} (F : FnG b P w K mg base CX k f fd ps sp) (h : ∀ vs H Q E, sp' vs H Q E → sp vs H Q E) : FnG b P w K mg base CX k f fd ps sp' :=
  ⟨fun vs H Q E q => F.len vs H Q E (h _ _ _ _ q), fun A o s H a us vs Q E r g e b v p => F.run A o s H a us vs Q E r g e b v (h _ _ _ _ p)⟩

/-- the def's rule -/
theorem fg_of {name qual : Str} {params : Arguments} {body : List Stmt} {scope : Scope} {dV kV doc pm cdv ct oc : Value} {an od : Option Addr} {osl : Array (Option Value)} {N : List Str}
    (lk : K.lookup f = some ⟨oc, od, .func (PySem.W.fnOf name qual params body scope dV kV doc pm an cdv ct), osl⟩) (hcd : PySem.W.codeIn K cdv qual = true) (S : FnScope N ps scope)
    (len : ∀ vs H Q E, sp vs H Q E → vs.length = ps.length)
    (hbody : ∀ (A : Around) (outer : List Env) (s : Shared) (H : Hp) (vs : List V) (Q : VK) (E : XK), Room k (A.deeper (envOfC qual scope s.heap.objs.size f cdv)) → Gd b A → sp vs H Q E →
      ∃ t, PSs (cxOf CX P w K mg base N qual scope f cdv A outer s H E) body t ∧ t { nx := fun _ H' => Q .non H', rt := Q } (start N vs) H) :
    FnG b P w K mg base CX (k + 1) f (PySem.W.fnOf name qual params body scope dV kV doc pm an cdv ct) ps sp := by
  refine ⟨len, fun A o s H args us vs Q E room gd env bnd rel psp => ?_⟩
  have kin : K.In s.heap := env.mod.kin.keeps fun a q h => (env.bs a q h).1
  have nl : s.heap.NoLimit := env.mod.nolimit.keeps fun a q h => (env.bs a q h).1
  refine codeAny_call_function room.depth (kin _ _ lk) rfl S.co S.gen rfl (PySem.W.codeRec_of kin hcd) (bnd _ _ _ _ ?_)
  refine wpAny_newFunctionEnv_cells S.kind (fun y hy => ?_) fun ev eh s1 x => ?_
  · rcases S.par y.1 (List.of_mem_zip (b := y.2) hy).1 with q | q
    · exact .inl q
    · exact .inr ⟨q, PySem.W.cellsFrom_some _ _ _ (.inl q)⟩
  subst eh
  refine ⟨nl.keeps x.toInCall.keep, codeAny_func ?_⟩
  obtain ⟨t, ht, hq⟩ := hbody A o s H vs Q E (room.deeper _) gd psp
  have I := inv_start (CX := CX) (E := E) (cd := cdv) S room.hd env (len _ _ _ _ psp) rel x
  refine wpAny_mono (ht.run [] s1 _ H _ I hq) (fun fl s' hs => ?_) fun e s' hs => hs
  cases fl with
  | ret u =>
    obtain ⟨v, _, H', J, rv, q⟩ := hs
    exact ⟨v, H', J.os, J.bare, J.base, J.hok, rv, q⟩
  | next =>
    obtain ⟨_, H', J, q⟩ := hs
    exact ⟨V.non, H', J.os, J.bare, J.base, J.hok, rfl, q⟩
  | brk => exact hs.elim fun _ z => z.elim fun _ z => z.2.elim
  | cont => exact hs.elim fun _ z => z.elim fun _ z => z.2.elim

/-- the rule at a def with its defaults -/
theorem ok_def {x qual : Str} {params : Arguments} {body : List Stmt} {scope : Scope} {dvs : List V} {kws : List (Str × V)} {N : List Str}
    (F : FunD K x qual params body scope dvs kws f fd) (S : FnScope N ps scope) (len : ∀ vs H Q E, sp vs H Q E → vs.length = ps.length)
    (hbody : ∀ (cdv : Value) (A : Around) (outer : List Env) (s : Shared) (H : Hp) (vs : List V) (Q : VK) (E : XK), Room k (A.deeper (envOfC qual scope s.heap.objs.size f cdv)) → Gd b A → sp vs H Q E →
      ∃ t, PSs (cxOf CX P w K mg base N qual scope f cdv A outer s H E) body t ∧ t { nx := fun _ H' => Q .non H', rt := Q } (start N vs) H) : FnG b P w K mg base CX (k + 1) f fd ps sp := by
  obtain ⟨_, _, _, _, _, _, _, cdv, _, _, rfl, lk, cd, _, _⟩ := F.ex
  exact fg_of lk cd S len fun A o s H vs Q E => hbody cdv A o s H vs Q E
end

/-! ### calls -/
section
variable {X : Cx} {CX : CXT} {b : Bool} {k : Nat} {f : Addr} {fd : FuncData} {ps : List Str} {sp : Sp} {dvs : List V} {ds : List Value} {x : Str} {p pos : Pos} {e : Expr} {es : List Expr} {t : TA} {W : WX}
theorem run_g {pins : List (Addr × Obj)} {σ : L2.St} {H : Hp} {s : Shared} {Q : VK} {vs : List V} {args : Args} {ws : List Value} (F : FnG b X.prog X.w X.K X.mg X.base (L2.CX X.prog X.w) k f fd ps sp) (hr : Room k X.A) (hg : Gd b X.A)
    (hb : BindsTo s fd args (ps.zip ws)) (tk : Takes X W) (I : Inv X pins σ H s) (r : Vals vs ws) (h : sp vs H Q (fun c d H' => W c d σ H')) :
    codeAny (model X.prog X.w) X.A (.call (.ref f) args) (wants (EP X pins σ Q) X.xe) s := by
  refine codeAny_mono (F.run X.A X.stack s H args ws vs Q _ hr hg I.env0 hb r h) fun q s' hq => ?_
  match q, hq with
  | .error _, hq => exact tk _ s' (XE.of_call I (fun _ _ _ z => z) hq)
  | .ok (.ret _), hq => exact I.after hq
  | .ok .next, hq => exact False.elim hq
  | .ok .brk, hq => exact False.elim hq
  | .ok .cont, hq => exact False.elim hq
/-- f(e, ..) -/
def tCl (sp : Sp) (dvs : List V) (W : WX) (t : TA) : TE := fun σ H Q => t σ H fun vs H1 => sp (vs ++ dvs) H1 Q fun c d H' => W c d σ H'
theorem pe_cl (F : FnG b X.prog X.w X.K X.mg X.base (L2.CX X.prog X.w) k f fd ps sp) (hr : Room k X.A) (hgd : Gd b X.A) (hg : Gl X x) (hm : X.mg x = some (.ref f)) (hk : PySem.W.keepIn X.K (.ref f) = true) (hb : Binds X.K fd ps ds) (hd : Vals dvs ds) (tk : Takes X W)
    (ha : PA X (e :: es) t) (hdb : (x == ("__debug__" : Str)) = false := by decide) (he : starEach (e :: es) X.env = (false, eval e X.env) :: starEach es X.env := by rfl) (hpl : (backTo pos (starEach es X.env)).any (·.1) = false := by rfl) :
    PE X (.Call (.Name x p) (e :: es) [] pos) (tCl sp dvs W t) := by
  refine ⟨fun pins s σ H Q I h => ?_⟩
  refine wpAny_Call_Name_kw (ld_glob I hg hm ?_ hdb)
  refine PySem.W.callWith_K (h₀ := X.base) I.ok.mod.kin hk (thn (ha.run pos pins s σ H _ I h) fun us s1 hs => ?_) he hpl
  obtain ⟨vs, H1, I1, r, q⟩ := hs
  have rr : Vals (vs ++ dvs) (us ++ ds) := r.append hd
  refine ⟨I1.kIn, wpAny_call (run_g F hr hgd (hb s1 us I1.kIn ?_) tk I1 rr q)⟩
  rw [← rr.length]
  exact F.len _ _ _ _ q
end
end L3

set_option Elab.async false
set_option linter.all false
set_option maxRecDepth 100000
set_option maxHeartbeats 4000000
namespace L3
open PySem PySem.Spec PyProof.Rows L2

/-- the law's call, from a promise that no guard stands behind -/
theorem end_call {P : Program} {w : World} {K : PySem.W.Frag} {mg mb : Str → Option Value} {k : Nat} {fa a : Addr} {fd : FuncData} {x : Str} {sp : Sp} {t : Shared} {vs : List Value} {ns : List Int}
    (kin : K.In t.heap) (hns : t.heap.Ns mainGlobals mg) (hb : t.heap.Ns builtinsNs mb) (boots : ∀ y : Str, y ≠ "__name__" → mb y = bootBuiltins y) (lim : t.heap.NoLimit) (gens : t.gens = #[])
    (obj : t.heap.get? a = some { cls := .type "list", data := .seq vs.toArray }) (iar : IntsAre vs ns) (len : ns.length ≤ sizeLine) (room : Room k callerA)
    (F : ∀ B : Heap, K.In B → B.Ns mainGlobals mg → FnG true P w K mg B (L2.CX P w) k fa fd [x] sp) (bnd : ∀ (s : Shared) (u : Value), BindsTo s fd ⟨[u], []⟩ [(x, u)])
    (start : ∀ H : Hp, Only H → SqL K H a (ns.map V.int) → sp [.ref a] H (fun v _ => v = .bl true) fun _ _ _ => False) :
    codeAny (model P w) callerA (.call (.ref fa) ⟨[.ref a], []⟩) (fun r s' => r = .ok (.ret (.bool true)) ∧ OldK t.heap s'.heap ∧ s'.os = t.os ∧ AllBare s'.gens) t := by
  have rel := vals_ints iar
  have lv := iar.length
  -- H: where at most the script is told
  have main : ∀ H : Hp, Only H → (∀ c u, H c = some u → c = a ∧ K.lookup a = none) → SqL K H a (ns.map V.int) → HOk P w H t.heap →
      codeAny (model P w) callerA (.call (.ref fa) ⟨[.ref a], []⟩) (fun r s' => r = .ok (.ret (.bool true)) ∧ OldK t.heap s'.heap ∧ s'.os = t.os ∧ AllBare s'.gens) t := by
    intro H only at_a sq ok
    have stays : ∀ {c : Addr} {o : Obj}, t.heap.get? c = some o → H c = none → (hidT t.heap H).get? c = some o := fun g n => hidT_get g n
    have dicts : ∀ {c : Addr} {o : Obj} {es : Array DictEntry} {ep : Nat}, t.heap.get? c = some o → o.data = .dict es ep → H c = none := by
      intro c o es ep g dd
      match hc : H c with
      | none => rfl
      | some u =>
        obtain ⟨rfl, _⟩ := at_a c u hc
        rw [obj] at g
        injection g with g
        subst g
        exact nomatch (show Data.seq vs.toArray _ = Data.dict es ep from dd)
    have nss : ∀ {c : Addr} {m : Str → Option Value}, t.heap.Ns c m → (hidT t.heap H).Ns c m := fun ⟨o, es, ep, g, dd, q⟩ => ⟨o, es, ep, stays g (dicts g dd), dd, q⟩
    have kin' : K.In (hidT t.heap H) := fun c o g => stays (kin c o g) (by
      match hc : H c with
      | none => rfl
      | some u =>
        obtain ⟨rfl, z⟩ := at_a c u hc
        rw [z] at g
        cases g)
    obtain ⟨mc, lim1, lim2⟩ := lim
    have md : Mod K mg (hidT t.heap H) := { kin := kin', glob := nss hns, blt := ⟨mb, nss hb, boots⟩, nolimit := ⟨mc, nss lim1, lim2⟩ }
    have env : Env0 P w K mg (hidT t.heap H) callerA [] t H := { frames := rfl, mod := md, bs := fun c o g => of_hidT g, bsz := Nat.le_of_eq (hidT_size _ _), funs := trivial, frf := (fun c z => absurd (show c ∈ ([] : List Addr) from z) List.not_mem_nil), hok := ok, bare := .of_eq gens }
    refine codeAny_mono ((F _ kin' (nss hns)).run callerA [] t H _ [.ref a] [.ref a] _ _ room (fun _ => rfl) env (bnd t (.ref a)) (.cons rfl .nil) (start H only sq)) fun r s' h => ?_
    match r, h with
    | .error _, h =>
      obtain ⟨_, _, _, _, _, _, _, _, _, _, _, _, z⟩ := h
      exact z.elim
    | .ok .next, h => exact False.elim h
    | .ok .brk, h => exact False.elim h
    | .ok .cont, h => exact False.elim h
    | .ok (.ret u), h =>
      obtain ⟨v, H', os, bare, un, ok', rv, q⟩ := h
      have q' : v = .bl true := q
      subst q'
      have ru : u = Value.bool true := rv
      subst ru
      refine ⟨rfl, OldK.of_keep fun c o g => ?_, os, bare⟩
      match hc : H c with
      | none => exact un.keep c o g hc (fun z => List.not_mem_nil (show c ∈ ([] : List Addr) from z)) List.not_mem_nil
      | some u =>
        rcases only c with z | ⟨ob, xs, z⟩
        · rw [hc] at z
          cases z
        · have g1 := (ok c _ z).1
          have g2 := (ok' c _ (un.frzs c ob _ z)).1
          rw [g] at g1
          injection g1 with g1
          rw [g1]
          exact g2
  match hk : K.lookup a with
  | some o =>
    have g := kin a o hk
    rw [obj] at g
    injection g with g
    subst g
    refine main (fun _ => none) (fun _ => .inl rfl) (fun c u z => (Option.some_ne_none u z.symm).elim) (.inr ⟨_, vs.toArray, _, hk, rfl, rfl, rfl, ?_, by simpa using rel⟩) fun c u z => (Option.some_ne_none u (show (none : Option HO) = some u from z).symm).elim
    rw [List.size_toArray, lv]
    exact len
  | none =>
    refine main (fun c => if c = a then some (.frz { cls := .type "list", data := .seq vs.toArray } (.lst (ns.map V.int))) else none) (fun c => ?_) (fun c u z => ?_) (.inl (.inr ⟨_, if_pos rfl⟩)) fun c u z => ?_
    · by_cases h : c = a
      · exact .inr ⟨_, _, if_pos h⟩
      · exact .inl (if_neg h)
    · by_cases h : c = a
      · exact ⟨h, hk⟩
      · have z' := (if_neg h).symm.trans z
        cases z'
    · by_cases h : c = a
      · have z' := (if_pos h).symm.trans z
        injection z' with z'
        subst z'
        subst h
        exact ⟨obj, by rw [List.length_map]; exact len, vs, _, rel, obj⟩
      · have z' := (if_neg h).symm.trans z
        cases z'

/-- the end of a law over a head by facts -/
theorem walk_end {l : PySem.W.OpenLaw} {n k : Nat} {q : Program} {loose : List Str} {XP : (Str → Option Value) → Heap → Prop} {YP : World → Heap → Prop} {d : DefRec} {x : Str}
    (hn : l.most = some n) (hz : n ≤ sizeLine) (hdf : d.params.defaults = []) (room : Room k callerA)
    (F : ∀ (w : World) (mg : Str → Option Value) (fa : Addr) (h : Heap), YP w h → h.Ns mainGlobals mg → mg d.name = some (.ref fa) →
      ∃ (K : PySem.W.Frag) (fd : FuncData) (sp : Sp), K.In h ∧ (∀ (s : Shared) (u : Value), BindsTo s fd ⟨[u], []⟩ [(x, u)]) ∧
        (∀ (H : Hp) (a : Addr) (ns : List Int), ns.length ≤ n → Only H → SqL K H a (ns.map V.int) → sp [.ref a] H (fun v _ => v = .bl true) fun _ _ _ => False) ∧
        ∀ B : Heap, K.In B → B.Ns mainGlobals mg → FnG true l.prog w K mg B (L2.CX l.prog w) k fa fd [x] sp) :
    PySem.W.WalkO q loose XP YP l.row.toRowW d [] (fun f vs => PySem.call f vs) := by
  refine Att.attach_call hn hdf fun w s0 t mg mb fa o pm cd doc a vs ns G Y ho hd hcd hmg obj iar lens gens => ?_
  obtain ⟨K, fd, sp, kin, bnd, st, fs⟩ := F w mg fa _ Y G.T.g hmg
  exact end_call kin G.T.g G.T.b G.T.builtins G.T.nolimit gens obj iar (Nat.le_trans lens hz) room fs bnd fun H only sq => st H a ns lens only sq
end L3

set_option Elab.async false
set_option linter.all false
set_option maxRecDepth 100000
set_option maxHeartbeats 4000000
namespace L3
open PySem PySem.Spec PyProof.Rows L2

/-! ### data that never changes -/
inductive D where
  | non
  | bl (b : Bool)
  | int (i : Int)
  | str (s : Str)
  | tup (xs : List D)
  | lst (xs : List D)
  | ro (xs : List D)
  | ob (c : Str) (fs : List (Str × D))

/-- the module's names; the exception (its dict) that the suite holds -/
structure Mg where
  mg : Str → Option Value
  cur : Option (Addr × Option Addr)
def curX (X : Cx) : Option (Addr × Option Addr) := if X.calm then none else match X.pn with
  | (a, oe) :: _ => some (a, oe.dict)
  | [] => none
def mgX (X : Cx) : Mg := ⟨X.mg, curX X⟩
/-- the class that the module's name c stands for -/
def cad (mg : Mg) (c : Str) : Addr := match mg.mg c with
  | some (.ref a) => a
  | _ => 0

mutual
/-- v is the datum, told by the frozen heap F alone -/
def Rep (K : PySem.W.Frag) (mg : Mg) (F : Hp) : D → V → Prop
  | .non, v => v = .non
  | .bl b, v => v = .bl b
  | .int i, v => v = .int i
  | .str s, v => v = .str s
  | .tup xs, v => ∃ a vs, v = .ref a ∧ SqT K F a vs ∧ Reps K mg F xs vs
  | .lst xs, v => ∃ a vs, v = .ref a ∧ F a = some (.lst vs) ∧ Reps K mg F xs vs
  | .ro xs, v => ∃ a vs, v = .ref a ∧ SqL K F a vs ∧ Reps K mg F xs vs
  | .ob c fs, v => ∃ a dx vfs, v = .ref a ∧ F a = some (.ins (cad mg c) dx vfs) ∧ RepF K mg F fs vfs
def Reps (K : PySem.W.Frag) (mg : Mg) (F : Hp) : List D → List V → Prop
  | [], vs => vs = []
  | x :: xs, vs => ∃ v r, vs = v :: r ∧ Rep K mg F x v ∧ Reps K mg F xs r
def RepF (K : PySem.W.Frag) (mg : Mg) (F : Hp) : List (Str × D) → List (Str × V) → Prop
  | [], vs => vs = []
  | (n, x) :: xs, vs => ∃ v r, vs = (n, v) :: r ∧ Rep K mg F x v ∧ RepF K mg F xs r
end

abbrev Sub (F H : Hp) : Prop := ∀ a o, F a = some o → H a = some o
theorem Sub.refl (F : Hp) : Sub F F := fun _ _ h => h
theorem Sub.trans {A B C : Hp} (h : Sub A B) (k : Sub B C) : Sub A C := fun a o e => k a o (h a o e)
theorem sub_l {K : PySem.W.Frag} {F H : Hp} (s : Sub F H) {a : Addr} {vs : List V} (h : SqL K F a vs) : SqL K H a vs := by
  rcases h with (h | ⟨o, h⟩) | h
  · exact .inl (.inl (s _ _ h))
  · exact .inl (.inr ⟨o, s _ _ h⟩)
  · exact .inr h
theorem sub_t {K : PySem.W.Frag} {F H : Hp} (s : Sub F H) {a : Addr} {vs : List V} (h : SqT K F a vs) : SqT K H a vs := by
  rcases h with (h | ⟨o, h⟩) | h
  · exact .inl (.inl (s _ _ h))
  · exact .inl (.inr ⟨o, s _ _ h⟩)
  · exact .inr h

section
variable {K : PySem.W.Frag} {mg : Mg} {F G : Hp}
mutual
theorem Rep.mono (s : Sub F G) : ∀ {x : D} {v : V}, Rep K mg F x v → Rep K mg G x v
  | .non, _, h => h
  | .bl _, _, h => h
  | .int _, _, h => h
  | .str _, _, h => h
  | .tup _, _, ⟨a, vs, e, h, r⟩ => ⟨a, vs, e, sub_t s h, Reps.mono s r⟩
  | .lst _, _, ⟨a, vs, e, h, r⟩ => ⟨a, vs, e, s _ _ h, Reps.mono s r⟩
  | .ro _, _, ⟨a, vs, e, h, r⟩ => ⟨a, vs, e, sub_l s h, Reps.mono s r⟩
  | .ob _ _, _, ⟨a, dx, vs, e, h, r⟩ => ⟨a, dx, vs, e, s _ _ h, RepF.mono s r⟩
theorem Reps.mono (s : Sub F G) : ∀ {xs : List D} {vs : List V}, Reps K mg F xs vs → Reps K mg G xs vs
  | [], _, h => h
  | _ :: _, _, ⟨v, r, e, h, t⟩ => ⟨v, r, e, Rep.mono s h, Reps.mono s t⟩
theorem RepF.mono (s : Sub F G) : ∀ {xs : List (Str × D)} {vs : List (Str × V)}, RepF K mg F xs vs → RepF K mg G xs vs
  | [], _, h => h
  | (_, _) :: _, _, ⟨v, r, e, h, t⟩ => ⟨v, r, e, Rep.mono s h, RepF.mono s t⟩
end
theorem Reps.length : ∀ {xs : List D} {vs : List V}, Reps K mg F xs vs → vs.length = xs.length
  | [], _, h => by rw [show _ = [] from h]; rfl
  | _ :: _, _, ⟨v, r, e, _, t⟩ => by rw [e, List.length_cons, List.length_cons, Reps.length t]
theorem Reps.get : ∀ {xs : List D} {vs : List V} {i : Nat} {x : D}, Reps K mg F xs vs → xs[i]? = some x → ∃ v, vs[i]? = some v ∧ Rep K mg F x v
  | [], _, _, _, _, h => by simp at h
  | y :: ys, _, 0, x, ⟨v, r, e, h, t⟩, g => by
    rw [List.getElem?_cons_zero] at g
    cases g
    exact ⟨v, by rw [e]; rfl, h⟩
  | y :: ys, _, i + 1, x, ⟨v, r, e, h, t⟩, g => by
    rw [List.getElem?_cons_succ] at g
    obtain ⟨u, a, b⟩ := Reps.get t g
    exact ⟨u, by rw [e]; exact a, b⟩
theorem Reps.append : ∀ {xs : List D} {vs : List V} {ys : List D} {ws : List V}, Reps K mg F xs vs → Reps K mg F ys ws → Reps K mg F (xs ++ ys) (vs ++ ws)
  | [], _, _, _, h, k => by rw [show _ = [] from h]; exact k
  | _ :: _, _, _, _, ⟨v, r, e, h, t⟩, k => ⟨v, _, by rw [e]; rfl, h, Reps.append t k⟩
theorem Reps.take : ∀ {xs : List D} {vs : List V} (n : Nat), Reps K mg F xs vs → Reps K mg F (xs.take n) (vs.take n)
  | _, _, 0, _ => by simp [Reps]
  | [], _, n + 1, h => by rw [show _ = [] from h]; simp [Reps]
  | _ :: _, _, n + 1, ⟨v, r, e, h, t⟩ => ⟨v, _, by rw [e]; rfl, h, Reps.take n t⟩
theorem Reps.drop : ∀ {xs : List D} {vs : List V} (n : Nat), Reps K mg F xs vs → Reps K mg F (xs.drop n) (vs.drop n)
  | _, _, 0, h => h
  | [], _, n + 1, h => by rw [show _ = [] from h]; simp [Reps]
  | _ :: _, _, n + 1, ⟨v, r, e, h, t⟩ => by rw [e]; exact Reps.drop n t
theorem Reps.set : ∀ {xs : List D} {vs : List V} (i : Nat) {x : D} {v : V}, Reps K mg F xs vs → Rep K mg F x v → Reps K mg F (xs.set i x) (vs.set i v)
  | [], _, _, _, _, h, _ => by rw [show _ = [] from h]; simp [Reps]
  | _ :: _, _, 0, _, w, ⟨v, r, e, h, t⟩, k => ⟨w, r, by rw [e]; rfl, k, t⟩
  | _ :: _, _, i + 1, _, _, ⟨v, r, e, h, t⟩, k => ⟨v, _, by rw [e]; rfl, h, Reps.set i t k⟩
theorem Reps.map_of {α : Type} (f : α → D) (g : α → V) : ∀ {xs : List α}, (∀ x ∈ xs, Rep K mg F (f x) (g x)) → Reps K mg F (xs.map f) (xs.map g)
  | [], _ => rfl
  | x :: xs, h => ⟨_, _, rfl, h x (List.mem_cons_self ..), Reps.map_of f g fun y hy => h y (List.mem_cons_of_mem _ hy)⟩
theorem RepF.lookup : ∀ {xs : List (Str × D)} {vs : List (Str × V)} {n : Str} {x : D}, RepF K mg F xs vs → xs.lookup n = some x → ∃ v, vs.lookup n = some v ∧ Rep K mg F x v
  | [], _, _, _, _, h => by cases h
  | (m, y) :: ys, _, n, x, ⟨v, r, e, h, t⟩, g => by
    rw [List.lookup_cons] at g
    rw [e, List.lookup_cons]
    cases q : (n == m) with
    | true =>
      rw [q] at g
      cases g
      exact ⟨v, rfl, h⟩
    | false =>
      rw [q] at g
      exact RepF.lookup t g
end

/-! ### slots -/
/-- an object that may change -/
inductive MO where
  | lst (xs : List D)
inductive Sl where
  | un
  | d (x : D)
  | o (par : Bool) (m : MO)
  | ex (fs : List (Str × D))
abbrev Rho := List Sl
def RepM (K : PySem.W.Frag) (mg : Mg) (F H : Hp) : MO → Addr → Prop
  | .lst xs, p => ∃ vs, H p = some (.lst vs) ∧ Reps K mg F xs vs
def Own (σ : L2.St) (ρ : Rho) (b : Addr) : Prop := ∃ (i : Nat) (q : Bool) (m : MO), ρ[i]? = some (.o q m) ∧ σ[i]? = some (some (.ref b))

structure RS (K : PySem.W.Frag) (mg : Mg) (F H : Hp) (σ : L2.St) (ρ : Rho) : Prop where
  len : σ.length = ρ.length
  sub : Sub F H
  dat : ∀ {i : Nat} {x : D}, ρ[i]? = some (.d x) → ∃ v, σ[i]? = some (some v) ∧ Rep K mg F x v
  own : ∀ {i : Nat} {q : Bool} {m : MO}, ρ[i]? = some (.o q m) → ∃ p, σ[i]? = some (some (.ref p)) ∧ F p = none ∧ RepM K mg F H m p
  apart : ∀ {i j : Nat} {q q' : Bool} {m m' : MO} {p : Addr}, ρ[i]? = some (.o q m) → ρ[j]? = some (.o q' m') → σ[i]? = some (some (.ref p)) → σ[j]? = some (some (.ref p)) → i = j
  exs : ∀ {i : Nat} {fs : List (Str × D)}, ρ[i]? = some (.ex fs) → ∃ (a d : Addr) (vfs : List (Str × V)), mg.cur = some (a, some d) ∧ σ[i]? = some (some (.ref a)) ∧ F d = none ∧ H d = some (.xd vfs) ∧ RepF K mg F fs vfs

structure Go (K : PySem.W.Frag) (mg : Mg) (F H : Hp) (σ : L2.St) (ρ : Rho) (F' H' : Hp) (σ' : L2.St) (ρ' : Rho) : Prop where
  rs : RS K mg F' H' σ' ρ'
  fro : Sub F F'
  keep : ∀ {b : Addr} {o : HO}, H b = some o → ¬ Own σ ρ b → H' b = some o
  live : ∀ {b : Addr}, H' b = none → H b = none
  new : ∀ {b : Addr} {o : HO}, F' b = some o → F b = some o ∨ H b = none ∨ Own σ ρ b
  own : ∀ {b : Addr}, Own σ' ρ' b → Own σ ρ b ∨ H b = none
  par : ∀ {i : Nat} {m : MO}, ρ[i]? = some (.o true m) → σ'[i]? = σ[i]? ∧ ∃ m', ρ'[i]? = some (.o true m')

section
variable {K : PySem.W.Frag} {mg : Mg} {F H F1 H1 F2 H2 : Hp} {σ σ1 σ2 : L2.St} {ρ ρ1 ρ2 : Rho}
theorem Own.some (r : RS K mg F H σ ρ) {b : Addr} (h : Own σ ρ b) : F b = none ∧ ∃ m, RepM K mg F H m b := by
  obtain ⟨i, q, m, e1, e2⟩ := h
  obtain ⟨p, e3, e4, e5⟩ := r.own e1
  rw [e2] at e3
  cases e3
  exact ⟨e4, m, e5⟩
theorem RepM.there {m : MO} {b : Addr} (h : RepM K mg F H m b) : ∃ vs, H b = some (.lst vs) := by
  cases m with
  | lst xs =>
    obtain ⟨vs, e, _⟩ := h
    exact ⟨vs, e⟩
theorem RepM.mono {m : MO} {b : Addr} (s : Sub F F1) (e : H1 b = H b) (h : RepM K mg F H m b) : RepM K mg F1 H1 m b := by
  cases m with
  | lst xs =>
    obtain ⟨vs, e', r⟩ := h
    exact ⟨vs, e.trans e', r.mono s⟩
theorem Go.refl (r : RS K mg F H σ ρ) : Go K mg F H σ ρ F H σ ρ :=
  ⟨r, Sub.refl F, fun h _ => h, fun h => h, fun h => .inl h, fun h => .inl h, fun h => ⟨rfl, _, h⟩⟩
theorem Go.trans (a : Go K mg F H σ ρ F1 H1 σ1 ρ1) (b : Go K mg F1 H1 σ1 ρ1 F2 H2 σ2 ρ2) : Go K mg F H σ ρ F2 H2 σ2 ρ2 where
  rs := b.rs
  fro := a.fro.trans b.fro
  keep := fun {c o} h n => b.keep (a.keep h n) fun z => (a.own z).elim n fun q => by rw [h] at q; cases q
  live := fun h => a.live (b.live h)
  new := fun {c o} h => by
    rcases b.new h with q | q | q
    · exact a.new q
    · exact .inr (.inl (a.live q))
    · rcases a.own q with q | q
      · exact .inr (.inr q)
      · exact .inr (.inl q)
  own := fun h => by
    rcases b.own h with q | q
    · exact a.own q
    · exact .inr (a.live q)
  par := fun h => by
    obtain ⟨e1, m1, g1⟩ := a.par h
    obtain ⟨e2, m2, g2⟩ := b.par g1
    exact ⟨e2.trans e1, m2, g2⟩

/-- the heaps grow: what is new is fresh -/
structure Ext (F H F' H' : Hp) : Prop where
  fro : Sub F F'
  sub : Sub F' H'
  keep : Sub H H'
  new : ∀ {b : Addr} {o : HO}, F' b = some o → F b = some o ∨ H b = none
theorem Ext.refl {F H : Hp} (s : Sub F H) : Ext F H F H := ⟨Sub.refl F, s, Sub.refl H, fun h => .inl h⟩
theorem Sub.none {A B : Hp} (s : Sub A B) {b : Addr} (h : B b = none) : A b = none := by
  cases e : A b with
  | none => rfl
  | some o =>
    rw [s b o e] at h
    cases h
theorem Ext.trans (a : Ext F H F1 H1) (b : Ext F1 H1 F2 H2) : Ext F H F2 H2 where
  fro := a.fro.trans b.fro
  sub := b.sub
  keep := a.keep.trans b.keep
  new := fun h => by
    rcases b.new h with q | q
    · exact a.new q
    · exact .inr (a.keep.none q)
/-- a new frozen object -/
theorem Ext.add (s : Sub F H) {p : Addr} {o : HO} (n : H p = none) : Ext F H (upd F p o) (upd H p o) where
  fro := fun a u h => by rw [upd_ne (ne_of_none (s _ _ h) n)]; exact h
  sub := fun a u h => by
    by_cases e : a = p
    · subst e
      rw [upd_same] at h ⊢
      exact h
    · rw [upd_ne e] at h ⊢
      exact s a u h
  keep := fun a u h => by rw [upd_ne (ne_of_none h n)]; exact h
  new := fun {b u} h => by
    by_cases e : b = p
    · exact .inr (e ▸ n)
    · rw [upd_ne e] at h
      exact .inl h
/-- a new object that is not frozen -/
theorem Ext.lay (s : Sub F H) {p : Addr} {o : HO} (n : H p = none) : Ext F H F (upd H p o) where
  fro := Sub.refl F
  sub := fun a u h => by rw [upd_ne (ne_of_none (s _ _ h) n)]; exact s _ _ h
  keep := fun a u h => by rw [upd_ne (ne_of_none h n)]; exact h
  new := fun h => .inl h
theorem Ext.go (r : RS K mg F H σ ρ) (e : Ext F H F1 H1) : Go K mg F H σ ρ F1 H1 σ ρ where
  rs := {
    len := r.len
    sub := e.sub
    dat := fun h => by
      obtain ⟨v, a, b⟩ := r.dat h
      exact ⟨v, a, b.mono e.fro⟩
    own := fun h => by
      obtain ⟨p, a, b, c⟩ := r.own h
      obtain ⟨vs, hp⟩ := c.there
      refine ⟨p, a, ?_, c.mono e.fro (by rw [e.keep _ _ hp, hp])⟩
      cases q : F1 p with
      | none => rfl
      | some o =>
        rcases e.new q with z | z
        · rw [b] at z
          cases z
        · rw [hp] at z
          cases z
    apart := r.apart
    exs := fun h => by
      obtain ⟨a0, d, vfs, hc, a, b, c, f⟩ := r.exs h
      refine ⟨a0, d, vfs, hc, a, ?_, e.keep _ _ c, f.mono e.fro⟩
      match q : F1 _ with
      | none => rfl
      | some o =>
        rcases e.new q with z | z
        · rw [b] at z
          cases z
        · rw [c] at z
          cases z }
  fro := e.fro
  keep := fun h _ => e.keep _ _ h
  live := fun h => e.keep.none h
  new := fun h => (e.new h).elim .inl fun z => .inr (.inl z)
  own := fun h => .inl h
  par := fun h => ⟨rfl, _, h⟩
end
end L3

set_option Elab.async false
set_option linter.all false
set_option maxRecDepth 100000
set_option maxHeartbeats 4000000
namespace L3
open PySem PySem.Spec PyProof.Rows L2

/-! ### what comes of a piece of code -/
/-- a value: a datum, a new object, the object of a slot -/
inductive Vl where
  | d (x : D)
  | f (m : MO)
  | s (i : Nat)
inductive R (α : Type) where
  | ok (a : α) (ρ : Rho)
  | ex (c : Str) (fs : List (Str × D)) (ρ : Rho)
  | no
@[reducible] def bnd {α β : Type} (f : Rho → R α) (g : α → Rho → R β) : Rho → R β := fun ρ => match f ρ with
  | .ok a ρ' => g a ρ'
  | .ex c fs ρ' => .ex c fs ρ'
  | .no => .no

section
variable (K : PySem.W.Frag) (mg : Mg)
def RepV (H0 F H : Hp) (σ : L2.St) (ρ : Rho) : Vl → V → Prop
  | .d x, v => Rep K mg F x v
  | .f m, v => ∃ p, v = .ref p ∧ H0 p = none ∧ F p = none ∧ RepM K mg F H m p ∧ ¬ Own σ ρ p
  | .s i, v => σ[i]? = some (some v)
def RepVs (H0 F H : Hp) (σ : L2.St) (ρ : Rho) : List Vl → List V → Prop
  | [], vs => vs = []
  | x :: xs, vs => ∃ v r, vs = v :: r ∧ RepV K mg H0 F H σ ρ x v ∧ RepVs H0 F H σ ρ xs r
/-- how a result is told -/
abbrev Tell (α β : Type) := Hp → Hp → Hp → Rho → α → β → Prop
/-- the wish about what comes, from F, H, ρ on; fresh is what H0 does not know -/
def Post {α β : Type} (rel : Tell α β) (W : WX) (H0 F H : Hp) (σ : L2.St) (ρ : Rho) (r : R α) (Q : β → Hp → Prop) : Prop := match r with
  | .ok x ρ' => ∀ v F' H', Go K mg F H σ ρ F' H' σ ρ' → rel H0 F' H' ρ' x v → Q v H'
  | .ex c fs ρ' => ∀ d F' H' vfs, Go K mg F H σ ρ F' H' σ ρ' → H0 d = none → F' d = none → H' d = some (.xd vfs) → RepF K mg F' fs vfs → W (.ref (cad mg c)) (some d) σ H'
  | .no => False
def tG {α β : Type} (rel : L2.St → Tell α β) (W : WX) (f : Rho → R α) : L2.St → Hp → (β → Hp → Prop) → Prop := fun σ H Q => ∃ F ρ, RS K mg F H σ ρ ∧ Post K mg (rel σ) W H F H σ ρ (f ρ) Q
abbrev relV (σ : L2.St) : Tell Vl V := fun H0 F H ρ => RepV K mg H0 F H σ ρ
abbrev relVs (σ : L2.St) : Tell (List Vl) (List V) := fun H0 F H ρ => RepVs K mg H0 F H σ ρ
abbrev relB (σ : L2.St) : Tell Bool Bool := fun _ _ _ _ a b => a = b
abbrev tE (W : WX) (f : Rho → R Vl) : TE := tG K mg (relV K mg) W f
abbrev tT (W : WX) (f : Rho → R Bool) : TT := tG K mg relB W f
abbrev tA (W : WX) (f : Rho → R (List Vl)) : TA := tG K mg (relVs K mg) W f
end

section
variable {K : PySem.W.Frag} {mg : Mg} {F H F1 H1 F2 H2 H0 : Hp} {σ σ1 σ2 : L2.St} {ρ ρ1 ρ2 : Rho} {W : WX} {α β γ δ : Type} {rel : Tell α β} {rel2 : Tell γ δ}
theorem Post.mono {r : R α} {Q Q' : β → Hp → Prop} (h : Post K mg rel W H0 F H σ ρ r Q) (m : ∀ b H', Q b H' → Q' b H') : Post K mg rel W H0 F H σ ρ r Q' := by
  cases r with
  | ok x ρ' => exact fun v F' H' g q => m _ _ (h v F' H' g q)
  | ex c fs ρ' => exact h
  | no => exact h
/-- from a later state on -/
theorem Post.step {r : R α} {Q : β → Hp → Prop} (g : Go K mg F H σ ρ F1 H1 σ ρ1) (h : Post K mg rel W H0 F H σ ρ r Q) : Post K mg rel W H0 F1 H1 σ ρ1 r Q := by
  cases r with
  | ok x ρ' => exact fun v F' H' g' q => h v F' H' (g.trans g') q
  | ex c fs ρ' => exact fun d F' H' vfs g' n a b e => h d F' H' vfs (g.trans g') n a b e
  | no => exact h
theorem Post.bind {f : Rho → R α} {k : α → Rho → R γ} {Q : δ → Hp → Prop} {Hb : Hp} (l : ∀ b, Hb b = none → H0 b = none) (h : Post K mg rel2 W H0 F H σ ρ (bnd f k ρ) Q) :
    Post K mg rel W Hb F H σ ρ (f ρ) (fun b H1 => ∃ F1 ρ1 a, Go K mg F H σ ρ F1 H1 σ ρ1 ∧ rel Hb F1 H1 ρ1 a b ∧ Post K mg rel2 W H0 F1 H1 σ ρ1 (k a ρ1) Q) := by
  unfold bnd at h
  cases e : f ρ with
  | ok a ρ1 =>
    rw [e] at h
    exact fun v F1 H1 g q => ⟨F1, ρ1, a, g, q, h.step g⟩
  | ex c fs ρ' =>
    rw [e] at h
    exact fun d F' H' vfs g n => h d F' H' vfs g (l d n)
  | no =>
    rw [e] at h
    exact h
/-- the first of two -/
theorem Post.bind0 {f : Rho → R α} {k : α → Rho → R γ} {Q : δ → Hp → Prop} (h : Post K mg rel2 W H0 F H σ ρ (bnd f k ρ) Q) :
    Post K mg rel W H0 F H σ ρ (f ρ) (fun b H1 => ∃ F1 ρ1 a, Go K mg F H σ ρ F1 H1 σ ρ1 ∧ rel H0 F1 H1 ρ1 a b ∧ Post K mg rel2 W H0 F1 H1 σ ρ1 (k a ρ1) Q) := h.bind fun _ z => z

theorem RepV.base (l : ∀ b, H1 b = none → H b = none) {x : Vl} {v : V} (h : RepV K mg H1 F2 H2 σ ρ x v) : RepV K mg H F2 H2 σ ρ x v := by
  cases x with
  | d x => exact h
  | f m =>
    obtain ⟨p, a, b, c, d, e⟩ := h
    exact ⟨p, a, l p b, c, d, e⟩
  | s i => exact h
theorem RepVs.base (l : ∀ b, H1 b = none → H b = none) : ∀ {xs : List Vl} {vs : List V}, RepVs K mg H1 F2 H2 σ ρ xs vs → RepVs K mg H F2 H2 σ ρ xs vs
  | [], _, h => h
  | _ :: _, _, ⟨v, r, e, h, t⟩ => ⟨v, r, e, h.base l, RepVs.base l t⟩
theorem Go.freshF (g : Go K mg F H σ ρ F1 H1 σ1 ρ1) {p : Addr} (n : F p = none) (t : ∃ o, H p = some o) (no : ¬ Own σ ρ p) : F1 p = none := by
  cases q : F1 p with
  | none => rfl
  | some o =>
    obtain ⟨u, t⟩ := t
    rcases g.new q with z | z | z
    · rw [n] at z
      cases z
    · rw [t] at z
      cases z
    · exact absurd z no
theorem Go.notOwn (g : Go K mg F H σ ρ F1 H1 σ1 ρ1) {p : Addr} (t : ∃ o, H p = some o) (no : ¬ Own σ ρ p) : ¬ Own σ1 ρ1 p := fun z => by
  obtain ⟨u, t⟩ := t
  rcases g.own z with z | z
  · exact no z
  · rw [t] at z
    cases z
/-- a value stays -/
theorem RepV.go {x : Vl} {v : V} (g : Go K mg F H σ ρ F1 H1 σ ρ1) (h : RepV K mg H0 F H σ ρ x v) : RepV K mg H0 F1 H1 σ ρ1 x v := by
  cases x with
  | d x => exact Rep.mono g.fro h
  | f m =>
    obtain ⟨p, a, b, c, d, e⟩ := h
    obtain ⟨vs, t⟩ := d.there
    exact ⟨p, a, b, g.freshF c ⟨_, t⟩ e, d.mono g.fro (by rw [g.keep t e, t]), g.notOwn ⟨_, t⟩ e⟩
  | s i => exact h
theorem RepVs.go (g : Go K mg F H σ ρ F1 H1 σ ρ1) : ∀ {xs : List Vl} {vs : List V}, RepVs K mg H0 F H σ ρ xs vs → RepVs K mg H0 F1 H1 σ ρ1 xs vs
  | [], _, h => h
  | _ :: _, _, ⟨v, r, e, h, t⟩ => ⟨v, r, e, h.go g, RepVs.go g t⟩
end
theorem PE.weak {X : Cx} {e : Expr} {t u : TE} (h : PE X e t) (m : ∀ σ H Q, u σ H Q → t σ H Q) : PE X e u := ⟨fun pins s σ H Q I w => h.run pins s σ H Q I (m σ H Q w)⟩
theorem PT.weak {X : Cx} {e : Expr} {t u : TT} (h : PT X e t) (m : ∀ σ H Q, u σ H Q → t σ H Q) : PT X e u := ⟨fun pins s σ H Q I w => h.run pins s σ H Q I (m σ H Q w)⟩
theorem PW.weak {X : Cx} {e : Expr} {t u : TT} (h : PW X e t) (m : ∀ σ H Q, u σ H Q → t σ H Q) : PW X e u := ⟨fun wh pins s σ H Q I w => h.run wh pins s σ H Q I (m σ H Q w)⟩
theorem PA.weak {X : Cx} {es : List Expr} {t u : TA} (h : PA X es t) (m : ∀ σ H Q, u σ H Q → t σ H Q) : PA X es u := ⟨fun pos pins s σ H Q I w => h.run pos pins s σ H Q I (m σ H Q w)⟩
theorem PS.weak {X : Cx} {e : Stmt} {t u : TS} (h : PS X e t) (m : ∀ D σ H, u D σ H → t D σ H) : PS X e u := ⟨fun pins s σ H D I w => h.run pins s σ H D I (m D σ H w)⟩
theorem PSs.weak {X : Cx} {e : List Stmt} {t u : TS} (h : PSs X e t) (m : ∀ D σ H, u D σ H → t D σ H) : PSs X e u := ⟨fun pins s σ H D I w => h.run pins s σ H D I (m D σ H w)⟩
theorem PTs.weak {X : Cx} {es : List Expr} {t u : TT} (h : PTs X es t) (m : ∀ σ H Q, u σ H Q → t σ H Q) : PTs X es u := ⟨fun pins s σ H Q I w => h.run pins s σ H Q I (m σ H Q w)⟩

/-! ### expressions -/
def eVar (i : Nat) : Rho → R Vl := fun ρ => match ρ[i]? with
  | some (.d x) => .ok (.d x) ρ
  | some (.o _ _) => .ok (.s i) ρ
  | _ => .no
def eC (x : D) : Rho → R Vl := fun ρ => .ok (.d x) ρ
/-- the datum, the object from now on frozen -/
def fz : Vl → Rho → R Vl
  | .d x, ρ => .ok (.d x) ρ
  | .f (.lst xs), ρ => .ok (.d (.lst xs)) ρ
  | .s i, ρ => match ρ[i]? with
    | some (.o false (.lst xs)) => .ok (.d (.lst xs)) (ρ.set i (.d (.lst xs)))
    | some (.d x) => .ok (.d x) ρ
    | _ => .no
def eFz (f : Rho → R Vl) : Rho → R Vl := bnd f fz
/-- the slot's object, given away -/
def gv : Vl → Rho → R Vl
  | .s i, ρ => match ρ[i]? with
    | some (.o false m) => .ok (.f m) (ρ.set i .un)
    | some (.d x) => .ok (.d x) ρ
    | _ => .no
  | x, ρ => .ok x ρ
def eGv (f : Rho → R Vl) : Rho → R Vl := bnd f gv
def okV (o : Option Vl) (ρ : Rho) : R Vl := match o with
  | some c => .ok c ρ
  | none => .no
/-- what a value says now (a list is only looked at) -/
def view (ρ : Rho) : Vl → Option D
  | .d x => some x
  | .f (.lst xs) => some (.lst xs)
  | .s i => match ρ[i]? with
    | some (.o _ (.lst xs)) => some (.lst xs)
    | some (.d x) => some x
    | _ => none
def views (ρ : Rho) : List Vl → Option (List D)
  | [] => some []
  | x :: r => match view ρ x, views ρ r with
    | some a, some as => some (a :: as)
    | _, _ => none
def op2 (h : D → D → Option Vl) (x y : Vl) (ρ : Rho) : R Vl := match view ρ x, view ρ y with
  | some a, some b => okV (h a b) ρ
  | _, _ => .no
def op1 (h : D → Option Vl) (x : Vl) (ρ : Rho) : R Vl := match view ρ x with
  | some a => okV (h a) ρ
  | none => .no
def opN (h : List D → Option Vl) (xs : List Vl) (ρ : Rho) : R Vl := match views ρ xs with
  | some as => okV (h as) ρ
  | none => .no
def eOp (h : D → D → Option Vl) (f g : Rho → R Vl) : Rho → R Vl := bnd f fun x => bnd g fun y => op2 h x y
def eUn (h : D → Option Vl) (f : Rho → R Vl) : Rho → R Vl := bnd f fun x => op1 h x
def aNil : Rho → R (List Vl) := fun ρ => .ok [] ρ
def aCons (f : Rho → R Vl) (g : Rho → R (List Vl)) : Rho → R (List Vl) := bnd f fun x => bnd g fun xs ρ => .ok (x :: xs) ρ
def dats : List Vl → Option (List D)
  | [] => some []
  | .d x :: r => match dats r with
    | some xs => some (x :: xs)
    | none => none
  | _ :: _ => none
def onD (xs : List Vl) (k : List D → Rho → R Vl) (ρ : Rho) : R Vl := match dats xs with
  | some ds => k ds ρ
  | none => .no
/-- (e, ..), [e, ..] -/
def eTup (g : Rho → R (List Vl)) : Rho → R Vl := bnd g fun xs => onD xs fun ds ρ => if ds.length ≤ 1000 then .ok (.d (.tup ds)) ρ else .no
def eLst (g : Rho → R (List Vl)) : Rho → R Vl := bnd g fun xs => onD xs fun ds ρ => if ds.length ≤ 1000 then .ok (.f (.lst ds)) ρ else .no
/-- a built-in's call -/
def eCB (h : List D → Option Vl) (g : Rho → R (List Vl)) : Rho → R Vl := bnd g fun xs => opN h xs
/-- tests -/
def asB : Vl → Rho → R Bool
  | .d (.bl b), ρ => .ok b ρ
  | _, _ => .no
def tV (f : Rho → R Vl) : Rho → R Bool := bnd f asB
def tAn (f g : Rho → R Bool) : Rho → R Bool := bnd f fun b ρ => if b then g ρ else .ok false ρ
def tOr' (f g : Rho → R Bool) : Rho → R Bool := bnd f fun b ρ => if b then .ok true ρ else g ρ
def tNo (f : Rho → R Bool) : Rho → R Bool := bnd f fun b ρ => .ok (!b) ρ
def eIf (c : Rho → R Bool) (f g : Rho → R Vl) : Rho → R Vl := bnd c fun b ρ => if b then f ρ else g ρ
def eAn (f g : Rho → R Vl) : Rho → R Vl := bnd f fun x ρ => match x with
  | .d (.bl true) => g ρ
  | .d (.bl false) => .ok x ρ
  | _ => .no
def eOr (f g : Rho → R Vl) : Rho → R Vl := bnd f fun x ρ => match x with
  | .d (.bl false) => g ρ
  | .d (.bl true) => .ok x ρ
  | _ => .no

section
variable {X : Cx} {W : WX} {e a b c : Expr} {es : List Expr} {f g f' : Rho → R Vl} {pos : Pos}
abbrev DE (X : Cx) (W : WX) (e : Expr) (f : Rho → R Vl) : Prop := PE X e (tE X.K (mgX X) W f)
abbrev DT (X : Cx) (W : WX) (e : Expr) (f : Rho → R Bool) : Prop := PT X e (tT X.K (mgX X) W f)
abbrev DW (X : Cx) (W : WX) (e : Expr) (f : Rho → R Bool) : Prop := PW X e (tT X.K (mgX X) W f)
abbrev DA (X : Cx) (W : WX) (es : List Expr) (f : Rho → R (List Vl)) : Prop := PA X es (tA X.K (mgX X) W f)

end
end L3

set_option Elab.async false
set_option linter.all false
set_option maxRecDepth 100000
set_option maxHeartbeats 4000000
namespace L3
open PySem PySem.Spec PyProof.Rows L2
section
variable {K : PySem.W.Frag} {mg : Mg} {F H F1 H1 F2 H2 H0 : Hp} {σ σ1 σ2 : L2.St} {ρ ρ1 ρ2 : Rho}
/-- what an operation leaves: a datum, a new object -/
def RepX (K : PySem.W.Frag) (mg : Mg) (H F' H' : Hp) : Vl → V → Prop
  | .d c, v => Rep K mg F' c v
  | .f m, v => ∃ p, v = .ref p ∧ H p = none ∧ F' p = none ∧ RepM K mg F' H' m p
  | .s _, _ => False
theorem RepX.toV (r : RS K mg F H σ ρ) {x : Vl} {v : V} (h : RepX K mg H F1 H1 x v) : RepV K mg H F1 H1 σ ρ x v := by
  cases x with
  | d c => exact h
  | f m =>
    obtain ⟨p, a, b, c, d⟩ := h
    refine ⟨p, a, b, c, d, fun z => ?_⟩
    obtain ⟨_, m', q⟩ := z.some r
    obtain ⟨vs, t⟩ := q.there
    rw [b] at t
    cases t
  | s i => exact h.elim
/-- a value to be looked at: a list as it stands in H -/
def RepW (K : PySem.W.Frag) (mg : Mg) (F H : Hp) : D → V → Prop
  | .lst xs, v => ∃ p vs, v = .ref p ∧ H p = some (.lst vs) ∧ Reps K mg F xs vs
  | x, v => Rep K mg F x v
def RepWs (K : PySem.W.Frag) (mg : Mg) (F H : Hp) : List D → List V → Prop
  | [], vs => vs = []
  | x :: xs, vs => ∃ v r, vs = v :: r ∧ RepW K mg F H x v ∧ RepWs K mg F H xs r
theorem Rep.toW (s : Sub F H) {x : D} {v : V} (h : Rep K mg F x v) : RepW K mg F H x v := by
  cases x with
  | lst xs =>
    obtain ⟨a, vs, e, q, r⟩ := h
    exact ⟨a, vs, e, s _ _ q, r⟩
  | _ => exact h
theorem view_rep (rs : RS K mg F H σ ρ) {x : Vl} {v : V} {a : D} (h : RepV K mg H0 F H σ ρ x v) (e : view ρ x = some a) : RepW K mg F H a v := by
  cases x with
  | d x =>
    cases e
    exact Rep.toW rs.sub h
  | f m =>
    cases m with
    | lst xs =>
      cases e
      obtain ⟨p, e1, _, _, ⟨vs, e2, e3⟩, _⟩ := h
      exact ⟨p, vs, e1, e2, e3⟩
  | s i =>
    have h : σ[i]? = some (some v) := h
    dsimp only [view] at e
    split at e
    · rename_i q xs hq
      cases e
      obtain ⟨p, e1, _, vs, e2, e3⟩ := rs.own hq
      rw [h] at e1
      cases e1
      exact ⟨p, vs, rfl, e2, e3⟩
    · rename_i x hq
      cases e
      obtain ⟨v', e1, e2⟩ := rs.dat hq
      rw [h] at e1
      cases e1
      exact Rep.toW rs.sub e2
    · cases e
theorem views_rep (rs : RS K mg F H σ ρ) : ∀ {xs : List Vl} {vs : List V} {as : List D}, RepVs K mg H0 F H σ ρ xs vs → views ρ xs = some as → RepWs K mg F H as vs
  | [], _, _, h, e => by
    cases e
    exact h
  | x :: xs, _, as, ⟨v, r, e1, e2, e3⟩, e => by
    unfold views at e
    split at e
    · rename_i a bs h1 h2
      cases e
      exact ⟨v, r, e1, view_rep rs e2 h1, views_rep rs e3 h2⟩
    · cases e
/-- an operation by values does what h says of data -/
def So2 (K : PySem.W.Frag) (mg : Mg) (r : R2) (h : D → D → Option Vl) : Prop := ∀ (a b : D) (c : Vl) (x y : V) (F H : Hp) (Q : VK), h a b = some c → Sub F H → RepW K mg F H a x → RepW K mg F H b y → (∀ v F' H', Ext F H F' H' → RepX K mg H F' H' c v → Q v H') → r x y H Q
def So1 (K : PySem.W.Frag) (mg : Mg) (r : V → Hp → VK → Prop) (h : D → Option Vl) : Prop := ∀ (a : D) (c : Vl) (x : V) (F H : Hp) (Q : VK), h a = some c → Sub F H → RepW K mg F H a x → (∀ v F' H', Ext F H F' H' → RepX K mg H F' H' c v → Q v H') → r x H Q
def SoN (K : PySem.W.Frag) (mg : Mg) (r : List V → Hp → VK → Prop) (h : List D → Option Vl) : Prop := ∀ (as : List D) (c : Vl) (xs : List V) (F H : Hp) (Q : VK), h as = some c → Sub F H → RepWs K mg F H as xs → (∀ v F' H', Ext F H F' H' → RepX K mg H F' H' c v → Q v H') → r xs H Q
theorem okV_some {o : Option Vl} {P : R Vl → Prop} (h : P (okV o ρ)) (hn : ¬ P .no) : ∃ c, o = some c ∧ P (.ok c ρ) := by
  cases o with
  | none => exact absurd h hn
  | some c => exact ⟨c, rfl, h⟩
theorem RepX.base (l : ∀ b, H1 b = none → H b = none) {x : Vl} {v : V} (h : RepX K mg H1 F2 H2 x v) : RepX K mg H F2 H2 x v := by
  cases x with
  | d c => exact h
  | f m =>
    obtain ⟨p, a, b, c, d⟩ := h
    exact ⟨p, a, l p b, c, d⟩
  | s i => exact h
/-- the wish, behind an operation -/
theorem Post.opn {W : WX} {o : Option Vl} {Q : VK} (rs : RS K mg F H σ ρ) (l : ∀ b, H b = none → H0 b = none) (h : Post K mg (relV K mg σ) W H0 F H σ ρ (okV o ρ) Q) : ∃ c, o = some c ∧ ∀ v F' H', Ext F H F' H' → RepX K mg H F' H' c v → Q v H' := by
  cases o with
  | none => exact h.elim
  | some c => exact ⟨c, rfl, fun v F' H' e r => h v F' H' (e.go rs) ((r.toV rs).base l)⟩
theorem dats_reps : ∀ {xs : List Vl} {vs : List V} {ds : List D}, dats xs = some ds → RepVs K mg H0 F H σ ρ xs vs → Reps K mg F ds vs
  | [], _, _, h, r => by
    cases h
    exact r
  | .d x :: xs, _, ds, h, ⟨v, r, e, a, t⟩ => by
    unfold dats at h
    cases q : dats xs with
    | none =>
      rw [q] at h
      cases h
    | some ys =>
      rw [q] at h
      cases h
      exact ⟨v, r, e, a, dats_reps q t⟩
  | .f _ :: _, _, _, h, _ => by cases h
  | .s _ :: _, _, _, h, _ => by cases h
theorem Post.op2 {W : WX} {h : D → D → Option Vl} {x y : Vl} {vx vy : V} {Q : VK} {r : R2} (hs : So2 K mg r h) (rs : RS K mg F H σ ρ) (l : ∀ b, H b = none → H0 b = none) (hx : RepV K mg H1 F H σ ρ x vx) (hy : RepV K mg H2 F H σ ρ y vy)
    (p : Post K mg (relV K mg σ) W H0 F H σ ρ (op2 h x y ρ) Q) : r vx vy H Q := by
  unfold L3.op2 at p
  split at p
  · rename_i a b e1 e2
    obtain ⟨c, e, k⟩ := Post.opn rs l p
    exact hs a b c vx vy F H Q e rs.sub (view_rep rs hx e1) (view_rep rs hy e2) k
  · exact p.elim
theorem Post.op1 {W : WX} {h : D → Option Vl} {x : Vl} {vx : V} {Q : VK} {r : V → Hp → VK → Prop} (hs : So1 K mg r h) (rs : RS K mg F H σ ρ) (l : ∀ b, H b = none → H0 b = none) (hx : RepV K mg H1 F H σ ρ x vx)
    (p : Post K mg (relV K mg σ) W H0 F H σ ρ (op1 h x ρ) Q) : r vx H Q := by
  unfold L3.op1 at p
  split at p
  · rename_i a e1
    obtain ⟨c, e, k⟩ := Post.opn rs l p
    exact hs a c vx F H Q e rs.sub (view_rep rs hx e1) k
  · exact p.elim
theorem Post.opN {W : WX} {h : List D → Option Vl} {x : List Vl} {vx : List V} {Q : VK} {r : List V → Hp → VK → Prop} (hs : SoN K mg r h) (rs : RS K mg F H σ ρ) (l : ∀ b, H b = none → H0 b = none) (hx : RepVs K mg H1 F H σ ρ x vx)
    (p : Post K mg (relV K mg σ) W H0 F H σ ρ (opN h x ρ) Q) : r vx H Q := by
  unfold L3.opN at p
  split at p
  · rename_i a e1
    obtain ⟨c, e, k⟩ := Post.opn rs l p
    exact hs a c vx F H Q e rs.sub (views_rep rs hx e1) k
  · exact p.elim
end

section
variable {X : Cx} {W : WX} {e a b c : Expr} {es : List Expr} {f g f' : Rho → R Vl} {s t : Rho → R Bool} {l : Rho → R (List Vl)} {pos : Pos}
/-- a constant -/
theorem de_const {x : D} {v : V} (h : PE X e (tC v)) (r : ∀ F, Rep X.K (mgX X) F x v) : DE X W e (eC x) := PE.weak h fun σ H Q ⟨F, ρ, rs, p⟩ => p v F H (Go.refl rs) (r F)
theorem de_int {i : Int} {j pos} : DE X W (.Constant (.int i) j pos) (eC (.int i)) := de_const pe_int fun _ => rfl
theorem de_bl {b : Bool} {j pos} : DE X W (.Constant (.bool b) j pos) (eC (.bl b)) := de_const pe_bl fun _ => rfl
theorem de_non {j pos} : DE X W (.Constant .none j pos) (eC .non) := de_const pe_non fun _ => rfl
theorem de_str {x : Str} {j pos} : DE X W (.Constant (.str x) j pos) (eC (.str x)) := de_const pe_str fun _ => rfl
theorem de_var {i : Nat} (h : PE X e (tVar i)) : DE X W e (eVar i) := PE.weak h fun σ H Q ⟨F, ρ, rs, p⟩ => by
  unfold eVar at p
  cases q : ρ[i]? with
  | none =>
    rw [q] at p
    exact p.elim
  | some sl =>
    rw [q] at p
    cases sl with
    | un => exact p.elim
    | d x =>
      obtain ⟨v, e1, e2⟩ := rs.dat q
      exact ⟨v, e1, p v F H (Go.refl rs) e2⟩
    | o qq m =>
      obtain ⟨p1, e1, _, _⟩ := rs.own q
      exact ⟨_, e1, p _ F H (Go.refl rs) e1⟩
    | ex fs => exact p.elim
theorem Go.frzF {K : PySem.W.Frag} {mg : Mg} {F H F1 H1 : Hp} {σ σ1 : L2.St} {ρ ρ1 : Rho} {p : Addr} {o : HO} (g : Go K mg F H σ ρ F1 H1 σ1 ρ1) (n : H p = none) (n1 : F1 p = none) (h1 : H1 p = some o) (no : ¬ Own σ1 ρ1 p) (nx : ∀ fs, o ≠ .xd fs) :
    Go K mg F H σ ρ (upd F1 p o) H1 σ1 ρ1 := by
  have sub : Sub F1 (upd F1 p o) := fun a u h => by
    rw [upd_ne (ne_of_none h n1)]
    exact h
  exact {
    rs := {
      len := g.rs.len
      sub := fun a u h => by
        by_cases e : a = p
        · subst e
          rw [upd_same] at h
          rw [h1]
          exact h
        · rw [upd_ne e] at h
          exact g.rs.sub a u h
      dat := fun h => by
        obtain ⟨v, a, b⟩ := g.rs.dat h
        exact ⟨v, a, b.mono sub⟩
      own := fun {i q m} h => by
        obtain ⟨c, a, b, r⟩ := g.rs.own h
        have ne : c ≠ p := fun z => no ⟨i, q, m, h, by rw [← z]; exact a⟩
        exact ⟨c, a, by rw [upd_ne ne]; exact b, r.mono sub rfl⟩
      apart := g.rs.apart
      exs := fun {i fs} h => by
        obtain ⟨a0, d, vfs, hc, a, b, c, r⟩ := g.rs.exs h
        have ne : d ≠ p := fun z => by
          rw [z, h1] at c
          exact nx vfs (Option.some.inj c)
        exact ⟨a0, d, vfs, hc, a, by rw [upd_ne ne]; exact b, c, r.mono sub⟩ }
    fro := g.fro.trans sub
    keep := g.keep
    live := g.live
    new := fun {b u} h => by
      by_cases e : b = p
      · exact .inr (.inl (e ▸ n))
      · rw [upd_ne e] at h
        exact g.new h
    own := g.own
    par := g.par }
theorem getElem?_set_cases {α : Type} {l : List α} {i j : Nat} {x y : α} (h : (l.set i x)[j]? = some y) : (j = i ∧ y = x ∧ i < l.length) ∨ (j ≠ i ∧ l[j]? = some y) := by
  by_cases e : j = i
  · subst e
    by_cases hl : j < l.length
    · rw [List.getElem?_set_self hl] at h
      exact .inl ⟨rfl, (Option.some.inj h).symm, hl⟩
    · rw [List.getElem?_eq_none (by rw [List.length_set]; omega)] at h
      cases h
  · rw [List.getElem?_set_ne (Ne.symm e)] at h
    exact .inr ⟨e, h⟩
/-- a slot's object is frozen -/
theorem Go.frzS {K : PySem.W.Frag} {mg : Mg} {F H : Hp} {σ : L2.St} {ρ : Rho} {i : Nat} {xs : List D} {p : Addr} {vs : List V} (rs : RS K mg F H σ ρ) (hi : ρ[i]? = some (.o false (.lst xs))) (hp : σ[i]? = some (some (.ref p))) (n : F p = none) (h : H p = some (.lst vs)) (r : Reps K mg F xs vs) :
    Go K mg F H σ ρ (upd F p (.lst vs)) H σ (ρ.set i (.d (.lst xs))) := by
  have sub : Sub F (upd F p (.lst vs)) := fun a u e => by
    rw [upd_ne (ne_of_none e n)]
    exact e
  have hl : i < ρ.length := (List.getElem?_eq_some_iff.mp hi).1
  exact {
    rs := {
      len := by rw [List.length_set]; exact rs.len
      sub := fun a u e => by
        by_cases z : a = p
        · subst z
          rw [upd_same] at e
          rw [h]
          exact e
        · rw [upd_ne z] at e
          exact rs.sub a u e
      dat := fun {j x} e => by
        rcases getElem?_set_cases e with ⟨rfl, e2, _⟩ | ⟨_, e2⟩
        · cases e2
          exact ⟨_, hp, p, vs, rfl, upd_same, r.mono sub⟩
        · obtain ⟨v, a, b⟩ := rs.dat e2
          exact ⟨v, a, b.mono sub⟩
      own := fun {j q m} e => by
        rcases getElem?_set_cases e with ⟨_, e2, _⟩ | ⟨ne, e2⟩
        · cases e2
        · obtain ⟨c, a, b, r⟩ := rs.own e2
          have nc : c ≠ p := fun z => ne (rs.apart e2 hi (z ▸ a) hp)
          exact ⟨c, a, by rw [upd_ne nc]; exact b, r.mono sub rfl⟩
      apart := fun e1 e2 a b => by
        rcases getElem?_set_cases e1 with ⟨_, z, _⟩ | ⟨_, e1⟩
        · cases z
        · rcases getElem?_set_cases e2 with ⟨_, z, _⟩ | ⟨_, e2⟩
          · cases z
          · exact rs.apart e1 e2 a b
      exs := fun {j fs} e => by
        rcases getElem?_set_cases e with ⟨_, z, _⟩ | ⟨_, e⟩
        · cases z
        · obtain ⟨a0, d, vfs, hc, a, b, c, r⟩ := rs.exs e
          have nd : d ≠ p := fun z => by
            rw [z, h] at c
            cases c
          exact ⟨a0, d, vfs, hc, a, by rw [upd_ne nd]; exact b, c, r.mono sub⟩ }
    fro := sub
    keep := fun e _ => e
    live := fun e => e
    new := fun {b u} e => by
      by_cases z : b = p
      · exact .inr (.inr ⟨i, _, _, hi, z ▸ hp⟩)
      · rw [upd_ne z] at e
        exact .inl e
    own := fun {b} ⟨j, q, m, e1, e2⟩ => by
      rcases getElem?_set_cases e1 with ⟨_, z, _⟩ | ⟨_, e1⟩
      · cases z
      · exact .inl ⟨j, q, m, e1, e2⟩
    par := fun {j m} e => by
      refine ⟨rfl, m, ?_⟩
      have ne : i ≠ j := fun z => by
        rw [z, e] at hi
        cases hi
      rw [List.getElem?_set_ne ne]
      exact e }
theorem lst_xd {vs : List V} (fs : List (Str × V)) : HO.lst vs ≠ .xd fs := fun z => by cases z
theorem de_fz (h : DE X W e f) : DE X W e (eFz f) := PE.weak h fun σ H Q ⟨F, ρ, rs, p⟩ => by
  refine ⟨F, ρ, rs, ?_⟩
  have p : Post X.K (mgX X) (relV X.K (mgX X) σ) W H F H σ ρ (bnd f fz ρ) Q := p
  unfold bnd at p
  cases q : f ρ with
  | ex c fs ρ1 =>
    rw [q] at p
    exact p
  | no =>
    rw [q] at p
    exact p
  | ok x ρ1 =>
    rw [q] at p
    intro v F1 H1 go r
    cases x with
    | d x => exact p v F1 H1 go r
    | f m =>
      cases m with
      | lst xs =>
        obtain ⟨a, e1, e2, e3, ⟨vs, e4, e5⟩, e6⟩ := r
        exact p v _ H1 (go.frzF e2 e3 e4 e6 lst_xd) ⟨a, vs, e1, upd_same, e5.mono fun b u z => by rw [upd_ne (ne_of_none z e3)]; exact z⟩
    | s i =>
      have r : σ[i]? = some (some v) := r
      dsimp only [fz] at p
      cases q2 : ρ1[i]? with
      | none =>
        rw [q2] at p
        exact p.elim
      | some sl =>
        rw [q2] at p
        cases sl with
        | un => exact p.elim
        | ex _ => exact p.elim
        | d x =>
          obtain ⟨v', e1, e2⟩ := go.rs.dat q2
          rw [r] at e1
          cases e1
          exact p v F1 H1 go e2
        | o b m =>
          cases b with
          | true => exact p.elim
          | false =>
            cases m with
            | lst xs =>
              obtain ⟨c, e1, e2, vs, e3, e4⟩ := go.rs.own q2
              rw [r] at e1
              cases e1
              exact p _ _ H1 (go.trans (Go.frzS go.rs q2 r e2 e3 e4)) ⟨c, vs, rfl, upd_same, e4.mono fun b u z => by rw [upd_ne (ne_of_none z e2)]; exact z⟩
theorem de_op {op : Operator} {r : R2} {h : D → D → Option Vl} (ho : OpR X (binaryOp op) r) (hs : So2 X.K (mgX X) r h) (ha : DE X W a f) (hb : DE X W b g) : DE X W (.BinOp a op b pos) (eOp h f g) :=
  PE.weak (pe_op ho ha hb) fun σ H Q ⟨F, ρ, rs, p⟩ => ⟨F, ρ, rs, (Post.bind0 p).mono fun x H1 ⟨F1, ρ1, u, g1, r1, p1⟩ => ⟨F1, ρ1, g1.rs, (p1.bind fun b z => g1.live z).mono fun y H2 ⟨F2, ρ2, w, g2, r2, p2⟩ =>
    p2.op2 hs g2.rs (fun b z => g1.live (g2.live z)) (RepV.go g2 r1) r2⟩⟩
/-- a comparison, as a value -/
theorem de_cmp {op : CmpOp} {r : R2} {h : D → D → Option Vl} (ho : OpR X (compareOp op) r) (hs : So2 X.K (mgX X) r h) (hm : behindInMarks op b = false) (ha : DE X W a f) (hb : DE X W b g) : DE X W (.Compare a [op] [b] pos) (eOp h f g) :=
  PE.weak (pe_cmpR ho ha hb hm) fun σ H Q ⟨F, ρ, rs, p⟩ => ⟨F, ρ, rs, (Post.bind0 p).mono fun x H1 ⟨F1, ρ1, u, g1, r1, p1⟩ => ⟨F1, ρ1, g1.rs, (p1.bind fun b z => g1.live z).mono fun y H2 ⟨F2, ρ2, w, g2, r2, p2⟩ =>
    p2.op2 hs g2.rs (fun b z => g1.live (g2.live z)) (RepV.go g2 r1) r2⟩⟩
theorem de_un {op : UnaryOp} {r : V → Hp → VK → Prop} {h : D → Option Vl} (ho : UnR X (unaryOp op) r) (hs : So1 X.K (mgX X) r h) (ha : DE X W a f) : DE X W (.UnaryOp op a pos) (eUn h f) :=
  PE.weak (pe_un ho ha) fun σ H Q ⟨F, ρ, rs, p⟩ => ⟨F, ρ, rs, (Post.bind0 p).mono fun x H1 ⟨F1, ρ1, u, g1, r1, p1⟩ => p1.op1 hs g1.rs (fun b z => g1.live z) r1⟩
/-- arguments -/
theorem da_nil : DA X W [] aNil := PA.weak pa_nil fun σ H Q ⟨F, ρ, rs, p⟩ => p [] F H (Go.refl rs) rfl
theorem da_cons (ha : DE X W e f) (hr : DA X W es l) (he : starEach (e :: es) X.env = (false, eval e X.env) :: starEach es X.env := by rfl) : DA X W (e :: es) (aCons f l) :=
  PA.weak (pa_cons ha hr he) fun σ H Q ⟨F, ρ, rs, p⟩ => ⟨F, ρ, rs, (Post.bind0 p).mono fun x H1 ⟨F1, ρ1, u, g1, r1, p1⟩ => ⟨F1, ρ1, g1.rs, (p1.bind fun b z => g1.live z).mono fun xs H2 ⟨F2, ρ2, w, g2, r2, p2⟩ =>
    p2 (x :: xs) F2 H2 (Go.refl g2.rs) ⟨x, xs, rfl, RepV.go g2 r1, RepVs.base (fun b z => g1.live z) r2⟩⟩⟩
end
end L3

set_option Elab.async false
set_option linter.all false
set_option maxRecDepth 100000
set_option maxHeartbeats 4000000
namespace L3
open PySem PySem.Spec PyProof.Rows L2
abbrev relO (σ : L2.St) : Tell (Option Int) (Option Int) := fun _ _ _ _ a b => a = b
abbrev DO (X : Cx) (W : WX) (e : Option Expr) (f : Rho → R (Option Int)) : Prop := PO X e (tG X.K (mgX X) relO W f)
def sNo : Rho → R (Option Int) := fun ρ => .ok none ρ
def sSo (f : Rho → R Vl) : Rho → R (Option Int) := bnd f fun x ρ => match x with
  | .d (.int i) => .ok (some i) ρ
  | _ => .no
def cutD {α : Type} (xs : List α) (lo hi : Option Int) : List α := (xs.drop (HT.sIx xs.length 0 lo)).take (HT.sIx xs.length xs.length hi - HT.sIx xs.length 0 lo)
def slD (x : D) (lo hi : Option Int) : Option Vl := match x with
  | .lst xs => some (.f (.lst (cutD xs lo hi)))
  | .tup xs => some (.d (.tup (cutD xs lo hi)))
  | .str z => if z.length ≤ sizeLine then some (.d (.str (L2.cutS z lo hi))) else none
  | _ => none
def eSl (f : Rho → R Vl) (lo hi : Rho → R (Option Int)) : Rho → R Vl := bnd f fun x => bnd lo fun l => bnd hi fun h ρ => match view ρ x with
  | some a => okV (slD a l h) ρ
  | none => .no
def ixD : D → D → Option Vl
  | .lst xs, .int i => (L2.atI xs i).map .d
  | .tup xs, .int i => (L2.atI xs i).map .d
  | .str z, .int i => if z.length ≤ sizeLine then (L2.atI z.cps.toList i).map fun c => .d (.str ⟨#[c]⟩) else none
  | _, _ => none

section
variable {X : Cx} {W : WX} {e a b c : Expr} {es : List Expr} {f g f' : Rho → R Vl} {s t : Rho → R Bool} {l : Rho → R (List Vl)} {pos : Pos} {lo hi : Option Expr} {fl fh : Rho → R (Option Int)}
theorem atI_reps {K : PySem.W.Frag} {mg : Mg} {F : Hp} {xs : List D} {vs : List V} {i : Int} {x : D} (r : Reps K mg F xs vs) (h : L2.atI xs i = some x) : ∃ v, L2.atI vs i = some v ∧ Rep K mg F x v := by
  unfold L2.atI at h ⊢
  rw [r.length]
  cases e : L2.ixN xs.length i with
  | none =>
    rw [e] at h
    cases h
  | some j =>
    rw [e] at h
    exact r.get h
theorem cut_reps {K : PySem.W.Frag} {mg : Mg} {F : Hp} {xs : List D} {vs : List V} (r : Reps K mg F xs vs) (lo hi : Option Int) : Reps K mg F (cutD xs lo hi) (L2.cutV vs lo hi) := by
  unfold cutD L2.cutV
  rw [r.length]
  exact (r.drop _).take _
theorem so_ix : So2 X.K (mgX X) (rIx X.K) ixD := by
  intro a b c x y F H Q h s rx ry k
  cases a with
  | lst xs =>
    cases b with
    | int i =>
      obtain ⟨p, vs, e, q, r⟩ := rx
      obtain ⟨d, hd, rfl⟩ := Option.map_eq_some_iff.mp h
      obtain ⟨v, hv, rv⟩ := atI_reps r hd
      exact .inl ⟨p, vs, i, v, e, ry, .inl (.inl q), hv, k v F H (Ext.refl s) rv⟩
    | _ => cases h
  | tup xs =>
    cases b with
    | int i =>
      obtain ⟨p, vs, e, q, r⟩ := rx
      obtain ⟨d, hd, rfl⟩ := Option.map_eq_some_iff.mp h
      obtain ⟨v, hv, rv⟩ := atI_reps r hd
      exact .inr (.inl ⟨p, vs, i, v, e, ry, sub_t s q, hv, k v F H (Ext.refl s) rv⟩)
    | _ => cases h
  | str z =>
    cases b with
    | int i =>
      unfold ixD at h
      dsimp only at h
      split at h
      · rename_i hz
        obtain ⟨d, hd, rfl⟩ := Option.map_eq_some_iff.mp h
        exact .inr (.inr ⟨z, i, d, rx, ry, hz, hd, k _ F H (Ext.refl s) rfl⟩)
      · cases h
    | _ => cases h
  | _ => cases h
theorem de_ix (ha : DE X W a f) (hb : DE X W b g) (hs : PlainIx b := by exact fun _ _ => rfl) : DE X W (.Subscript a b pos) (eOp ixD f g) :=
  PE.weak (pe_ix ix_seq ha hb hs) fun σ H Q ⟨F, ρ, rs, p⟩ => ⟨F, ρ, rs, (Post.bind0 p).mono fun x H1 ⟨F1, ρ1, u, g1, r1, p1⟩ => ⟨F1, ρ1, g1.rs, (p1.bind fun b z => g1.live z).mono fun y H2 ⟨F2, ρ2, w, g2, r2, p2⟩ =>
    p2.op2 so_ix g2.rs (fun b z => g1.live (g2.live z)) (RepV.go g2 r1) r2⟩⟩
theorem do_none : DO X W none sNo := ⟨fun pins s σ H Q I ⟨F, ρ, rs, p⟩ => (po_none (X := X)).run pins s σ H Q I (p none F H (Go.refl rs) rfl)⟩
theorem do_some (h : DE X W e f) : DO X W (some e) (sSo f) := ⟨fun pins s σ H Q I ⟨F, ρ, rs, p⟩ => (po_some h).run pins s σ H Q I (by
  refine ⟨F, ρ, rs, (Post.bind0 p).mono fun x H1 ⟨F1, ρ1, u, g1, r1, p1⟩ => ?_⟩
  split at p1
  · exact ⟨_, r1, p1 _ F1 H1 (Go.refl g1.rs) rfl⟩
  · exact p1.elim)⟩
def rSl3 (K : PySem.W.Frag) : V → Option Int → Option Int → Hp → VK → Prop := fun x l u H Q => rSlL K x l u H Q ∨ rSlA K x l u H Q ∨ rSlS x l u H Q
theorem so_sl {K : PySem.W.Frag} {mg : Mg} {a : D} {c : Vl} {x : V} {F H : Hp} {Q : VK} {l u : Option Int} (h : slD a l u = some c) (s : Sub F H) (rx : RepW K mg F H a x) (k : ∀ v F' H', Ext F H F' H' → RepX K mg H F' H' c v → Q v H') : rSl3 K x l u H Q := by
  cases a with
  | lst xs =>
    cases h
    obtain ⟨p, vs, e, q, r⟩ := rx
    refine .inl ⟨p, vs, e, .inl (.inl q), fun n hn => k _ F _ (Ext.lay s hn) ⟨n, rfl, hn, s.none hn, _, upd_same, cut_reps r l u⟩⟩
  | tup xs =>
    cases h
    obtain ⟨p, vs, e, q, r⟩ := rx
    refine .inr (.inl ⟨p, vs, e, sub_t s q, fun hz => ?_, fun _ n hn => ?_⟩)
    · refine k _ F H (Ext.refl s) ⟨p, vs, rfl, q, ?_⟩
      have e1 : cutD xs l u = xs := by
        unfold cutD
        rw [← r.length, hz.1, hz.2, List.drop_zero, Nat.sub_zero, r.length, List.take_length]
      rw [e1]
      exact r
    · exact k _ _ _ (Ext.add s hn) ⟨n, _, rfl, .inl (.inl upd_same), (cut_reps r l u).mono fun b o z => by rw [upd_ne (ne_of_none z (s.none hn))]; exact z⟩
  | str z =>
    unfold slD at h
    dsimp only at h
    split at h
    · rename_i hz
      cases h
      exact .inr (.inr ⟨z, rx, hz, k _ F H (Ext.refl s) rfl⟩)
    · cases h
  | _ => cases h
theorem de_sl {p2 : Pos} (ha : DE X W a f) (hl : DO X W lo fl) (hh : DO X W hi fh) : DE X W (.Subscript a (.Slice lo hi none p2) pos) (eSl f fl fh) :=
  PE.weak (pe_slice (SlR.or sl_list (SlR.or sl_tupA sl_str)) ha hl hh) fun σ H Q ⟨F, ρ, rs, p⟩ => ⟨F, ρ, rs, (Post.bind0 p).mono fun x H1 ⟨F1, ρ1, u, g1, r1, p1⟩ => ⟨F1, ρ1, g1.rs, (p1.bind fun b z => g1.live z).mono fun y H2 ⟨F2, ρ2, w, g2, r2, p2⟩ =>
    ⟨F2, ρ2, g2.rs, (p2.bind fun b z => g1.live (g2.live z)).mono fun z H3 ⟨F3, ρ3, w3, g3, r3, p3⟩ => by
      cases (show w = y from r2)
      cases (show w3 = z from r3)
      split at p3
      · rename_i a e1
        obtain ⟨c, e, k⟩ := Post.opn g3.rs (fun b z => g1.live (g2.live (g3.live z))) p3
        exact so_sl e g3.rs.sub (view_rep g3.rs (RepV.go g3 (RepV.go g2 r1)) e1) k
      · exact p3.elim⟩⟩⟩
theorem le_line {n : Nat} (h : n ≤ 1000) : n ≤ sizeLine := Nat.le_trans h (by decide)
theorem de_tup {x1} (h : DA X W es l) : DE X W (.Tuple es x1 pos) (eTup l) :=
  PE.weak (pe_tup h) fun σ H Q ⟨F, ρ, rs, p⟩ => ⟨F, ρ, rs, (Post.bind0 p).mono fun vs H1 ⟨F1, ρ1, u, g1, r1, p1⟩ => by
    unfold onD at p1
    split at p1
    · rename_i ds e
      dsimp only at p1
      split at p1
      · rename_i hz
        have r := dats_reps e r1
        refine ⟨le_line (by rw [r.length]; exact hz), fun n hn => p1 _ _ _ ((Ext.add g1.rs.sub hn).go g1.rs) ⟨n, vs, rfl, .inl (.inl upd_same), r.mono fun b o z => ?_⟩⟩
        rw [upd_ne (ne_of_none z (g1.rs.sub.none hn))]
        exact z
      · exact p1.elim
    · exact p1.elim⟩
theorem de_lst (h : DA X W es l) : DE X W (.List es pos) (eLst l) :=
  PE.weak (pe_lst h) fun σ H Q ⟨F, ρ, rs, p⟩ => ⟨F, ρ, rs, (Post.bind0 p).mono fun vs H1 ⟨F1, ρ1, u, g1, r1, p1⟩ => by
    unfold onD at p1
    split at p1
    · rename_i ds e
      dsimp only at p1
      split at p1
      · rename_i hz
        have r := dats_reps e r1
        exact ⟨le_line (by rw [r.length]; exact hz), fun n hn => p1 _ _ _ ((Ext.lay g1.rs.sub hn).go g1.rs) (RepV.base (fun b z => g1.live z) (RepX.toV g1.rs (x := .f (.lst ds)) ⟨n, rfl, hn, g1.rs.sub.none hn, vs, upd_same, r⟩))⟩
      · exact p1.elim
    · exact p1.elim⟩
theorem de_cb {id : String} {x : Str} {p : Pos} {r : List V → Hp → VK → Prop} {h : List D → Option Vl} (hc : CallR X (.builtin id) r) (hs : SoN X.K (mgX X) r h) (hg : Gl X x) (hm : X.mg x = none) (hv : bootBuiltins x = some (.builtin id)) (ha : DA X W (e :: es) l)
    (hn : x ≠ "__name__" := by decide) (hdb : (x == ("__debug__" : Str)) = false := by decide) (he : starEach (e :: es) X.env = (false, eval e X.env) :: starEach es X.env := by rfl) (hpl : (backTo pos (starEach es X.env)).any (·.1) = false := by rfl) : DE X W (.Call (.Name x p) (e :: es) [] pos) (eCB h l) :=
  PE.weak (pe_callB hc hg hm hv ha hn hdb he hpl) fun σ H Q ⟨F, ρ, rs, p⟩ => ⟨F, ρ, rs, (Post.bind0 p).mono fun vs H1 ⟨F1, ρ1, u, g1, r1, p1⟩ => p1.opN hs g1.rs (fun b z => g1.live z) r1⟩
theorem de_ct {T : String} {x : Str} {p : Pos} {r : List V → Hp → VK → Prop} {h : List D → Option Vl} (hc : CallR X (.type T) r) (hs : SoN X.K (mgX X) r h) (hg : Gl X x) (hm : X.mg x = none) (hv : bootBuiltins x = some (.type T)) (ha : DA X W (e :: es) l)
    (hn : x ≠ "__name__" := by decide) (hdb : (x == ("__debug__" : Str)) = false := by decide) (he : starEach (e :: es) X.env = (false, eval e X.env) :: starEach es X.env := by rfl) (hpl : (backTo pos (starEach es X.env)).any (·.1) = false := by rfl) : DE X W (.Call (.Name x p) (e :: es) [] pos) (eCB h l) :=
  PE.weak (pe_callTy hc hg hm hv ha hn hdb he hpl) fun σ H Q ⟨F, ρ, rs, p⟩ => ⟨F, ρ, rs, (Post.bind0 p).mono fun vs H1 ⟨F1, ρ1, u, g1, r1, p1⟩ => p1.opN hs g1.rs (fun b z => g1.live z) r1⟩
/-! tests -/
theorem asB_wish {K : PySem.W.Frag} {mg : Mg} {H0 Hb F H : Hp} {σ : L2.St} {ρ : Rho} {u : Vl} {x : V} {Q : Bool → Hp → Prop} (rs : RS K mg F H σ ρ) (r : RepV K mg Hb F H σ ρ u x) (p : Post K mg (relB σ) W H0 F H σ ρ (asB u ρ) Q) : ∃ k, x = .bl k ∧ Q k H := by
  unfold asB at p
  split at p
  · exact ⟨_, r, p _ F H (Go.refl rs) rfl⟩
  · exact p.elim
theorem dt_val (h : DE X W e f) (he : ∀ whole, isTrue e X.env whole = (do let v ← whole; standAt e.pos; holding [v] (truthy v)) := by intro _; rfl) : DT X W e (tV f) :=
  PT.weak (pt_val h he) fun σ H Q ⟨F, ρ, rs, p⟩ => ⟨F, ρ, rs, (Post.bind0 p).mono fun x H1 ⟨F1, ρ1, u, g1, r1, p1⟩ => asB_wish g1.rs r1 p1⟩
theorem bnd_assoc {α β γ : Type} (f : Rho → R α) (g : α → Rho → R β) (h : β → Rho → R γ) : bnd (bnd f g) h = bnd f fun a => bnd (g a) h := by
  funext ρ
  unfold bnd
  cases f ρ <;> rfl
theorem dt_cmp {op : CmpOp} {r : R2} {h : D → D → Option Vl} (ho : OpR X (compareOp op) r) (hs : So2 X.K (mgX X) r h) (hm : behindInMarks op b = false) (ha : DE X W a f) (hb : DE X W b g) : DT X W (.Compare a [op] [b] pos) (tV (eOp h f g)) :=
  PT.weak (pt_cmpR ho ha hb hm) fun σ H Q ⟨F, ρ, rs, p⟩ => by
    unfold tV eOp at p
    rw [bnd_assoc] at p
    refine ⟨F, ρ, rs, (Post.bind0 p).mono fun x H1 ⟨F1, ρ1, u, g1, r1, p1⟩ => ?_⟩
    rw [bnd_assoc] at p1
    refine ⟨F1, ρ1, g1.rs, (p1.bind fun b z => g1.live z).mono fun y H2 ⟨F2, ρ2, w, g2, r2, p2⟩ => ?_⟩
    exact Post.op2 hs g2.rs (fun b z => g1.live (g2.live z)) (RepV.go g2 r1) r2 ((Post.bind0 p2).mono fun z H3 ⟨F3, ρ3, w3, g3, r3, p3⟩ => asB_wish g3.rs r3 p3)
theorem dt_not (h : DT X W a s) : DT X W (.UnaryOp .Not a pos) (tNo s) :=
  PT.weak (pt_not h) fun σ H Q ⟨F, ρ, rs, p⟩ => ⟨F, ρ, rs, (Post.bind0 p).mono fun x H1 ⟨F1, ρ1, u, g1, r1, p1⟩ => by
    cases (show u = x from r1)
    exact p1 _ F1 H1 (Go.refl g1.rs) rfl⟩
theorem dw_and1 (h : DT X W a s) : DW X W (.BoolOp .And [a] pos) s := pw_and1 h
theorem dw_or1 (h : DT X W a s) : DW X W (.BoolOp .Or [a] pos) s := pw_or1 h
theorem dw_and {rest : List Expr} (h : DT X W a s) (k : DW X W (.BoolOp .And (b :: rest) pos) t) : DW X W (.BoolOp .And (a :: b :: rest) pos) (tAn s t) :=
  PW.weak (pw_and h k) fun σ H Q ⟨F, ρ, rs, p⟩ => ⟨F, ρ, rs, (Post.bind0 p).mono fun x H1 ⟨F1, ρ1, u, g1, r1, p1⟩ => by
    cases (show u = x from r1)
    cases x with
    | true => exact ⟨F1, ρ1, g1.rs, by
        cases q : t ρ1 with
        | ok a ρ' =>
          rw [if_pos rfl, q] at p1
          exact p1
        | no =>
          rw [if_pos rfl, q] at p1
          exact p1
        | ex c fs ρ' =>
          rw [if_pos rfl, q] at p1
          exact fun d F' H' vfs go n => p1 d F' H' vfs go (g1.live n)⟩
    | false => exact p1 _ F1 H1 (Go.refl g1.rs) rfl⟩
theorem dw_or {rest : List Expr} (h : DT X W a s) (k : DW X W (.BoolOp .Or (b :: rest) pos) t) : DW X W (.BoolOp .Or (a :: b :: rest) pos) (tOr' s t) :=
  PW.weak (pw_or h k) fun σ H Q ⟨F, ρ, rs, p⟩ => ⟨F, ρ, rs, (Post.bind0 p).mono fun x H1 ⟨F1, ρ1, u, g1, r1, p1⟩ => by
    cases (show u = x from r1)
    cases x with
    | false => exact ⟨F1, ρ1, g1.rs, by
        cases q : t ρ1 with
        | ok a ρ' =>
          rw [if_neg Bool.false_ne_true, q] at p1
          exact p1
        | no =>
          rw [if_neg Bool.false_ne_true, q] at p1
          exact p1
        | ex c fs ρ' =>
          rw [if_neg Bool.false_ne_true, q] at p1
          exact fun d F' H' vfs go n => p1 d F' H' vfs go (g1.live n)⟩
    | true => exact p1 _ F1 H1 (Go.refl g1.rs) rfl⟩
theorem dw_pt (h : DW X W a s) : DT X W a s := PW.pt h
/-- the wish anew, from a later base -/
theorem Post.rebase {α β : Type} {K : PySem.W.Frag} {mg : Mg} {rel : Tell α β} {H0 Hb F H : Hp} {σ : L2.St} {ρ : Rho} {r : R α} {Q : β → Hp → Prop} (l : ∀ b, Hb b = none → H0 b = none) (hr : ∀ F' H' ρ' a b, rel Hb F' H' ρ' a b → rel H0 F' H' ρ' a b)
    (p : Post K mg rel W H0 F H σ ρ r Q) : Post K mg rel W Hb F H σ ρ r Q := by
  cases r with
  | ok a ρ' => exact fun v F' H' go q => p v F' H' go (hr _ _ _ _ _ q)
  | no => exact p
  | ex c fs ρ' => exact fun d F' H' vfs go n => p d F' H' vfs go (l d n)
theorem de_if (hc : DT X W c s) (ha : DE X W a f) (hb : DE X W b g) : DE X W (.IfExp c a b pos) (eIf s f g) :=
  PE.weak (pe_ifExp hc ha hb) fun σ H Q ⟨F, ρ, rs, p⟩ => ⟨F, ρ, rs, (Post.bind0 p).mono fun x H1 ⟨F1, ρ1, u, g1, r1, p1⟩ => by
    cases (show u = x from r1)
    cases x with
    | true =>
      rw [if_pos rfl] at p1 ⊢
      exact ⟨F1, ρ1, g1.rs, p1.rebase (fun b z => g1.live z) fun _ _ _ _ _ z => RepV.base (fun b z => g1.live z) z⟩
    | false =>
      rw [if_neg Bool.false_ne_true] at p1 ⊢
      exact ⟨F1, ρ1, g1.rs, p1.rebase (fun b z => g1.live z) fun _ _ _ _ _ z => RepV.base (fun b z => g1.live z) z⟩⟩
theorem de_one {op} (h : DE X W a f) : DE X W (.BoolOp op [a] pos) f := pe_one h
theorem de_and {rest : List Expr} (h : DE X W a f) (k : DE X W (.BoolOp .And (b :: rest) pos) g) : DE X W (.BoolOp .And (a :: b :: rest) pos) (eAn f g) :=
  PE.weak (pe_and h k) fun σ H Q ⟨F, ρ, rs, p⟩ => ⟨F, ρ, rs, (Post.bind0 p).mono fun x H1 ⟨F1, ρ1, u, g1, r1, p1⟩ => by
    split at p1
    · exact ⟨true, r1, by
        rw [if_pos rfl]
        exact ⟨F1, ρ1, g1.rs, p1.rebase (fun b z => g1.live z) fun _ _ _ _ _ z => RepV.base (fun b z => g1.live z) z⟩⟩
    · exact ⟨false, r1, by
        rw [if_neg Bool.false_ne_true]
        exact p1 _ F1 H1 (Go.refl g1.rs) rfl⟩
    · exact p1.elim⟩
theorem de_or {rest : List Expr} (h : DE X W a f) (k : DE X W (.BoolOp .Or (b :: rest) pos) g) : DE X W (.BoolOp .Or (a :: b :: rest) pos) (eOr f g) :=
  PE.weak (pe_or h k) fun σ H Q ⟨F, ρ, rs, p⟩ => ⟨F, ρ, rs, (Post.bind0 p).mono fun x H1 ⟨F1, ρ1, u, g1, r1, p1⟩ => by
    split at p1
    · exact ⟨false, r1, by
        rw [if_neg Bool.false_ne_true]
        exact ⟨F1, ρ1, g1.rs, p1.rebase (fun b z => g1.live z) fun _ _ _ _ _ z => RepV.base (fun b z => g1.live z) z⟩⟩
    · exact ⟨true, r1, by
        rw [if_pos rfl]
        exact p1 _ F1 H1 (Go.refl g1.rs) rfl⟩
    · exact p1.elim⟩
def notD : D → Option Vl
  | .bl b => some (.d (.bl (!b)))
  | _ => none
theorem de_not (h : DE X W a f) : DE X W (.UnaryOp .Not a pos) (eUn notD f) :=
  PE.weak (pe_not h) fun σ H Q ⟨F, ρ, rs, p⟩ => ⟨F, ρ, rs, (Post.bind0 p).mono fun x H1 ⟨F1, ρ1, u, g1, r1, p1⟩ =>
    p1.op1 (h := notD) (r := fun x H' Q' => ∃ c, x = .bl c ∧ Q' (.bl (!c)) H') (fun a c y F' H' Q' hh s r k => by
      cases a with
      | bl z =>
        cases hh
        exact ⟨z, r, k _ F' H' (Ext.refl s) rfl⟩
      | _ => cases hh) g1.rs (fun b z => g1.live z) r1⟩
end
end L3

set_option Elab.async false
set_option linter.all false
set_option maxRecDepth 100000
set_option maxHeartbeats 4000000
namespace L3
open PySem PySem.Spec PyProof.Rows L2

/-! ### statements -/
inductive SR where
  | nx (ρ : Rho)
  | rt (x : Vl) (ρ : Rho)
  | bk (ρ : Rho)
  | ct (ρ : Rho)
  | ex (c : Str) (fs : List (Str × D)) (ρ : Rho)
  | no
@[reducible] def sB {α : Type} (f : Rho → R α) (k : α → Rho → SR) : Rho → SR := fun ρ => match f ρ with
  | .ok a ρ' => k a ρ'
  | .ex c fs ρ' => .ex c fs ρ'
  | .no => .no
def sNx : Rho → SR := .nx
def sSeq (s t : Rho → SR) : Rho → SR := fun ρ => match s ρ with
  | .nx ρ' => t ρ'
  | r => r
def sIf (c : Rho → R Bool) (s t : Rho → SR) : Rho → SR := sB c fun b ρ => if b then s ρ else t ρ
def sEx (f : Rho → R Vl) : Rho → SR := sB f fun _ ρ => .nx ρ
def sRt (f : Rho → R Vl) : Rho → SR := sB f fun x ρ => .rt x ρ
def setSl (i : Nat) (x : Vl) (ρ : Rho) : SR := match ρ[i]? with
  | none => .no
  | some (.o true _) => .no
  | some _ => match x with
    | .d a => .nx (ρ.set i (.d a))
    | .f m => .nx (ρ.set i (.o false m))
    | .s _ => .no
def sSet (i : Nat) (f : Rho → R Vl) : Rho → SR := sB f (setSl i)
/-- targets -/
abbrev Tg := D → Rho → Option Rho
def gNm (i : Nat) : Tg := fun x ρ => match ρ[i]? with
  | none => none
  | some (.o true _) => none
  | some _ => some (ρ.set i (.d x))
def gAll : List Tg → List D → Rho → Option Rho
  | [], [], ρ => some ρ
  | g :: gs, x :: xs, ρ => match g x ρ with
    | some ρ' => gAll gs xs ρ'
    | none => none
  | _, _, _ => none
def gTp (gs : List Tg) : Tg := fun x ρ => match x with
  | .tup xs => gAll gs xs ρ
  | _ => none
def gLs (gs : List Tg) : Tg := fun x ρ => match x with
  | .lst xs => gAll gs xs ρ
  | _ => none
def toT (g : Tg) (x : Vl) (ρ : Rho) : SR := match x with
  | .d a => match g a ρ with
    | some ρ' => .nx ρ'
    | none => .no
  | _ => .no
def sAsg (f : Rho → R Vl) (g : Tg) : Rho → SR := sB f (toT g)
def forL (g : Tg) (s : Rho → SR) : List D → Rho → SR
  | [], ρ => .nx ρ
  | x :: xs, ρ => match g x ρ with
    | none => .no
    | some ρ1 => match s ρ1 with
      | .nx ρ2 => forL g s xs ρ2
      | .ct ρ2 => forL g s xs ρ2
      | .bk ρ2 => .nx ρ2
      | .rt x ρ2 => .rt x ρ2
      | .ex c fs ρ2 => .ex c fs ρ2
      | .no => .no
def sFor (f : Rho → R (List D)) (g : Tg) (s : Rho → SR) : Rho → SR := sB f (forL g s)
def whL (c : Rho → R Bool) (s : Rho → SR) : Nat → Rho → SR
  | 0, _ => .no
  | n + 1, ρ => match c ρ with
    | .ok true ρ1 => match s ρ1 with
      | .nx ρ2 => whL c s n ρ2
      | .ct ρ2 => whL c s n ρ2
      | .bk ρ2 => .nx ρ2
      | .rt x ρ2 => .rt x ρ2
      | .ex c fs ρ2 => .ex c fs ρ2
      | .no => .no
    | .ok false ρ1 => .nx ρ1
    | .ex c fs ρ1 => .ex c fs ρ1
    | .no => .no
def sWh (n : Rho → Nat) (c : Rho → R Bool) (s : Rho → SR) : Rho → SR := fun ρ => whL c s (n ρ) ρ
/-- x.append(e), x the name of slot i -/
def app1 (i : Nat) (x : Vl) (ρ : Rho) : R Vl := match x, ρ[i]? with
  | .d a, some (.o q (.lst xs)) => if xs.length < 100000 then .ok (.d .non) (ρ.set i (.o q (.lst (xs ++ [a])))) else .no
  | _, _ => .no
def eApp (i : Nat) (f : Rho → R Vl) : Rho → R Vl := fun ρ => match ρ[i]? with
  | some (.o _ (.lst _)) => bnd f (app1 i) ρ
  | _ => .no
/-- x[k] = e -/
def sx1 (i : Nat) (v k : Vl) (ρ : Rho) : SR := match v, k, ρ[i]? with
  | .d a, .d (.int z), some (.o q (.lst xs)) => match L2.ixN xs.length z with
    | some j => .nx (ρ.set i (.o q (.lst (xs.set j a))))
    | none => .no
  | _, _, _ => .no
def sSx (i : Nat) (fk fe : Rho → R Vl) : Rho → SR := sB fe fun v ρ => match ρ[i]? with
  | some (.o _ (.lst _)) => sB fk (sx1 i v) ρ
  | _ => .no
/-- x += e of numbers -/
def sAug (i : Nat) (h : Int → Int → Int) (f : Rho → R Vl) : Rho → SR := fun ρ => match ρ[i]? with
  | some (.d (.int a)) => match f ρ with
    | .ok (.d (.int b)) ρ' => setSl i (.d (.int (h a b))) ρ'
    | .ex c fs ρ' => .ex c fs ρ'
    | _ => .no
  | _ => .no

section
variable (K : PySem.W.Frag) (mg : Mg)
def PostS (W : WX) (H0 F H : Hp) (σ : L2.St) (ρ : Rho) (r : SR) (Dn : Ends) : Prop := match r with
  | .nx ρ' => ∀ σ' F' H', Go K mg F H σ ρ F' H' σ' ρ' → Dn.nx σ' H'
  | .bk ρ' => ∀ σ' F' H', Go K mg F H σ ρ F' H' σ' ρ' → Dn.bk σ' H'
  | .ct ρ' => ∀ σ' F' H', Go K mg F H σ ρ F' H' σ' ρ' → Dn.ct σ' H'
  | .rt x ρ' => ∀ v σ' F' H', Go K mg F H σ ρ F' H' σ' ρ' → RepV K mg H0 F' H' σ' ρ' x v → Dn.rt v H'
  | .ex c fs ρ' => ∀ d σ' F' H' vfs, Go K mg F H σ ρ F' H' σ' ρ' → H0 d = none → F' d = none → H' d = some (.xd vfs) → RepF K mg F' fs vfs → W (.ref (cad mg c)) (some d) σ' H'
  | .no => False
def tS (W : WX) (s : Rho → SR) : TS := fun Dn σ H => ∃ F ρ, RS K mg F H σ ρ ∧ PostS K mg W H F H σ ρ (s ρ) Dn
end
section
variable {K : PySem.W.Frag} {mg : Mg} {F H F1 H1 F2 H2 H0 Hb : Hp} {σ σ1 σ2 : L2.St} {ρ ρ1 ρ2 : Rho} {W : WX} {α β : Type} {rel : Tell α β}
theorem PostS.step {r : SR} {Dn : Ends} (g : Go K mg F H σ ρ F1 H1 σ1 ρ1) (h : PostS K mg W H0 F H σ ρ r Dn) : PostS K mg W H0 F1 H1 σ1 ρ1 r Dn := by
  cases r with
  | nx ρ' => exact fun σ' F' H' g' => h σ' F' H' (g.trans g')
  | bk ρ' => exact fun σ' F' H' g' => h σ' F' H' (g.trans g')
  | ct ρ' => exact fun σ' F' H' g' => h σ' F' H' (g.trans g')
  | rt x ρ' => exact fun v σ' F' H' g' q => h v σ' F' H' (g.trans g') q
  | ex c fs ρ' => exact fun d σ' F' H' vfs g' n a b e => h d σ' F' H' vfs (g.trans g') n a b e
  | no => exact h
theorem PostS.rebase {r : SR} {Dn : Ends} (l : ∀ b, Hb b = none → H0 b = none) (h : PostS K mg W H0 F H σ ρ r Dn) : PostS K mg W Hb F H σ ρ r Dn := by
  cases r with
  | nx ρ' => exact h
  | bk ρ' => exact h
  | ct ρ' => exact h
  | rt x ρ' => exact fun v σ' F' H' g' q => h v σ' F' H' g' (q.base l)
  | ex c fs ρ' => exact fun d σ' F' H' vfs g' n a b e => h d σ' F' H' vfs g' (l d n) a b e
  | no => exact h
theorem PostS.mono {r : SR} {Dn Dn' : Ends} (h1 : ∀ σ H, Dn.nx σ H → Dn'.nx σ H) (h2 : ∀ v H, Dn.rt v H → Dn'.rt v H) (h3 : ∀ σ H, Dn.bk σ H → Dn'.bk σ H) (h4 : ∀ σ H, Dn.ct σ H → Dn'.ct σ H) (h : PostS K mg W H0 F H σ ρ r Dn) : PostS K mg W H0 F H σ ρ r Dn' := by
  cases r with
  | nx ρ' => exact fun σ' F' H' g' => h1 _ _ (h σ' F' H' g')
  | bk ρ' => exact fun σ' F' H' g' => h3 _ _ (h σ' F' H' g')
  | ct ρ' => exact fun σ' F' H' g' => h4 _ _ (h σ' F' H' g')
  | rt x ρ' => exact fun v σ' F' H' g' q => h2 _ _ (h v σ' F' H' g' q)
  | ex c fs ρ' => exact h
  | no => exact h
theorem PostS.bind {f : Rho → R α} {k : α → Rho → SR} {Dn : Ends} (l : ∀ b, Hb b = none → H0 b = none) (h : PostS K mg W H0 F H σ ρ (sB f k ρ) Dn) :
    Post K mg rel W Hb F H σ ρ (f ρ) (fun b H1 => ∃ F1 ρ1 a, Go K mg F H σ ρ F1 H1 σ ρ1 ∧ rel Hb F1 H1 ρ1 a b ∧ PostS K mg W H0 F1 H1 σ ρ1 (k a ρ1) Dn) := by
  unfold sB at h
  cases e : f ρ with
  | ok a ρ1 =>
    rw [e] at h
    exact fun v F1 H1 g q => ⟨F1, ρ1, a, g, q, h.step g⟩
  | ex c fs ρ' =>
    rw [e] at h
    exact fun d F' H' vfs g n => h d σ F' H' vfs g (l d n)
  | no =>
    rw [e] at h
    exact h
theorem PostS.bind0 {f : Rho → R α} {k : α → Rho → SR} {Dn : Ends} (h : PostS K mg W H0 F H σ ρ (sB f k ρ) Dn) :
    Post K mg rel W H0 F H σ ρ (f ρ) (fun b H1 => ∃ F1 ρ1 a, Go K mg F H σ ρ F1 H1 σ ρ1 ∧ rel H0 F1 H1 ρ1 a b ∧ PostS K mg W H0 F1 H1 σ ρ1 (k a ρ1) Dn) := h.bind fun _ z => z

theorem set_some {α : Type} {l : List α} {i : Nat} {x y : α} (h : l[i]? = some y) : (l.set i x)[i]? = some x := List.getElem?_set_self (List.getElem?_eq_some_iff.mp h).1
/-- a slot takes a datum -/
theorem Go.setD {i : Nat} {sl : Sl} {x : D} {v : V} (g : Go K mg F H σ ρ F1 H1 σ1 ρ1) (hi : ρ1[i]? = some sl) (hn : ∀ m, sl ≠ .o true m) (r : Rep K mg F1 x v) : Go K mg F H σ ρ F1 H1 (σ1.set i (some v)) (ρ1.set i (.d x)) := by
  have hl : i < σ1.length := by
    rw [g.rs.len]
    exact (List.getElem?_eq_some_iff.mp hi).1
  exact {
    rs := {
      len := by rw [List.length_set, List.length_set]; exact g.rs.len
      sub := g.rs.sub
      dat := fun {j y} h => by
        rcases getElem?_set_cases h with ⟨rfl, e, _⟩ | ⟨ne, e⟩
        · cases e
          exact ⟨v, List.getElem?_set_self hl, r⟩
        · rw [List.getElem?_set_ne (Ne.symm ne)]
          exact g.rs.dat e
      own := fun {j q m} h => by
        rcases getElem?_set_cases h with ⟨rfl, e, _⟩ | ⟨ne, e⟩
        · cases e
        · rw [List.getElem?_set_ne (Ne.symm ne)]
          exact g.rs.own e
      apart := fun {j k q q' m m' p} h1 h2 a b => by
        rcases getElem?_set_cases h1 with ⟨rfl, e, _⟩ | ⟨ne, h1⟩
        · cases e
        · rcases getElem?_set_cases h2 with ⟨rfl, e, _⟩ | ⟨ne2, h2⟩
          · cases e
          · rw [List.getElem?_set_ne (Ne.symm ne)] at a
            rw [List.getElem?_set_ne (Ne.symm ne2)] at b
            exact g.rs.apart h1 h2 a b
      exs := fun {j fs} h => by
        rcases getElem?_set_cases h with ⟨rfl, e, _⟩ | ⟨ne, e⟩
        · cases e
        · rw [List.getElem?_set_ne (Ne.symm ne)]
          exact g.rs.exs e }
    fro := g.fro
    keep := g.keep
    live := g.live
    new := g.new
    own := fun ⟨j, q, m, h, a⟩ => by
      rcases getElem?_set_cases h with ⟨rfl, e, _⟩ | ⟨ne, e⟩
      · cases e
      · rw [List.getElem?_set_ne (Ne.symm ne)] at a
        exact g.own ⟨j, q, m, e, a⟩
    par := fun {j m} h => by
      obtain ⟨e, m', h'⟩ := g.par h
      have ne : i ≠ j := fun z => by
        rw [z, h'] at hi
        exact hn m' (Option.some.inj hi).symm
      exact ⟨by rw [List.getElem?_set_ne ne]; exact e, m', by rw [List.getElem?_set_ne ne]; exact h'⟩ }
/-- a slot takes a new object -/
theorem Go.setF {i : Nat} {sl : Sl} {m : MO} {v : V} (g : Go K mg F H σ ρ F1 H1 σ1 ρ1) (hi : ρ1[i]? = some sl) (hn : ∀ m, sl ≠ .o true m) (r : RepV K mg H F1 H1 σ1 ρ1 (.f m) v) : Go K mg F H σ ρ F1 H1 (σ1.set i (some v)) (ρ1.set i (.o false m)) := by
  have hl : i < σ1.length := by
    rw [g.rs.len]
    exact (List.getElem?_eq_some_iff.mp hi).1
  obtain ⟨p, rfl, n, nf, rm, no⟩ := r
  exact {
    rs := {
      len := by rw [List.length_set, List.length_set]; exact g.rs.len
      sub := g.rs.sub
      dat := fun {j y} h => by
        rcases getElem?_set_cases h with ⟨rfl, e, _⟩ | ⟨ne, e⟩
        · cases e
        · rw [List.getElem?_set_ne (Ne.symm ne)]
          exact g.rs.dat e
      own := fun {j q m} h => by
        rcases getElem?_set_cases h with ⟨rfl, e, _⟩ | ⟨ne, e⟩
        · cases e
          exact ⟨p, List.getElem?_set_self hl, nf, rm⟩
        · rw [List.getElem?_set_ne (Ne.symm ne)]
          exact g.rs.own e
      apart := fun {j k q q' m m' c} h1 h2 a b => by
        rcases getElem?_set_cases h1 with ⟨rfl, e, _⟩ | ⟨ne, hj⟩
        · rcases getElem?_set_cases h2 with ⟨rfl, e, _⟩ | ⟨ne2, h2⟩
          · rfl
          · rw [List.getElem?_set_self hl] at a
            rw [List.getElem?_set_ne (Ne.symm ne2)] at b
            cases a
            exact absurd ⟨k, q', m', h2, b⟩ no
        · skip
          rcases getElem?_set_cases h2 with ⟨rfl, e, _⟩ | ⟨ne2, h2⟩
          · rw [List.getElem?_set_self hl] at b
            rw [List.getElem?_set_ne (Ne.symm ne)] at a
            cases b
            exact absurd ⟨j, q, _, hj, a⟩ no
          · rw [List.getElem?_set_ne (Ne.symm ne)] at a
            rw [List.getElem?_set_ne (Ne.symm ne2)] at b
            exact g.rs.apart hj h2 a b
      exs := fun {j fs} h => by
        rcases getElem?_set_cases h with ⟨rfl, e, _⟩ | ⟨ne, e⟩
        · cases e
        · rw [List.getElem?_set_ne (Ne.symm ne)]
          exact g.rs.exs e }
    fro := g.fro
    keep := g.keep
    live := g.live
    new := g.new
    own := fun {b} ⟨j, q, m, h, a⟩ => by
      rcases getElem?_set_cases h with ⟨rfl, e, _⟩ | ⟨ne, e⟩
      · rw [List.getElem?_set_self hl] at a
        cases a
        exact .inr n
      · rw [List.getElem?_set_ne (Ne.symm ne)] at a
        exact g.own ⟨j, q, m, e, a⟩
    par := fun {j m} h => by
      obtain ⟨e, m', h'⟩ := g.par h
      have ne : i ≠ j := fun z => by
        rw [z, h'] at hi
        exact hn m' (Option.some.inj hi).symm
      exact ⟨by rw [List.getElem?_set_ne ne]; exact e, m', by rw [List.getElem?_set_ne ne]; exact h'⟩ }
/-- a slot's object changes -/
theorem Go.chg {i : Nat} {q : Bool} {m m' : MO} {p : Addr} {o : HO} (rs : RS K mg F H σ ρ) (hi : ρ[i]? = some (.o q m)) (hp : σ[i]? = some (some (.ref p))) (r : RepM K mg F (upd H p o) m' p) : Go K mg F H σ ρ F (upd H p o) σ (ρ.set i (.o q m')) := by
  obtain ⟨p', e1, nf, rm⟩ := rs.own hi
  rw [hp] at e1
  cases e1
  obtain ⟨vs, ht⟩ := rm.there
  have oth : ∀ {b : Addr}, b ≠ p → upd H p o b = H b := fun ne => upd_ne ne
  exact {
    rs := {
      len := by rw [List.length_set]; exact rs.len
      sub := fun a u h => by
        have ne : a ≠ p := fun z => by
          rw [z, nf] at h
          cases h
        rw [oth ne]
        exact rs.sub a u h
      dat := fun {j x} h => by
        rcases getElem?_set_cases h with ⟨rfl, e, _⟩ | ⟨ne, e⟩
        · cases e
        · exact rs.dat e
      own := fun {j q' m2} h => by
        rcases getElem?_set_cases h with ⟨rfl, e, _⟩ | ⟨ne, e⟩
        · cases e
          exact ⟨p, hp, nf, r⟩
        · obtain ⟨c, a, b, rc⟩ := rs.own e
          have nc : c ≠ p := fun z => ne (rs.apart e hi (z ▸ a) hp)
          exact ⟨c, a, b, rc.mono (Sub.refl F) (oth nc)⟩
      apart := fun {j k q1 q2 m1 m2 c} h1 h2 a b => by
        rcases getElem?_set_cases h1 with ⟨rfl, e, _⟩ | ⟨ne, hj⟩
        · rcases getElem?_set_cases h2 with ⟨rfl, e, _⟩ | ⟨ne2, h2⟩
          · rfl
          · exact rs.apart hi h2 a b
        · rcases getElem?_set_cases h2 with ⟨rfl, e, _⟩ | ⟨ne2, h2⟩
          · exact rs.apart hj hi a b
          · exact rs.apart hj h2 a b
      exs := fun {j fs} h => by
        rcases getElem?_set_cases h with ⟨rfl, e, _⟩ | ⟨ne, e⟩
        · cases e
        · obtain ⟨a0, d, vfs, hc, a, b, c, rf⟩ := rs.exs e
          have nd : d ≠ p := fun z => by
            rw [z, ht] at c
            cases c
          exact ⟨a0, d, vfs, hc, a, b, by rw [oth nd]; exact c, rf⟩ }
    fro := Sub.refl F
    keep := fun {b u} h no => by
      have ne : b ≠ p := fun z => no ⟨i, q, m, hi, z ▸ hp⟩
      rw [oth ne]
      exact h
    live := fun {b} h => by
      by_cases e : b = p
      · rw [e, upd_same] at h
        cases h
      · rw [oth e] at h
        exact h
    new := fun h => .inl h
    own := fun {b} ⟨j, q', m2, h, a⟩ => by
      rcases getElem?_set_cases h with ⟨rfl, e, _⟩ | ⟨ne, e⟩
      · exact .inl ⟨j, q, m, hi, a⟩
      · exact .inl ⟨j, q', m2, e, a⟩
    par := fun {j m2} h => by
      refine ⟨rfl, ?_⟩
      by_cases e : i = j
      · subst e
        rw [hi] at h
        cases h
        exact ⟨m', set_some hi⟩
      · exact ⟨m2, by rw [List.getElem?_set_ne e]; exact h⟩ }
end

section
variable {X : Cx} {W : WX} {e a b c : Expr} {es : List Expr} {f g f' : Rho → R Vl} {s t : Rho → SR} {cd : Rho → R Bool} {l : Rho → R (List Vl)} {pos : Pos} {st : Stmt} {sts : List Stmt}
abbrev DS (X : Cx) (W : WX) (st : Stmt) (s : Rho → SR) : Prop := PS X st (tS X.K (mgX X) W s)
abbrev DSs (X : Cx) (W : WX) (st : List Stmt) (s : Rho → SR) : Prop := PSs X st (tS X.K (mgX X) W s)
theorem ds_nil : DSs X W [] sNx := PSs.weak pss_nil fun Dn σ H ⟨F, ρ, rs, p⟩ => p σ F H (Go.refl rs)
theorem ds_cons (h : DS X W st s) (k : DSs X W sts t) : DSs X W (st :: sts) (sSeq s t) :=
  PSs.weak (pss_cons h k) fun Dn σ H ⟨F, ρ, rs, p⟩ => by
    refine ⟨F, ρ, rs, ?_⟩
    have p : PostS X.K (mgX X) W H F H σ ρ (sSeq s t ρ) Dn := p
    unfold sSeq at p
    cases q : s ρ with
    | nx ρ1 =>
      rw [q] at p
      exact fun σ1 F1 H1 g => ⟨F1, ρ1, g.rs, (p.step g).rebase fun b z => g.live z⟩
    | bk ρ1 =>
      rw [q] at p
      exact p
    | ct ρ1 =>
      rw [q] at p
      exact p
    | rt x ρ1 =>
      rw [q] at p
      exact p
    | ex c fs ρ1 =>
      rw [q] at p
      exact p
    | no =>
      rw [q] at p
      exact p
theorem ds_one (h : DS X W st s) : DSs X W [st] s := pss_one h
theorem ds_pass : DS X W (.Pass pos) sNx := PS.weak ps_pass fun Dn σ H ⟨F, ρ, rs, p⟩ => p σ F H (Go.refl rs)
theorem ds_break : DS X W (.Break pos) .bk := PS.weak ps_break fun Dn σ H ⟨F, ρ, rs, p⟩ => p σ F H (Go.refl rs)
theorem ds_cont : DS X W (.Continue pos) .ct := PS.weak ps_continue fun Dn σ H ⟨F, ρ, rs, p⟩ => p σ F H (Go.refl rs)
theorem ds_if {aa bb : List Stmt} (hc : DT X W c cd) (ha : DSs X W aa s) (hb : DSs X W bb t) : DS X W (.If c aa bb pos) (sIf cd s t) :=
  PS.weak (ps_if hc ha hb) fun Dn σ H ⟨F, ρ, rs, p⟩ => ⟨F, ρ, rs, (PostS.bind0 p).mono fun x H1 ⟨F1, ρ1, u, g1, r1, p1⟩ => by
    cases (show u = x from r1)
    cases x with
    | true =>
      rw [if_pos rfl] at p1 ⊢
      exact ⟨F1, ρ1, g1.rs, p1.rebase fun b z => g1.live z⟩
    | false =>
      rw [if_neg Bool.false_ne_true] at p1 ⊢
      exact ⟨F1, ρ1, g1.rs, p1.rebase fun b z => g1.live z⟩⟩
theorem ds_expr (h : DE X W e f) (hs : swapsWith e none pos.line X.env = pure false := by rfl) : DS X W (.Expr e pos) (sEx f) :=
  PS.weak (ps_expr h hs) fun Dn σ H ⟨F, ρ, rs, p⟩ => ⟨F, ρ, rs, (PostS.bind0 p).mono fun x H1 ⟨F1, ρ1, u, g1, r1, p1⟩ => p1 σ F1 H1 (Go.refl g1.rs)⟩
theorem ds_ret (h : DE X W e f) : DS X W (.Return (some e) pos) (sRt f) :=
  PS.weak (ps_ret h) fun Dn σ H ⟨F, ρ, rs, p⟩ => ⟨F, ρ, rs, (PostS.bind0 p).mono fun x H1 ⟨F1, ρ1, u, g1, r1, p1⟩ => p1 _ σ F1 H1 (Go.refl g1.rs) r1⟩
theorem ds_retN : DS X W (.Return none pos) (fun ρ => .rt (.d .non) ρ) := PS.weak ps_retN fun Dn σ H ⟨F, ρ, rs, p⟩ => p .non σ F H (Go.refl rs) rfl
theorem setSl_wish {K : PySem.W.Frag} {mg : Mg} {F H F1 H1 : Hp} {σ : L2.St} {ρ ρ1 : Rho} {i : Nat} {u : Vl} {x : V} {Dn : Ends} (g : Go K mg F H σ ρ F1 H1 σ ρ1) (r : RepV K mg H F1 H1 σ ρ1 u x)
    (p : ∀ σ' ρ', setSl i u ρ1 = .nx ρ' → Go K mg F H σ ρ F1 H1 σ' ρ' → Dn.nx σ' H1) (hn : setSl i u ρ1 ≠ .no) : Dn.nx (σ.set i (some x)) H1 := by
  unfold setSl at p hn
  cases q : ρ1[i]? with
  | none =>
    rw [q] at hn
    exact absurd rfl hn
  | some sl =>
    rw [q] at p hn
    have nt : ∀ m, sl ≠ .o true m := fun m z => by
      rw [z] at hn
      exact hn rfl
    cases sl with
    | o b m =>
      cases b with
      | true => exact absurd rfl (nt m)
      | false =>
        cases u with
        | d a => exact p _ _ rfl (g.setD q nt r)
        | f m => exact p _ _ rfl (g.setF q nt r)
        | s j => exact absurd rfl hn
    | un =>
      cases u with
      | d a => exact p _ _ rfl (g.setD q nt r)
      | f m => exact p _ _ rfl (g.setF q nt r)
      | s j => exact absurd rfl hn
    | d y =>
      cases u with
      | d a => exact p _ _ rfl (g.setD q nt r)
      | f m => exact p _ _ rfl (g.setF q nt r)
      | s j => exact absurd rfl hn
    | ex y =>
      cases u with
      | d a => exact p _ _ rfl (g.setD q nt r)
      | f m => exact p _ _ rfl (g.setF q nt r)
      | s j => exact absurd rfl hn
theorem setSl_nx {i : Nat} {u : Vl} {ρ : Rho} : setSl i u ρ = .no ∨ ∃ ρ', setSl i u ρ = .nx ρ' := by
  unfold setSl
  split
  · exact .inl rfl
  · exact .inl rfl
  · split
    · exact .inr ⟨_, rfl⟩
    · exact .inr ⟨_, rfl⟩
    · exact .inl rfl
theorem bind_set {K : PySem.W.Frag} {mg : Mg} {F H : Hp} {σ : L2.St} {ρ : Rho} {i : Nat} {Dn : Ends} (rs : RS K mg F H σ ρ) (p : PostS K mg W H F H σ ρ (sSet i f ρ) Dn) : tE K mg W f σ H (fun x H1 => gName i x σ H1 Dn.nx) := by
  refine ⟨F, ρ, rs, ?_⟩
  unfold sSet sB at p
  cases e : f ρ with
  | no =>
    rw [e] at p
    exact p
  | ex c fs ρ' =>
    rw [e] at p
    exact fun d F' H' vfs g n => p d σ F' H' vfs g n
  | ok u ρ1 =>
    rw [e] at p
    intro v F1 H1 g r
    show Dn.nx (σ.set i (some v)) H1
    have p : PostS K mg W H F H σ ρ (setSl i u ρ1) Dn := p
    rcases setSl_nx (i := i) (u := u) (ρ := ρ1) with q | ⟨ρ', q⟩
    · rw [q] at p
      exact p.elim
    · refine setSl_wish g r (fun σ' ρ2 q2 g2 => ?_) (by rw [q]; exact fun z => nomatch z)
      rw [q2] at p
      exact p σ' F1 H1 g2
theorem ds_set {i : Nat} {x : Str} {pos' : Pos} (hN : X.N.Nodup) (hi : X.N[i]? = some x) (hx : Loc X.env.scope x) (h : DE X W e f) (hs : swapsWith e (some (.Name x pos')) pos.line X.env = pure false := by rfl)
    (hf : X.fn x = true ∨ X.env.scope.names.lookup x = some .local := by first | exact .inl rfl | exact .inr rfl | assumption) : DS X W (.Assign [.Name x pos'] e pos) (sSet i f) :=
  PS.weak (ps_set hN hi hx h hs hf) fun Dn σ H ⟨F, ρ, rs, p⟩ => bind_set rs p
end
end L3

set_option Elab.async false
set_option linter.all false
set_option maxRecDepth 100000
set_option maxHeartbeats 4000000
namespace L3
open PySem PySem.Spec PyProof.Rows L2

/-! ### targets -/
section
variable (K : PySem.W.Frag) (mg : Mg)
/-- t stores a datum as h says, in the slots of is alone -/
def Sto (is : List Nat) (h : Tg) (t : TG) : Prop := ∀ {F0 H0 F H : Hp} {σ0 σ : L2.St} {ρ0 ρ ρ' : Rho} {x : D} {v : V} {Q : L2.St → Hp → Prop}, Go K mg F0 H0 σ0 ρ0 F H σ ρ → Rep K mg F x v → h x ρ = some ρ' →
  (∀ σ', Go K mg F0 H0 σ0 ρ0 F H σ' ρ' → (∀ j, j ∉ is → σ'[j]? = σ[j]?) → σ'.length = σ.length → Q σ' H) → t v σ H Q
def Stos (is : List Nat) (hs : List Tg) (t : TGs) : Prop := ∀ {F0 H0 F H : Hp} {σ0 σ : L2.St} {ρ0 ρ ρ' : Rho} {xs : List D} {vs : List V} {Q : L2.St → Hp → Prop}, Go K mg F0 H0 σ0 ρ0 F H σ ρ → Reps K mg F xs vs → gAll hs xs ρ = some ρ' →
  (∀ σ', Go K mg F0 H0 σ0 ρ0 F H σ' ρ' → (∀ j, j ∉ is → σ'[j]? = σ[j]?) → σ'.length = σ.length → Q σ' H) → t vs σ H Q
end
section
variable {X : Cx} {W : WX} {e a b c tg iter : Expr} {es : List Expr} {f g f' : Rho → R Vl} {s t : Rho → SR} {cd : Rho → R Bool} {l : Rho → R (List Vl)} {pos : Pos} {st : Stmt} {sts : List Stmt} {is js : List Nat} {h h' : Tg} {hs : List Tg}
def DG (X : Cx) (tg : Expr) (is : List Nat) (h : Tg) : Prop := ∃ t, PG X tg t ∧ Sto X.K (mgX X) is h t
def DGs (X : Cx) (tgs : List Expr) (is : List Nat) (hs : List Tg) : Prop := ∃ t, PGs X tgs t ∧ Stos X.K (mgX X) is hs t
theorem sto_name {K : PySem.W.Frag} {mg : Mg} {i : Nat} : Sto K mg [i] (gNm i) (gName i) := by
  intro F0 H0 F H σ0 σ ρ0 ρ ρ' x v Q g r e k
  unfold gNm at e
  split at e
  · cases e
  · cases e
  · rename_i sl hn hi
    cases e
    refine k _ (g.setD hi (fun m z => hn m z) r) (fun j hj => List.getElem?_set_ne fun z => hj (by rw [z]; exact List.mem_singleton.mpr rfl)) (List.length_set ..)
theorem dg_name {i : Nat} {x : Str} (hN : X.N.Nodup) (hi : X.N[i]? = some x) (hx : Loc X.env.scope x) (hf : X.fn x = true ∨ X.env.scope.names.lookup x = some .local := by first | exact .inl rfl | exact .inr rfl | assumption) : DG X (.Name x pos) [i] (gNm i) :=
  ⟨_, pg_name hN hi hx hf, sto_name⟩
theorem dgs_nil : DGs X [] [] [] := ⟨_, pgs_nil, fun {F0 H0 F H σ0 σ ρ0 ρ ρ' xs vs Q} g r e k => by
  cases xs with
  | nil =>
    cases e
    exact ⟨r, k σ g (fun _ _ => rfl) rfl⟩
  | cons x xs => cases e⟩
theorem dgs_cons (a : DG X e is h) (b : DGs X es js hs) (hp : (assignEach (e :: es) X.env).map (·.2) = assign e X.env :: (assignEach es X.env).map (·.2) := by rfl) : DGs X (e :: es) (is ++ js) (h :: hs) := by
  obtain ⟨t, pt, st⟩ := a
  obtain ⟨u, pu, su⟩ := b
  refine ⟨_, pgs_cons pt pu hp, fun {F0 H0 F H σ0 σ ρ0 ρ ρ' xs vs Q} g r e k => ?_⟩
  cases xs with
  | nil => cases e
  | cons x xs =>
    obtain ⟨v, ws, ev, rx, rxs⟩ := r
    unfold gAll at e
    split at e
    · rename_i ρ1 h1
      refine ⟨v, ws, ev, st g rx h1 fun σ1 g1 s1 l1 => su g1 rxs e fun σ2 g2 s2 l2 => k σ2 g2 (fun j hj => ?_) (l2.trans l1)⟩
      rw [s2 j fun z => hj (List.mem_append_right _ z), s1 j fun z => hj (List.mem_append_left _ z)]
    · cases e
theorem dg_tup {kk n : Nat} (hc : X.calm = true) (d : DGs X es is hs) (hn : hs.length = n := by rfl) (hl : (assignEach es X.env).length = n := by rfl) (hst : (assignEach es X.env).findIdx? (·.1) = none := by rfl) : DG X (.Tuple es kk pos) is (gTp hs) := by
  obtain ⟨t, pt, st⟩ := d
  refine ⟨_, pg_tup hc pt hl hst, fun {F0 H0 F H σ0 σ ρ0 ρ ρ' x v Q} g r e k => ?_⟩
  cases x with
  | tup xs =>
    obtain ⟨a, vs, ev, q, rs⟩ := r
    have e : gAll hs xs ρ = some ρ' := e
    have len : ∀ {hs : List Tg} {xs : List D} {ρ ρ' : Rho}, gAll hs xs ρ = some ρ' → xs.length = hs.length := by
      intro hs
      induction hs with
      | nil =>
        intro xs ρ ρ' e
        cases xs with
        | nil => rfl
        | cons x xs => cases e
      | cons h hs ih =>
        intro xs ρ ρ' e
        cases xs with
        | nil => cases e
        | cons x xs =>
          unfold gAll at e
          split at e
          · rw [List.length_cons, List.length_cons, ih e]
          · cases e
    exact ⟨a, vs, ev, sub_t g.rs.sub q, by rw [rs.length, len e, hn], st g rs e k⟩
  | _ => cases e
theorem ds_asg {n : Nat} (ha : DE X W e f) (hg : DG X tg is h) (hs : swapsWithSole [tg] e pos.line X.env = pure false := by rfl) (hw : swappedStores [tg] e X.env = pure none := by rfl)
    (h1 : (assignEach [tg] X.env).map (·.2) = [assign tg X.env] := by rfl) : DS X W (.Assign [tg] e pos) (sAsg f h) := by
  obtain ⟨t, pt, st⟩ := hg
  refine PS.weak (ps_asg ha pt hs hw h1) fun Dn σ H ⟨F, ρ, rs, p⟩ => ⟨F, ρ, rs, (PostS.bind0 p).mono fun x H1 ⟨F1, ρ1, u, g1, r1, p1⟩ => ?_⟩
  unfold toT at p1
  split at p1
  · split at p1
    · rename_i a ρ2 e2
      exact st (Go.refl g1.rs) r1 e2 fun σ2 g2 _ _ => p1 σ2 F1 H1 g2
    · exact p1.elim
  · exact p1.elim

/-! ### append, x[k] = e, x += e -/
theorem lt_line {n : Nat} (h : n < 100000) : n < sizeLine := Nat.lt_trans h (by decide)
theorem de_app {i : Nat} {x : Str} {p apos : Pos} (hx : PE X (.Name x p) (tVar i)) (h : DE X W e f)
    (hbase : attributeBase (.Name x p) "append" X.env (eval (.Name x p) X.env) = eval (.Name x p) X.env := by rfl)
    (hfew : ((backTo pos (starEach [e] X.env)).all (fun x => !x.1) && (backToKw pos (keywordEach [] X.env)).all (fun x => x.1.isSome) && decide ([e].length + ([] : List Keyword).length + (if ([] : List Keyword).isEmpty then 0 else 1) < 30)) = true := by rfl)
    (hline : (apos.endLine == pos.line) = true := by rfl) (hs : starEach [e] X.env = (false, eval e X.env) :: starEach [] X.env := by rfl) (hplain : (backTo pos (starEach [] X.env)).any (·.1) = false := by rfl) :
    DE X W (.Call (.Attribute (.Name x p) "append" apos) [e] [] pos) (eApp i f) :=
  PE.weak (pe_bm PySem.F.plainAttrs_list PySem.F.slot_list_append PySem.F.type_list_append mt_append hx (pa_cons h pa_nil hs) hbase hfew hline hs hplain) fun σ H Q ⟨F, ρ, rs, p⟩ => by
    have p : Post X.K (mgX X) (relV X.K (mgX X) σ) W H F H σ ρ (eApp i f ρ) Q := p
    unfold eApp at p
    split at p
    · rename_i q0 xs0 h0
      obtain ⟨c, e1, _, vs, e2, _⟩ := rs.own h0
      refine ⟨.ref c, e1, .inl ⟨rfl, vs, .inl (.inl e2)⟩, F, ρ, rs, (Post.bind0 p).mono fun x H1 ⟨F1, ρ1, u, g1, r1, p1⟩ => ?_⟩
      unfold app1 at p1
      split at p1
      · rename_i a q xs h1
        split at p1
        · rename_i hz
          obtain ⟨c', e3, e4, ws, e5, e6⟩ := g1.rs.own h1
          rw [e1] at e3
          cases e3
          exact ⟨c, ws, x, rfl, rfl, e5, lt_line (by rw [e6.length]; exact hz), p1 _ F1 _ (Go.chg g1.rs h1 e1 ⟨_, upd_same, e6.append ⟨x, [], rfl, r1, rfl⟩⟩) rfl⟩
        · exact p1.elim
      · exact p1.elim
    · exact p.elim
theorem sx1_some {i : Nat} {v k : Vl} {ρ : Rho} {P : SR → Prop} (h : P (sx1 i v k ρ)) (hn : P .no → False) :
    ∃ a z q xs j, v = .d a ∧ k = .d (.int z) ∧ ρ[i]? = some (.o q (.lst xs)) ∧ L2.ixN xs.length z = some j ∧ P (.nx (ρ.set i (.o q (.lst (xs.set j a))))) := by
  unfold sx1 at h
  split at h
  · rename_i hh
    split at h
    · exact ⟨_, _, _, _, _, rfl, rfl, hh, by assumption, h⟩
    · exact (hn h).elim
  · exact (hn h).elim
theorem ds_sx {i : Nat} {x : Str} {p p' : Pos} {k : Expr} (hx : PE X (.Name x p) (tVar i)) (hk : DE X W k f) (he : DE X W e g)
    (ha : ∀ v, assign (.Subscript (.Name x p) k p') X.env v = (do
      let ov ← holding [v] (eval (.Name x p) X.env)
      let iv ← holding [v, ov] (eval k X.env)
      standAt p'
      holding [v, ov, iv] (setItem ov iv v)
      release [v, ov, iv] []) := by intro _; rfl)
    (hs : swapsWithSole [.Subscript (.Name x p) k p'] e pos.line X.env = pure false := by rfl) (hw : swappedStores [.Subscript (.Name x p) k p'] e X.env = pure none := by rfl)
    (h1 : (assignEach [.Subscript (.Name x p) k p'] X.env).map (·.2) = [assign (.Subscript (.Name x p) k p') X.env] := by rfl) : DS X W (.Assign [.Subscript (.Name x p) k p'] e pos) (sSx i f g) :=
  PS.weak (ps_asg he (pg_sub hx hk set_list ha) hs hw h1) fun Dn σ H ⟨F, ρ, rs, p⟩ => ⟨F, ρ, rs, (PostS.bind0 p).mono fun x H1 ⟨F1, ρ1, u, g1, r1, p1⟩ => by
    split at p1
    · rename_i q0 xs0 h0
      obtain ⟨c, e1, _, _, _⟩ := g1.rs.own h0
      refine ⟨.ref c, e1, F1, ρ1, g1.rs, (p1.bind fun b z => g1.live z).mono fun y H2 ⟨F2, ρ2, w, g2, r2, p2⟩ => ?_⟩
      obtain ⟨a, z, q, xs, j, rfl, rfl, h2, hj, e⟩ := sx1_some (P := fun r => PostS X.K (mgX X) W H F2 H2 σ ρ2 r Dn) p2 id
      have p2 : PostS X.K (mgX X) W H F2 H2 σ ρ2 _ Dn := e
      obtain ⟨c', e3, e4, ws, e5, e6⟩ := g2.rs.own h2
      rw [e1] at e3
      cases e3
      exact ⟨c, ws, z, j, rfl, r2, e5, by rw [e6.length]; exact hj, p2 σ F2 _ (Go.chg g2.rs h2 e1 ⟨_, upd_same, e6.set j (Rep.mono g2.fro r1)⟩)⟩
    · exact p1.elim⟩
theorem ds_aug {i : Nat} {x : Str} {pos' : Pos} {op : Operator} {hI : Int → Int → Int} (hN : X.N.Nodup) (hi : X.N[i]? = some x) (hx : Loc X.env.scope x) (he : DE X W e f) (ho : PIp X op (ipI hI)) (hf : X.fn x = true ∨ X.env.scope.names.lookup x = some .local := by first | exact .inl rfl | exact .inr rfl | assumption) :
    DS X W (.AugAssign (.Name x pos') op e pos) (sAug i hI f) :=
  PS.weak (ps_aug hN hi hx he ho hf) fun Dn σ H ⟨F, ρ, rs, p⟩ => by
    have p : PostS X.K (mgX X) W H F H σ ρ (sAug i hI f ρ) Dn := p
    unfold sAug at p
    split at p
    · rename_i a h0
      obtain ⟨v, e1, e2⟩ := rs.dat h0
      refine ⟨v, e1, F, ρ, rs, ?_⟩
      have e2 : v = .int a := e2
      subst e2
      cases q : f ρ with
      | no =>
        rw [q] at p
        exact p
      | ex c fs ρ' =>
        rw [q] at p
        exact fun d F' H' vfs g n => p d σ F' H' vfs g n
      | ok u ρ1 =>
        rw [q] at p
        cases u with
        | d u =>
          cases u with
          | int b =>
            intro w F1 H1 g r
            have r : w = .int b := r
            subst r
            refine ⟨a, b, rfl, rfl, ?_⟩
            have p : PostS X.K (mgX X) W H F H σ ρ (setSl i (.d (.int (hI a b))) ρ1) Dn := p
            rcases setSl_nx (i := i) (u := .d (.int (hI a b))) (ρ := ρ1) with z | ⟨ρ', z⟩
            · rw [z] at p
              exact p.elim
            · refine setSl_wish (u := .d (.int (hI a b))) (x := .int (hI a b)) g rfl (fun σ' ρ2 q2 g2 => ?_) (by rw [z]; exact fun z => nomatch z)
              rw [q2] at p
              exact p σ' F1 H1 g2
          | _ => exact p.elim
        | f m => exact p.elim
        | s j => exact p.elim
    · exact p.elim

/-! ### what is walked -/
/-- J walks the data of xs, which F holds -/
def Wk (K : PySem.W.Frag) (mg : Mg) (F : Hp) (xs : List D) (J : It) : Prop := ∃ (G : Hp → Prop) (Y : Nat → Hp → V → Hp → Prop), Walk J xs.length G Y ∧
  ∀ F2 H2, Sub F F2 → Sub F2 H2 → G H2 ∧ ∀ i x v H3, xs[i]? = some x → Y i H2 v H3 → ∃ F3, Ext F2 H2 F3 H3 ∧ Rep K mg F3 x v
abbrev relI (K : PySem.W.Frag) (mg : Mg) (σ : L2.St) : Tell (List D) It := fun _ F _ _ => Wk K mg F
abbrev DI (X : Cx) (W : WX) (tg iter : Expr) (f : Rho → R (List D)) : Prop := PI X tg iter (tG X.K (mgX X) (relI X.K (mgX X)) W f)
theorem PI.weak {X : Cx} {tg e : Expr} {t u : TI} (h : PI X tg e t) (m : ∀ σ H Q, u σ H Q → t σ H Q) : PI X tg e u := ⟨fun pins s σ H R I w => h.run pins s σ H R I (m σ H R w)⟩
theorem Go.ext {K : PySem.W.Frag} {mg : Mg} {F H F1 H1 F2 H2 : Hp} {σ σ1 : L2.St} {ρ ρ1 : Rho} (g : Go K mg F H σ ρ F1 H1 σ1 ρ1) (e : Ext F1 H1 F2 H2) : Go K mg F H σ ρ F2 H2 σ1 ρ1 := g.trans (e.go g.rs)
theorem drop_at {α : Type} {xs : List α} {i : Nat} {x : α} (h : xs[i]? = some x) : xs.drop i = x :: xs.drop (i + 1) := by
  obtain ⟨hl, e⟩ := List.getElem?_eq_some_iff.mp h
  rw [List.drop_eq_getElem_cons hl, e]
theorem ds_for {fi : Rho → R (List D)} {body : List Stmt} (hp : PassesOwn (model X.prog X.w) X.A X.env X.xe) (hc : X.calm = true) (hi : DI X W tg iter fi) (hg : DG X tg is h) (hb : DSs X W body s)
    (hs : ∀ x, foldedSetIterable iter X.env x = pure x := by intro _; rfl) : DS X W (.For tg iter body [] pos) (sFor fi h s) := by
  obtain ⟨t, pt, st⟩ := hg
  refine PS.weak (ps_for hp hc hi pt hb hs) fun Dn σ H ⟨F, ρ, rs, p⟩ => ⟨F, ρ, rs, (PostS.bind0 p).mono fun J H1 ⟨F1, ρ1, xs, g1, wk, p1⟩ => ?_⟩
  obtain ⟨G, Y, walk, stays⟩ := wk
  refine for_it walk (fun i σ' H' => ∃ F' ρ', Go X.K (mgX X) F1 H1 σ ρ1 F' H' σ' ρ' ∧ PostS X.K (mgX X) W H F' H' σ' ρ' (forL h s (xs.drop i) ρ') Dn) ⟨F1, ρ1, Go.refl g1.rs, p1⟩ (fun i σ' H' _ ⟨F', ρ', g', _⟩ => (stays F' H' g'.fro g'.rs.sub).1) (fun i v σ' H' H'' hi ⟨F', ρ', g', p'⟩ hy => ?_) fun σ' H' ⟨F', ρ', g', p'⟩ => ?_
  · have hx : xs[i]? = some xs[i] := List.getElem?_eq_getElem hi
    obtain ⟨F'', ext, rep⟩ := (stays F' H' g'.fro g'.rs.sub).2 i _ v H'' hx hy
    rw [drop_at hx] at p'
    unfold forL at p'
    split at p'
    · exact p'.elim
    · rename_i ρ2 e2
      refine st ((Go.refl g'.rs).ext ext) rep e2 fun σ2 g3 _ _ => ⟨F'', ρ2, g3.rs, ?_⟩
      have l : ∀ b, H'' b = none → H b = none := fun b z => g1.live (g'.live (g3.live z))
      refine PostS.rebase l ?_
      cases q : s ρ2 with
      | nx ρ3 =>
        rw [q] at p'
        exact fun σ3 F3 H3 g4 => ⟨F3, ρ3, (g'.trans g3).trans g4, p'.step (g3.trans g4)⟩
      | ct ρ3 =>
        rw [q] at p'
        exact fun σ3 F3 H3 g4 => ⟨F3, ρ3, (g'.trans g3).trans g4, p'.step (g3.trans g4)⟩
      | bk ρ3 =>
        rw [q] at p'
        exact fun σ3 F3 H3 g4 => p' σ3 F3 H3 (g3.trans g4)
      | rt x ρ3 =>
        rw [q] at p'
        exact fun v σ3 F3 H3 g4 => p' v σ3 F3 H3 (g3.trans g4)
      | ex c fs ρ3 =>
        rw [q] at p'
        exact fun d σ3 F3 H3 vfs g4 => p' d σ3 F3 H3 vfs (g3.trans g4)
      | no =>
        rw [q] at p'
        exact p'.elim
  · rw [List.drop_length] at p'
    exact p' σ' F' H' (Go.refl g'.rs)
end
end L3

set_option Elab.async false
set_option linter.all false
set_option maxRecDepth 100000
set_option maxHeartbeats 4000000
namespace L3
open PySem PySem.Spec PyProof.Rows L2
section
variable {X : Cx} {W : WX} {e a b c tg iter elt : Expr} {es : List Expr} {f g f' : Rho → R Vl} {s t : Rho → SR} {cd : Rho → R Bool} {l : Rho → R (List Vl)} {pos : Pos} {st : Stmt} {sts : List Stmt} {is js : List Nat} {h h' : Tg} {hs : List Tg}
theorem ds_while {body : List Stmt} (n : Rho → Nat) (hp : PassesOwn (model X.prog X.w) X.A X.env X.xe) (hc : DT X W c cd) (hb : DSs X W body s) : DS X W (.While c body [] pos) (sWh n cd s) :=
  PS.weak (ps_while hp hc hb) fun Dn σ H ⟨F, ρ, rs, p⟩ => by
    refine ⟨fun m σ' H' => ∃ F' ρ', Go X.K (mgX X) F H σ ρ F' H' σ' ρ' ∧ PostS X.K (mgX X) W H F' H' σ' ρ' (whL cd s m ρ') Dn, ⟨n ρ, F, ρ, Go.refl rs, p⟩, fun m σ' H' ⟨F', ρ', g', p'⟩ => ?_⟩
    cases m with
    | zero => exact p'.elim
    | succ m =>
      refine ⟨F', ρ', g'.rs, ?_⟩
      unfold whL at p'
      cases q : cd ρ' with
      | no =>
        rw [q] at p'
        exact p'.elim
      | ex cc fs ρ1 =>
        rw [q] at p'
        exact fun d F2 H2 vfs g2 n => p' d σ' F2 H2 vfs g2 (g'.live n)
      | ok k ρ1 =>
        rw [q] at p'
        intro k' F1 H1 g1 e
        cases (show k = k' from e)
        cases k with
        | false =>
          rw [if_neg Bool.false_ne_true]
          exact p' σ' F1 H1 g1
        | true =>
          rw [if_pos rfl]
          refine ⟨fun σ2 H2 => ∃ F2 ρ2, Go X.K (mgX X) F H σ ρ F2 H2 σ2 ρ2 ∧ PostS X.K (mgX X) W H F2 H2 σ2 ρ2 (whL cd s m ρ2) Dn, fun σ2 H2 z => ⟨m, Nat.lt_succ_self m, z⟩, F1, ρ1, g1.rs, ?_⟩
          have p2 : PostS X.K (mgX X) W H F' H' σ' ρ' (match s ρ1 with
            | .nx ρ2 => whL cd s m ρ2
            | .ct ρ2 => whL cd s m ρ2
            | .bk ρ2 => .nx ρ2
            | .rt x ρ2 => .rt x ρ2
            | .ex c fs ρ2 => .ex c fs ρ2
            | .no => .no) Dn := p'
          refine PostS.rebase (fun b z => g'.live (g1.live z)) ?_
          cases q2 : s ρ1 with
          | nx ρ3 =>
            rw [q2] at p2
            exact fun σ3 F3 H3 g4 => ⟨F3, ρ3, (g'.trans g1).trans g4, p2.step (g1.trans g4)⟩
          | ct ρ3 =>
            rw [q2] at p2
            exact fun σ3 F3 H3 g4 => ⟨F3, ρ3, (g'.trans g1).trans g4, p2.step (g1.trans g4)⟩
          | bk ρ3 =>
            rw [q2] at p2
            exact fun σ3 F3 H3 g4 => p2 σ3 F3 H3 (g1.trans g4)
          | rt x ρ3 =>
            rw [q2] at p2
            exact fun v σ3 F3 H3 g4 => p2 v σ3 F3 H3 (g1.trans g4)
          | ex c fs ρ3 =>
            rw [q2] at p2
            exact fun d σ3 F3 H3 vfs g4 => p2 d σ3 F3 H3 vfs (g1.trans g4)
          | no =>
            rw [q2] at p2
            exact p2.elim

/-! ### iterables -/
/-- over a list, a tuple, as it stands (a list is frozen) -/
def iSq (f : Rho → R Vl) : Rho → R (List D) := bnd (eFz f) fun x ρ => match x with
  | .d (.lst xs) => .ok xs ρ
  | .d (.tup xs) => .ok xs ρ
  | .d (.ro xs) => .ok xs ρ
  | _ => .no
def iSt (f : Rho → R Vl) : Rho → R (List D) := bnd f fun x ρ => match x with
  | .d (.str z) => .ok (z.cps.toList.map fun c => .str ⟨#[c]⟩) ρ
  | _ => .no
def rngD (a b : Int) : List D := (List.range (b - a).toNat).map fun (i : Nat) => .int (a + (i : Int))
def asI : Vl → Option Int
  | .d (.int i) => some i
  | _ => none
theorem asI_some {u : Vl} {i : Int} (h : asI u = some i) : u = .d (.int i) := by
  unfold asI at h
  split at h
  · cases h
    rfl
  · cases h
def iR1 (f : Rho → R Vl) : Rho → R (List D) := bnd f fun x ρ => match asI x with
  | some b => if b < 1000000 ∧ -1000000 < b then .ok (rngD 0 b) ρ else .no
  | none => .no
def iR2 (f g : Rho → R Vl) : Rho → R (List D) := bnd f fun x => bnd g fun y ρ => match asI x with
  | some a => match asI y with
    | some b => if a < 1000000 ∧ -1000000 < a ∧ b < 1000000 ∧ -1000000 < b then .ok (rngD a b) ρ else .no
    | none => .no
  | none => .no
/-- a list or a tuple is walked -/
def iLT (K : PySem.W.Frag) (te : TE) : TI := fun σ H R => te σ H fun x H1 => ∃ a, x = .ref a ∧ (((∃ xs, SqL K H1 a xs) ∧ R (Itl K a) H1) ∨ ((∃ xs, SqT K H1 a xs) ∧ R (Itt K a) H1))
theorem pi_lt {te : TE} (he : PE X e te) : PI X tg e (iLT X.K te) := by
  refine ⟨fun pins s σ H R I w => thn (he.run pins s σ H _ I w) fun v s1 ⟨x, H1, I1, r1, q1⟩ => ?_⟩
  obtain ⟨a, ex, q⟩ := q1
  subst ex
  have ev : v = Value.ref a := r1
  subst ev
  have I2 : ∀ o : Obj, Inv X pins σ H1 { s1 with heap := s1.heap.push o } := fun o => I1.kept (t' := s1.toks) fun b u z => Heap.get?_push_of_some _ z
  have fp : ∀ b ∈ [s1.heap.objs.size], FpOk X pins H1 b := fun b hb => by
    rw [List.mem_singleton.mp hb]
    exact I1.fpOk (Nat.le_refl _) (I1.hok.fresh (Nat.le_refl _))
  rcases q with ⟨⟨xs, hq⟩, q⟩ | ⟨⟨xs, hq⟩, q⟩
  · obtain ⟨its, _, pl, _⟩ := I1.list hq
    exact wpAny_pyIter_list pl.isList ⟨_, _, _, _, H1, rfl, I2 _, turn_list a _, ⟨_, Heap.get?_push_size _ rfl, rfl, rfl⟩, fp, q⟩
  · obtain ⟨its, _, pl, _⟩ := I1.tuple hq
    exact wpAny_pyIter_tuple (show s1.heap.IsTuple a its.toArray from pl) ⟨_, _, _, _, H1, rfl, I2 _, turn_tuple a _, ⟨_, Heap.get?_push_size _ rfl, rfl, rfl⟩, fp, q⟩
theorem wk_list {K : PySem.W.Frag} {mg : Mg} {F : Hp} {xs : List D} {vs : List V} {p : Addr} (q : SqL K F p vs) (r : Reps K mg F xs vs) : Wk K mg F xs (Itl K p) := by
  have w := walk_list (K := K) (a := p) (xs := vs)
  rw [r.length] at w
  refine ⟨_, _, w, fun F2 H2 a1 a2 => ⟨sub_l a2 (sub_l a1 q), fun i x v H3 hx hy => ?_⟩⟩
  obtain ⟨e, hv⟩ := hy
  subst e
  obtain ⟨v', h1, h2⟩ := r.get hx
  rw [hv] at h1
  cases h1
  exact ⟨F2, Ext.refl a2, h2.mono a1⟩
theorem wk_tup {K : PySem.W.Frag} {mg : Mg} {F : Hp} {xs : List D} {vs : List V} {p : Addr} (q : SqT K F p vs) (r : Reps K mg F xs vs) : Wk K mg F xs (Itt K p) := by
  have w := walk_tup (K := K) (a := p) (xs := vs)
  rw [r.length] at w
  refine ⟨_, _, w, fun F2 H2 a1 a2 => ⟨sub_t a2 (sub_t a1 q), fun i x v H3 hx hy => ?_⟩⟩
  obtain ⟨e, hv⟩ := hy
  subst e
  obtain ⟨v', h1, h2⟩ := r.get hx
  rw [hv] at h1
  cases h1
  exact ⟨F2, Ext.refl a2, h2.mono a1⟩
theorem di_sq (he : DE X W e f) : DI X W tg e (iSq f) :=
  PI.weak (pi_lt (de_fz he)) fun σ H Q ⟨F, ρ, rs, p⟩ => ⟨F, ρ, rs, (Post.bind0 p).mono fun x H1 ⟨F1, ρ1, u, g1, r1, p1⟩ => by
    split at p1
    · obtain ⟨a, vs, e1, q, r⟩ := r1
      exact ⟨a, e1, .inl ⟨⟨vs, .inl (.inl (g1.rs.sub _ _ q))⟩, p1 _ F1 H1 (Go.refl g1.rs) (wk_list (.inl (.inl q)) r)⟩⟩
    · obtain ⟨a, vs, e1, q, r⟩ := r1
      exact ⟨a, e1, .inr ⟨⟨vs, sub_t g1.rs.sub q⟩, p1 _ F1 H1 (Go.refl g1.rs) (wk_tup q r)⟩⟩
    · obtain ⟨a, vs, e1, q, r⟩ := r1
      exact ⟨a, e1, .inl ⟨⟨vs, sub_l g1.rs.sub q⟩, p1 _ F1 H1 (Go.refl g1.rs) (wk_list q r)⟩⟩
    · exact p1.elim⟩
theorem di_st (he : DE X W e f) : DI X W tg e (iSt f) :=
  PI.weak (pi_str he) fun σ H Q ⟨F, ρ, rs, p⟩ => ⟨F, ρ, rs, (Post.bind0 p).mono fun x H1 ⟨F1, ρ1, u, g1, r1, p1⟩ => by
    split at p1
    · rename_i z
      have w : Walk (Its z) (z.cps.toList.map fun c => D.str ⟨#[c]⟩).length (fun _ => True) (fun i H v H' => H' = H ∧ ∃ c, z.cps[i]? = some c ∧ v = .str ⟨#[c]⟩) := by
        have : (z.cps.toList.map fun c => D.str ⟨#[c]⟩).length = z.cps.size := by simp
        rw [this]
        exact walk_str
      refine ⟨z, r1, p1 _ F1 H1 (Go.refl g1.rs) ⟨_, _, w, fun F2 H2 a1 a2 => ⟨trivial, fun i x v H3 hx hy => ?_⟩⟩⟩
      · obtain ⟨e, c, hc, hv⟩ := hy
        subst e
        subst hv
        rw [List.getElem?_map] at hx
        have : z.cps.toList[i]? = some c := by simpa using hc
        rw [this] at hx
        cases hx
        exact ⟨F2, Ext.refl a2, rfl⟩
    · exact p1.elim⟩
theorem wk_range {K : PySem.W.Frag} {mg : Mg} {F : Hp} {lo hi : Int} : Wk K mg F (rngD lo hi) (Itr lo (hi - lo).toNat) := by
  have w : Walk (Itr lo (hi - lo).toNat) (rngD lo hi).length (fun _ => True) (YFn fun i => .int (lo + i)) := by
    have : (rngD lo hi).length = (hi - lo).toNat := by simp [rngD]
    rw [this]
    exact walk_range
  refine ⟨_, _, w, fun F2 H2 a1 a2 => ⟨trivial, fun i x v H3 hx hy => ?_⟩⟩
  · obtain ⟨e, hv⟩ := hy
    subst e
    subst hv
    unfold rngD at hx
    rw [List.getElem?_map] at hx
    obtain ⟨j, hj, hx⟩ := Option.map_eq_some_iff.mp hx
    obtain ⟨hl, e⟩ := List.getElem?_eq_some_iff.mp hj
    rw [List.getElem_range] at e
    subst e
    subst hx
    exact ⟨F2, Ext.refl a2, rfl⟩
theorem di_r1 {p : Pos} (hg : Gl X "range") (hm : X.mg "range" = none) (ha : DE X W a f) (hs : starEach [a] X.env = [(false, eval a X.env)] := by rfl) (hs2 : starEach [a] X.env = (false, eval a X.env) :: starEach [] X.env := by rfl) : DI X W tg (.Call (.Name "range" p) [a] [] pos) (iR1 f) :=
  PI.weak (pi_range1 hg hm (pa_cons ha pa_nil hs2) hs) fun σ H Q ⟨F, ρ, rs, p⟩ => ⟨F, ρ, rs, (Post.bind0 p).mono fun x H1 ⟨F1, ρ1, u, g1, r1, p1⟩ => by
    split at p1
    · rename_i k hk
      split at p1
      · rename_i hz
        cases asI_some hk
        cases (show x = .int k from r1)
        refine ⟨k, rfl, by omega, by omega, ?_⟩
        have := p1 (Itr 0 (k - 0).toNat) F1 H1 (Go.refl g1.rs) wk_range
        rw [Int.sub_zero] at this
        exact this
      · exact p1.elim
    · exact p1.elim⟩
theorem di_r2 {p : Pos} (hg : Gl X "range") (hm : X.mg "range" = none) (ha : DE X W a f) (hb : DE X W b g) (hs : starEach [a, b] X.env = [(false, eval a X.env), (false, eval b X.env)] := by rfl) (hs2 : starEach [b] X.env = [(false, eval b X.env)] := by rfl)
    (h1 : starEach [a, b] X.env = (false, eval a X.env) :: starEach [b] X.env := by rfl) (h2 : starEach [b] X.env = (false, eval b X.env) :: starEach [] X.env := by rfl) : DI X W tg (.Call (.Name "range" p) [a, b] [] pos) (iR2 f g) :=
  PI.weak (pi_range2 hg hm (pa_cons ha (pa_cons hb pa_nil h2) h1) hs hs2) fun σ H Q ⟨F, ρ, rs, p⟩ => ⟨F, ρ, rs, (Post.bind0 p).mono fun x H1 ⟨F1, ρ1, u, g1, r1, p1⟩ => ⟨F1, ρ1, g1.rs, (p1.bind fun b z => g1.live z).mono fun y H2 ⟨F2, ρ2, w, g2, r2, p2⟩ => by
    split at p2
    · rename_i i hi
      split at p2
      · rename_i j hj
        split at p2
        · rename_i hz
          cases asI_some hi
          cases asI_some hj
          cases (show x = .int i from r1)
          cases (show y = .int j from r2)
          exact ⟨i, j, rfl, ⟨by omega, by omega, by omega, by omega⟩, p2 _ F2 H2 (Go.refl g2.rs) wk_range⟩
        · exact p2.elim
      · exact p2.elim
    · exact p2.elim⟩⟩
end
end L3

set_option Elab.async false
set_option linter.all false
set_option maxRecDepth 100000
set_option maxHeartbeats 4000000
namespace L3
open PySem PySem.Spec PyProof.Rows L2
/-- the slots vs forgotten -/
def wipeR (ρ : Rho) : List Nat → Rho
  | [] => ρ
  | v :: vs => (wipeR ρ vs).set v .un
/-- the slots vs as they were in ρ0 -/
def restR (ρ0 ρ : Rho) : List Nat → Rho
  | [] => ρ
  | v :: vs => match ρ0[v]? with
    | some s => (restR ρ0 ρ vs).set v s
    | none => restR ρ0 ρ vs
def lcL (g : Tg) (tt : Rho → R Bool) (te : Rho → R Vl) (vs : List Nat) : List D → Rho → List D → R (List D)
  | [], ρ, acc => .ok acc ρ
  | x :: xs, ρ, acc => match g x (wipeR ρ vs) with
    | none => .no
    | some ρ1 => match tt ρ1 with
      | .ok false ρ2 => lcL g tt te vs xs ρ2 acc
      | .ok true ρ2 => match te ρ2 with
        | .ok (.d a) ρ3 => if acc.length < 100000 then lcL g tt te vs xs ρ3 (acc ++ [a]) else .no
        | _ => .no
      | _ => .no
def lcEnd (ρ0 : Rho) (vs : List Nat) (r : R (List D)) : R Vl := match r with
  | .ok acc ρ' => .ok (.f (.lst acc)) (restR ρ0 ρ' vs)
  | _ => .no
def eLc (fi : Rho → R (List D)) (g : Tg) (tt : Rho → R Bool) (te : Rho → R Vl) (vs : List Nat) : Rho → R Vl := bnd fi fun xs ρ => lcEnd ρ vs (lcL g tt te vs xs ρ [])
def tYe : Rho → R Bool := fun ρ => .ok true ρ

theorem wipeR_len (ρ : Rho) : ∀ vs : List Nat, (wipeR ρ vs).length = ρ.length
  | [] => rfl
  | v :: vs => by unfold wipeR; rw [List.length_set, wipeR_len ρ vs]
theorem wipeR_get {ρ : Rho} {i : Nat} {s : Sl} : ∀ {vs : List Nat}, (wipeR ρ vs)[i]? = some s → (s = .un ∧ i ∈ vs) ∨ (i ∉ vs ∧ ρ[i]? = some s)
  | [], h => .inr ⟨List.not_mem_nil, h⟩
  | v :: vs, h => by
    unfold wipeR at h
    rcases getElem?_set_cases h with ⟨rfl, e, _⟩ | ⟨ne, h⟩
    · exact .inl ⟨e, List.mem_cons_self ..⟩
    · rcases wipeR_get h with ⟨e, m⟩ | ⟨m, e⟩
      · exact .inl ⟨e, List.mem_cons_of_mem _ m⟩
      · exact .inr ⟨fun z => (List.mem_cons.mp z).elim ne m, e⟩
theorem wipeR_out {ρ : Rho} {i : Nat} : ∀ {vs : List Nat}, i ∉ vs → (wipeR ρ vs)[i]? = ρ[i]?
  | [], _ => rfl
  | v :: vs, h => by
    unfold wipeR
    rw [List.getElem?_set_ne fun e => h (by rw [e]; exact List.mem_cons_self ..)]
    exact wipeR_out fun m => h (List.mem_cons_of_mem _ m)
theorem restR_len (ρ0 ρ : Rho) : ∀ vs : List Nat, (restR ρ0 ρ vs).length = ρ.length
  | [] => rfl
  | v :: vs => by
    unfold restR
    split
    · rw [List.length_set, restR_len ρ0 ρ vs]
    · exact restR_len ρ0 ρ vs
theorem restR_get {ρ0 ρ : Rho} (hl : ρ0.length = ρ.length) {i : Nat} : ∀ {vs : List Nat}, (restR ρ0 ρ vs)[i]? = if i ∈ vs then ρ0[i]? else ρ[i]?
  | [] => by rw [if_neg List.not_mem_nil]; rfl
  | v :: vs => by
    unfold restR
    by_cases e : i = v
    · subst e
      rw [if_pos (List.mem_cons_self ..)]
      split
      · rename_i s hs
        rw [List.getElem?_set_self]
        · exact hs.symm
        · rw [restR_len, ← hl]
          exact (List.getElem?_eq_some_iff.mp hs).1
      · rename_i hs
        rw [hs]
        refine List.getElem?_eq_none ?_
        rw [restR_len, ← hl]
        exact List.getElem?_eq_none_iff.mp hs
    · have q : (i ∈ v :: vs) ↔ i ∈ vs := ⟨fun m => (List.mem_cons.mp m).elim (fun z => absurd z e) id, List.mem_cons_of_mem _⟩
      simp only [q]
      rw [← restR_get hl (vs := vs)]
      split
      · rw [List.getElem?_set_ne (Ne.symm e)]
      · rfl
theorem wipe_congr {σ σ' : L2.St} (hl : σ'.length = σ.length) : ∀ {vs : List Nat}, (∀ j, j ∉ vs → σ'[j]? = σ[j]?) → wipe σ' vs = wipe σ vs := fun {vs} h => by
  apply List.ext_getElem?
  intro j
  by_cases m : j ∈ vs
  · have key : ∀ {τ : L2.St} {vs : List Nat}, j ∈ vs → (wipe τ vs)[j]? = if j < τ.length then some none else none := by
      intro τ vs
      induction vs with
      | nil => intro m; cases m
      | cons v vs ih =>
        intro m
        unfold wipe
        by_cases e : v = j
        · subst e
          by_cases hlt : v < τ.length
          · rw [if_pos hlt, List.getElem?_set_self (by rw [wipe_length]; exact hlt)]
          · rw [if_neg hlt, List.getElem?_eq_none (by rw [List.length_set, wipe_length]; omega)]
        · rw [List.getElem?_set_ne e]
          exact ih ((List.mem_cons.mp m).elim (fun z => absurd z.symm e) id)
    rw [key m, key m, hl]
  · rw [wipe_out m, wipe_out m, h j m]
theorem wipe_wipe (σ : L2.St) (vs : List Nat) : wipe (wipe σ vs) vs = wipe σ vs := wipe_congr (wipe_length σ vs) fun j h => wipe_out h

section
variable {K : PySem.W.Frag} {mg : Mg} {F H F1 H1 F2 H2 H0 Hb : Hp} {σ σ1 σ2 : L2.St} {ρ ρ1 ρ2 : Rho} {vs : List Nat}
theorem own_wipe {b : Addr} (h : Own (wipe σ vs) (wipeR ρ vs) b) : Own σ ρ b := by
  obtain ⟨i, q, m, e1, e2⟩ := h
  rcases wipeR_get e1 with ⟨e, _⟩ | ⟨_, e⟩
  · cases e
  · exact ⟨i, q, m, e, (wipe_some e2).1⟩
theorem RS.wipe (r : RS K mg F H σ ρ) (vs : List Nat) : RS K mg F H (wipe σ vs) (wipeR ρ vs) where
  len := by rw [wipe_length, wipeR_len]; exact r.len
  sub := r.sub
  dat := fun h => by
    rcases wipeR_get h with ⟨e, _⟩ | ⟨m, e⟩
    · cases e
    · rw [wipe_out m]
      exact r.dat e
  own := fun h => by
    rcases wipeR_get h with ⟨e, _⟩ | ⟨m, e⟩
    · cases e
    · rw [wipe_out m]
      exact r.own e
  apart := fun h1 h2 a b => by
    rcases wipeR_get h1 with ⟨e, _⟩ | ⟨m, e1⟩
    · cases e
    · rcases wipeR_get h2 with ⟨e, _⟩ | ⟨m2, e2⟩
      · cases e
      · rw [wipe_out m] at a
        rw [wipe_out m2] at b
        exact r.apart e1 e2 a b
  exs := fun h => by
    rcases wipeR_get h with ⟨e, _⟩ | ⟨m, e⟩
    · cases e
    · rw [wipe_out m]
      exact r.exs e
/-- behind a turn the block's names go -/
theorem Go.wipe (g : Go K mg F H σ ρ F1 H1 σ1 ρ1) (hs : ∀ i, i ∉ vs → σ1[i]? = σ[i]?) (hw : L2.wipe σ vs = σ) (hw1 : wipeR ρ vs = ρ) : Go K mg F H σ ρ F1 H1 (L2.wipe σ1 vs) (wipeR ρ1 vs) where
  rs := g.rs.wipe vs
  fro := g.fro
  keep := g.keep
  live := g.live
  new := g.new
  own := fun h => g.own (own_wipe h)
  par := fun {i m} h => by
    obtain ⟨e, m', q⟩ := g.par h
    have ni : i ∉ vs := fun z => by
      rw [← hw1] at h
      rcases wipeR_get h with ⟨e, _⟩ | ⟨n, _⟩
      · cases e
      · exact n z
    exact ⟨by rw [wipe_out ni]; exact e, m', by rw [wipeR_out ni]; exact q⟩
theorem wipeR_wipeR (ρ : Rho) (vs : List Nat) : wipeR (wipeR ρ vs) vs = wipeR ρ vs := by
  apply List.ext_getElem?
  intro j
  by_cases m : j ∈ vs
  · have key : ∀ {τ : Rho} {vs : List Nat}, j ∈ vs → (wipeR τ vs)[j]? = if j < τ.length then some .un else none := by
      intro τ vs
      induction vs with
      | nil => intro m; cases m
      | cons v vs ih =>
        intro m
        unfold wipeR
        by_cases e : v = j
        · subst e
          by_cases hlt : v < τ.length
          · rw [if_pos hlt, List.getElem?_set_self (by rw [wipeR_len]; exact hlt)]
          · rw [if_neg hlt, List.getElem?_eq_none (by rw [List.length_set, wipeR_len]; omega)]
        · rw [List.getElem?_set_ne e]
          exact ih ((List.mem_cons.mp m).elim (fun z => absurd z.symm e) id)
    rw [key m, key m, wipeR_len]
  · rw [wipeR_out m]
/-- an object that was not there changes -/
theorem Go.mutF {p : Addr} {o : HO} (g : Go K mg F H σ ρ F1 H1 σ1 ρ1) (n : H p = none) (nf : F1 p = none) (no : ¬ Own σ1 ρ1 p) (nx : ∀ fs, H1 p ≠ some (.xd fs)) : Go K mg F H σ ρ F1 (upd H1 p o) σ1 ρ1 where
  rs := {
    len := g.rs.len
    sub := fun a u h => by
      have ne : a ≠ p := fun z => by
        rw [z, nf] at h
        cases h
      rw [upd_ne ne]
      exact g.rs.sub a u h
    dat := g.rs.dat
    own := fun {i q m} h => by
      obtain ⟨c, a, b, r⟩ := g.rs.own h
      have ne : c ≠ p := fun z => no ⟨i, q, m, h, by rw [← z]; exact a⟩
      exact ⟨c, a, b, r.mono (Sub.refl _) (upd_ne ne)⟩
    apart := g.rs.apart
    exs := fun {i fs} h => by
      obtain ⟨a0, d, vfs, hc, a, b, c, r⟩ := g.rs.exs h
      have ne : d ≠ p := fun z => by
        rw [z] at c
        exact nx vfs c
      exact ⟨a0, d, vfs, hc, a, b, by rw [upd_ne ne]; exact c, r⟩ }
  fro := g.fro
  keep := fun {b u} h k => by
    rw [upd_ne (ne_of_none h n)]
    exact g.keep h k
  live := fun {b} h => by
    by_cases e : b = p
    · rw [e, upd_same] at h
      cases h
    · rw [upd_ne e] at h
      exact g.live h
  new := g.new
  own := g.own
  par := g.par
/-- the block's end: its names as they were -/
theorem Go.rest (r : RS K mg F H σ ρ) (g : Go K mg F H (L2.wipe σ vs) (wipeR ρ vs) F1 H1 (L2.wipe σ vs) (wipeR ρ1 vs)) : Go K mg F H σ ρ F1 H1 σ (restR ρ ρ1 vs) := by
  have hl : ρ.length = ρ1.length := by
    have a := g.rs.len
    rw [wipe_length, wipeR_len] at a
    exact r.len.symm.trans a
  -- an object of a forgotten slot stays
  have old : ∀ {i : Nat} {q : Bool} {m : MO} {p : Addr}, i ∈ vs → ρ[i]? = some (.o q m) → σ[i]? = some (some (.ref p)) → ¬ Own (L2.wipe σ vs) (wipeR ρ vs) p := fun {i q m p} hi h a ⟨j, q', m', e1, e2⟩ => by
    rcases wipeR_get e1 with ⟨e, _⟩ | ⟨n, e⟩
    · cases e
    · have := r.apart h e a (wipe_some e2).1
      subst this
      exact n hi
  have there : ∀ {i : Nat} {q : Bool} {m : MO} {p : Addr}, ρ[i]? = some (.o q m) → σ[i]? = some (some (.ref p)) → ∃ o, H p = some o := fun h a => by
    obtain ⟨p', a', _, rm⟩ := r.own h
    rw [a] at a'
    cases a'
    obtain ⟨vs, t⟩ := rm.there
    exact ⟨_, t⟩
  have back : ∀ {b : Addr} {i : Nat} {q : Bool} {m : MO}, i ∉ vs → ρ1[i]? = some (.o q m) → σ[i]? = some (some (.ref b)) → Own (L2.wipe σ vs) (wipeR ρ vs) b ∨ H b = none := fun {b i q m} hi h a => g.own ⟨i, q, m, by rw [wipeR_out hi]; exact h, by rw [wipe_out hi]; exact a⟩
  exact {
    rs := {
      len := by rw [restR_len, ← hl]; exact r.len
      sub := g.rs.sub
      dat := fun {i x} h => by
        rw [restR_get hl] at h
        split at h
        · obtain ⟨v, a, b⟩ := r.dat h
          exact ⟨v, a, b.mono g.fro⟩
        · rename_i hi
          have := g.rs.dat (i := i) (x := x) (by rw [wipeR_out hi]; exact h)
          rw [wipe_out hi] at this
          exact this
      own := fun {i q m} h => by
        rw [restR_get hl] at h
        split at h
        · rename_i hi
          obtain ⟨p, a, b, rm⟩ := r.own h
          obtain ⟨vs', t⟩ := rm.there
          have no := old hi h a
          exact ⟨p, a, g.freshF b ⟨_, t⟩ no, rm.mono g.fro (by rw [g.keep t no, t])⟩
        · rename_i hi
          have := g.rs.own (i := i) (q := q) (m := m) (by rw [wipeR_out hi]; exact h)
          rw [wipe_out hi] at this
          exact this
      apart := fun {i j q q' m m' p} h1 h2 a b => by
        rw [restR_get hl] at h1 h2
        split at h1
        · rename_i hi
          split at h2
          · exact r.apart h1 h2 a b
          · rename_i hj
            exfalso
            rcases back hj h2 b with z | z
            · exact old hi h1 a z
            · obtain ⟨o, t⟩ := there h1 a
              rw [t] at z
              cases z
        · rename_i hi
          split at h2
          · rename_i hj
            exfalso
            rcases back hi h1 a with z | z
            · exact old hj h2 b z
            · obtain ⟨o, t⟩ := there h2 b
              rw [t] at z
              cases z
          · rename_i hj
            exact g.rs.apart (by rw [wipeR_out hi]; exact h1) (by rw [wipeR_out hj]; exact h2) (by rw [wipe_out hi]; exact a) (by rw [wipe_out hj]; exact b)
      exs := fun {i fs} h => by
        rw [restR_get hl] at h
        split at h
        · obtain ⟨a0, d, vfs, hc, a, b, c, f⟩ := r.exs h
          have no : ¬ Own (L2.wipe σ vs) (wipeR ρ vs) d := fun z => by
            obtain ⟨_, m, rm⟩ := (own_wipe z).some r
            obtain ⟨ws, t⟩ := rm.there
            rw [c] at t
            cases t
          exact ⟨a0, d, vfs, hc, a, g.freshF b ⟨_, c⟩ no, g.keep c no, f.mono g.fro⟩
        · rename_i hi
          have := g.rs.exs (i := i) (fs := fs) (by rw [wipeR_out hi]; exact h)
          rw [wipe_out hi] at this
          exact this }
    fro := g.fro
    keep := fun h no => g.keep h fun z => no (own_wipe z)
    live := g.live
    new := fun h => by
      rcases g.new h with z | z | z
      · exact .inl z
      · exact .inr (.inl z)
      · exact .inr (.inr (own_wipe z))
    own := fun {b} ⟨i, q, m, h, a⟩ => by
      rw [restR_get hl] at h
      split at h
      · exact .inl ⟨i, q, m, h, a⟩
      · rename_i hi
        exact (back hi h a).elim (fun z => .inl (own_wipe z)) .inr
    par := fun {i m} h => by
      refine ⟨rfl, ?_⟩
      rw [restR_get hl]
      split
      · exact ⟨m, h⟩
      · rename_i hi
        obtain ⟨_, m', q⟩ := g.par (i := i) (m := m) (by rw [wipeR_out hi]; exact h)
        rw [wipeR_out hi] at q
        exact ⟨m', q⟩ }
end
end L3

set_option Elab.async false
set_option linter.all false
set_option maxRecDepth 100000
set_option maxHeartbeats 4000000
namespace L3
open PySem PySem.Spec PyProof.Rows L2
abbrev WN : WX := fun _ _ _ _ => False
section
variable {K : PySem.W.Frag} {mg : Mg} {F H F1 H1 F2 H2 H0 Hb : Hp} {σ σ1 σ2 : L2.St} {ρ ρ1 ρ2 : Rho} {vs : List Nat}
theorem Go.aside {p : Addr} {o : HO} (g : Go K mg F H σ ρ F1 H1 σ1 ρ1) (h : H p = some o) (n : F p = none) (no : ¬ Own σ ρ p) : H1 p = some o ∧ F1 p = none ∧ ¬ Own σ1 ρ1 p := ⟨g.keep h no, g.freshF n ⟨o, h⟩ no, g.notOwn ⟨o, h⟩ no⟩
theorem lc_wish {W : WX} {fi : Rho → R (List D)} {h : Tg} {ct : Rho → R Bool} {fe : Rho → R Vl} {is : List Nat} {t : TG} {Q : VK} (st : Sto K mg is h t) (sub : ∀ i ∈ is, i ∈ vs) (w : tE K mg W (eLc fi h ct fe vs) σ H Q) :
    tLc (tG K mg (relI K mg) W fi) t (tT K mg WN ct) (tE K mg WN fe) vs σ H Q := by
  obtain ⟨F, ρ, rs, p⟩ := w
  refine ⟨F, ρ, rs, (Post.bind0 p).mono fun J H1 ⟨F1, ρ1, xs, g1, wk, p1⟩ => fun Dl hD => ?_⟩
  obtain ⟨G, Y, walk, stays⟩ := wk
  have noD : ¬ Own σ ρ1 Dl := fun z => by
    obtain ⟨_, m, rm⟩ := z.some g1.rs
    obtain ⟨ws, tt⟩ := rm.there
    rw [hD] at tt
    cases tt
  have start : RS K mg F1 H1 (wipe σ vs) (wipeR ρ1 vs) := g1.rs.wipe vs
  refine lc_it walk (fun i H' => ∃ F' ρ' acc accv, Go K mg F1 H1 (wipe σ vs) (wipeR ρ1 vs) F' H' (wipe σ vs) (wipeR ρ' vs) ∧ H' Dl = some (.lst accv) ∧ Reps K mg F' acc accv ∧ F' Dl = none ∧ ¬ Own (wipe σ vs) (wipeR ρ' vs) Dl ∧
    Post K mg (relV K mg σ) W H F1 H1 σ ρ1 (lcEnd ρ1 vs (lcL h ct fe vs (xs.drop i) ρ' acc)) Q) ?_ (fun i H' _ ⟨F', ρ', acc, accv, g, _⟩ => (stays F' H' g.fro g.rs.sub).1) (fun i v H' H'' hi ⟨F', ρ', acc, accv, g, d1, d2, d3, d4, p'⟩ hy => ?_) fun H' ⟨F', ρ', acc, accv, g, d1, d2, d3, d4, p'⟩ => ?_
  · exact ⟨F1, ρ1, [], [], (Go.refl start).ext (Ext.lay g1.rs.sub hD), upd_same, rfl, g1.rs.sub.none hD, fun z => noD (own_wipe z), p1⟩
  · have hx : xs[i]? = some xs[i] := List.getElem?_eq_getElem hi
    obtain ⟨F'', ext, rep⟩ := (stays F' H' g.fro g.rs.sub).2 i _ v H'' hx hy
    rw [drop_at hx] at p'
    unfold lcL at p'
    split at p'
    · exact p'.elim
    · rename_i ρ2 e2
      refine st ((Go.refl g.rs).ext ext) rep e2 fun σ2 gl s2 l2 => ?_
      have ag : ∀ j, j ∉ vs → σ2[j]? = (wipe σ vs)[j]? := fun j hj => s2 j fun z => hj (sub j z)
      have ew : wipe σ2 vs = wipe σ vs := (wipe_congr l2 ag).trans (wipe_wipe σ vs)
      refine ⟨ew, F'', ρ2, gl.rs, ?_⟩
      cases q : ct ρ2 with
      | no =>
        rw [q] at p'
        exact p'.elim
      | ex c fs ρ3 =>
        rw [q] at p'
        exact p'.elim
      | ok k ρ3 =>
        rw [q] at p'
        intro k' H3' H3 go3 ek
        cases (show k = k' from ek)
        have g3 := gl.trans go3
        cases k with
        | false =>
          rw [if_neg Bool.false_ne_true]
          obtain ⟨x1, x2, x3⟩ := g3.aside d1 d3 d4
          have gw := (g.trans g3).wipe (vs := vs) ag (wipe_wipe σ vs) (wipeR_wipeR ρ1 vs)
          rw [ew] at gw
          exact ⟨_, ρ3, acc, accv, gw, x1, d2.mono g3.fro, x2, fun z => x3 (own_wipe (by rw [ew]; exact z)), p'⟩
        | true =>
          rw [if_pos rfl]
          refine ⟨_, ρ3, go3.rs, ?_⟩
          have p2 : Post K mg (relV K mg σ) W H F1 H1 σ ρ1 (lcEnd ρ1 vs (match fe ρ3 with
            | .ok (.d a) ρ3 => if acc.length < 100000 then lcL h ct fe vs (xs.drop (i + 1)) ρ3 (acc ++ [a]) else .no
            | _ => .no)) Q := p'
          cases q2 : fe ρ3 with
          | no =>
            rw [q2] at p2
            exact p2.elim
          | ex c fs ρ4 =>
            rw [q2] at p2
            exact p2.elim
          | ok u ρ4 =>
            rw [q2] at p2
            cases u with
            | f m => exact p2.elim
            | s j => exact p2.elim
            | d a =>
              dsimp only at p2
              split at p2
              · rename_i hz
                intro y F4 H4 go4 ry
                have g4 := g3.trans go4
                obtain ⟨x1, x2, x3⟩ := g4.aside d1 d3 d4
                have gm := (g.trans g4).mutF (p := Dl) (o := .lst (accv ++ [y])) hD x2 x3 (fun fs z => by
                  rw [x1] at z
                  cases z)
                have gw := gm.wipe (vs := vs) ag (wipe_wipe σ vs) (wipeR_wipeR ρ1 vs)
                rw [ew] at gw
                exact ⟨accv, x1, lt_line (by rw [d2.length]; exact hz), F4, ρ4, acc ++ [a], accv ++ [y], gw, upd_same, (d2.mono g4.fro).append ⟨y, [], rfl, ry, rfl⟩, x2, fun z => x3 (own_wipe (by rw [ew]; exact z)), p2⟩
              · exact p2.elim
  · rw [List.drop_length] at p'
    have hl : ρ1.length = ρ'.length := by
      have a := g.rs.len
      rw [wipe_length, wipeR_len] at a
      exact g1.rs.len.symm.trans a
    refine p' _ F' H' (Go.rest g1.rs g) ⟨Dl, rfl, g1.live hD, d3, ⟨accv, d1, d2⟩, fun ⟨j, q, m, e1, e2⟩ => ?_⟩
    rw [restR_get hl] at e1
    split at e1
    · exact noD ⟨j, q, m, e1, e2⟩
    · rename_i hj
      exact d4 ⟨j, q, m, by rw [wipeR_out hj]; exact e1, by rw [wipe_out hj]; exact e2⟩
end
section
variable {X : Cx} {W : WX} {e a b c tg iter elt : Expr} {es ifs : List Expr} {f fe : Rho → R Vl} {s t : Rho → SR} {ct : Rho → R Bool} {pos spos : Pos} {is : List Nat} {h : Tg} {fi : Rho → R (List D)} {scope : Scope} {own : List (Str × Nat)}
abbrev DTs (X : Cx) (W : WX) (ifs : List Expr) (f : Rho → R Bool) : Prop := PTs X ifs (tT X.K (mgX X) W f)
theorem dts_nil : DTs X W [] tYe := PTs.weak pts_nil fun σ H Q ⟨F, ρ, rs, p⟩ => p true F H (Go.refl rs) rfl
theorem dts_one (h : DT X W c ct) : DTs X W [c] ct := pts_one h
theorem mg_blk {X : Cx} (hc : X.calm = true) {s : Shared} {H : Hp} {scope : Scope} {cenv : Env} {fp : List Addr} : mgX (X.blk s H scope cenv fp) = mgX X := by
  unfold mgX curX
  rw [if_pos hc, if_pos (show (X.blk s H scope cenv fp).calm = true from hc)]
theorem pe_blk {X : Cx} {W : WX} {e : Expr} {f : Rho → R Vl} (hc : X.calm = true) {s : Shared} {H : Hp} {scope : Scope} {cenv : Env} {fp : List Addr} (h : DE (X.blk s H scope cenv fp) W e f) : PE (X.blk s H scope cenv fp) e (tE X.K (mgX X) W f) := by
  have h : PE (X.blk s H scope cenv fp) e (tE X.K (mgX (X.blk s H scope cenv fp)) W f) := h
  rw [mg_blk hc] at h
  exact h
theorem pts_blk {X : Cx} {W : WX} {e : List Expr} {f : Rho → R Bool} (hc : X.calm = true) {s : Shared} {H : Hp} {scope : Scope} {cenv : Env} {fp : List Addr} (h : DTs (X.blk s H scope cenv fp) W e f) : PTs (X.blk s H scope cenv fp) e (tT X.K (mgX X) W f) := by
  have h : PTs (X.blk s H scope cenv fp) e (tT X.K (mgX (X.blk s H scope cenv fp)) W f) := h
  rw [mg_blk hc] at h
  exact h
theorem pi_blk {X : Cx} {W : WX} {tg e : Expr} {f : Rho → R (List D)} (hc : X.calm = true) {s : Shared} {H : Hp} {scope : Scope} {cenv : Env} {fp : List Addr} (h : DI (X.blk s H scope cenv fp) W tg e f) : PI (X.blk s H scope cenv fp) tg e (tG X.K (mgX X) (relI X.K (mgX X)) W f) := by
  have h : PI (X.blk s H scope cenv fp) tg e (tG X.K (mgX (X.blk s H scope cenv fp)) (relI X.K (mgX (X.blk s H scope cenv fp))) W f) := h
  rw [mg_blk hc] at h
  exact h
theorem de_lc (hc : X.calm = true) (hN : X.N.Nodup) (hi : DI X W tg iter fi) (ok : BlkOk X.N X.env.scope scope own) (t : TG) (sto : Sto X.K (mgX X) is h t) (sub : ∀ i ∈ is, i ∈ own.map (·.2))
    (hg : ∀ (s : Shared) (H : Hp) (C : Addr) (cl : List (Str × Addr)) (fp : List Addr), PG (X.blk s H scope (compEnvC scope cl C X.env) fp) tg t) (ht : ∀ (s : Shared) (H : Hp) (C : Addr) (cl : List (Str × Addr)) (fp : List Addr), DTs (X.blk s H scope (compEnvC scope cl C X.env) fp) WN ifs ct)
    (he : ∀ (s : Shared) (H : Hp) (C : Addr) (cl : List (Str × Addr)) (fp : List Addr), DE (X.blk s H scope (compEnvC scope cl C X.env) fp) WN elt fe) (hs : ∀ x, foldedSetIterable iter X.env x = pure x := by intro _; rfl) :
    DE X W (.ListComp elt [⟨tg, iter, ifs, 0⟩] scope pos) (eLc fi h ct fe (own.map (·.2))) :=
  PE.weak (pe_lc hc hN hi ok hg (fun s H C cl fp => pts_blk hc (ht s H C cl fp)) (fun s H C cl fp => pe_blk hc (he s H C cl fp)) hs) fun σ H Q w => lc_wish sto sub w
theorem ds_setLc {i : Nat} {y : Str} {py : Pos} (hc : X.calm = true) (hN : X.N.Nodup) (hy : X.N[i]? = some y) (hyl : X.env.scope.names.lookup y = some .local) (hsw : swapsWith (.ListComp elt [⟨tg, iter, ifs, 0⟩] scope pos) (some (.Name y py)) spos.line X.env = pure true)
    (hi : DI X W tg iter fi) (ok : BlkOk X.N X.env.scope scope own) (t : TG) (sto : Sto X.K (mgX X) is h t) (sub : ∀ i ∈ is, i ∈ own.map (·.2))
    (hg : ∀ (s : Shared) (H : Hp) (C : Addr) (cl : List (Str × Addr)) (fp : List Addr), PG (X.blk s H scope (compEnvC scope cl C X.env) fp) tg t) (ht : ∀ (s : Shared) (H : Hp) (C : Addr) (cl : List (Str × Addr)) (fp : List Addr), DTs (X.blk s H scope (compEnvC scope cl C X.env) fp) WN ifs ct)
    (he : ∀ (s : Shared) (H : Hp) (C : Addr) (cl : List (Str × Addr)) (fp : List Addr), DE (X.blk s H scope (compEnvC scope cl C X.env) fp) WN elt fe) (hs : ∀ x, foldedSetIterable iter X.env x = pure x := by intro _; rfl) :
    DS X W (.Assign [.Name y py] (.ListComp elt [⟨tg, iter, ifs, 0⟩] scope pos) spos) (sSet i (eLc fi h ct fe (own.map (·.2)))) :=
  PS.weak (ps_setLc hc hN hy hyl hsw hi ok hg (fun s H C cl fp => pts_blk hc (ht s H C cl fp)) (fun s H C cl fp => pe_blk hc (he s H C cl fp)) hs) fun Dn σ H ⟨F, ρ, rs, p⟩ => lc_wish sto sub (bind_set rs p)
end
end L3

set_option Elab.async false
set_option linter.all false
set_option maxRecDepth 100000
set_option maxHeartbeats 4000000
namespace L3
open PySem PySem.Spec PyProof.Rows L2
def lc2L (g : Tg) (tt : Rho → R Bool) (fi1 : Rho → R (List D)) (g1 : Tg) (tt1 : Rho → R Bool) (te : Rho → R Vl) (vs vs1 : List Nat) : List D → Rho → List D → R (List D)
  | [], ρ, acc => .ok acc ρ
  | x :: xs, ρ, acc => match g x (wipeR ρ vs) with
    | none => .no
    | some ρ1 => match tt ρ1 with
      | .ok false ρ2 => lc2L g tt fi1 g1 tt1 te vs vs1 xs ρ2 acc
      | .ok true ρ2 => match fi1 ρ2 with
        | .ok xs1 ρ3 => match lcL g1 tt1 te vs1 xs1 ρ3 acc with
          | .ok acc' ρ4 => lc2L g tt fi1 g1 tt1 te vs vs1 xs ρ4 acc'
          | _ => .no
        | _ => .no
      | _ => .no
def eLc2 (fi : Rho → R (List D)) (g : Tg) (tt : Rho → R Bool) (fi1 : Rho → R (List D)) (g1 : Tg) (tt1 : Rho → R Bool) (te : Rho → R Vl) (vs vs1 : List Nat) : Rho → R Vl := bnd fi fun xs ρ => lcEnd ρ vs (lc2L g tt fi1 g1 tt1 te vs vs1 xs ρ [])
theorem wipeR_sub {ρ : Rho} {vs vs1 : List Nat} (h : ∀ i ∈ vs1, i ∈ vs) : wipeR (wipeR ρ vs1) vs = wipeR ρ vs := by
  apply List.ext_getElem?
  intro j
  by_cases m : j ∈ vs
  · have key : ∀ {τ : Rho} {vs : List Nat}, j ∈ vs → (wipeR τ vs)[j]? = if j < τ.length then some .un else none := by
      intro τ vs
      induction vs with
      | nil => intro m; cases m
      | cons v vs ih =>
        intro m
        unfold wipeR
        by_cases e : v = j
        · subst e
          by_cases hlt : v < τ.length
          · rw [if_pos hlt, List.getElem?_set_self (by rw [wipeR_len]; exact hlt)]
          · rw [if_neg hlt, List.getElem?_eq_none (by rw [List.length_set, wipeR_len]; omega)]
        · rw [List.getElem?_set_ne e]
          exact ih ((List.mem_cons.mp m).elim (fun z => absurd z.symm e) id)
    rw [key m, key m, wipeR_len]
  · rw [wipeR_out m, wipeR_out m, wipeR_out fun z => m (h j z)]
section
variable {K : PySem.W.Frag} {mg : Mg} {F H F1 H1 F2 H2 H0 Hb : Hp} {σ σ1 σ2 : L2.St} {ρ ρ1 ρ2 : Rho} {vs vs1 : List Nat}
theorem lc2_wish {W : WX} {fi fi1 : Rho → R (List D)} {h h1 : Tg} {ct ct1 : Rho → R Bool} {fe : Rho → R Vl} {is is1 : List Nat} {t t1 : TG} {Q : VK} (st : Sto K mg is h t) (sub : ∀ i ∈ is, i ∈ vs) (st1 : Sto K mg is1 h1 t1) (sub1 : ∀ i ∈ is1, i ∈ vs1) (sv : ∀ i ∈ vs1, i ∈ vs)
    (w : tE K mg W (eLc2 fi h ct fi1 h1 ct1 fe vs vs1) σ H Q) :
    tLc2 (tG K mg (relI K mg) W fi) t (tT K mg WN ct) (tG K mg (relI K mg) WN fi1) t1 (tT K mg WN ct1) (tE K mg WN fe) vs vs1 σ H Q := by
  obtain ⟨F, ρ, rs, p⟩ := w
  refine ⟨F, ρ, rs, (Post.bind0 p).mono fun J H1 ⟨F1, ρ1, xs, g1, wk, p1⟩ => fun Dl hD => ?_⟩
  obtain ⟨G, Y, walk, stays⟩ := wk
  have noD : ¬ Own σ ρ1 Dl := fun z => by
    obtain ⟨_, m, rm⟩ := z.some g1.rs
    obtain ⟨ws, tt⟩ := rm.there
    rw [hD] at tt
    cases tt
  have start : RS K mg F1 H1 (wipe σ vs) (wipeR ρ1 vs) := g1.rs.wipe vs
  -- the outer invariant
  let Pv : Nat → Hp → Prop := fun i H' => ∃ F' ρ' acc accv, Go K mg F1 H1 (wipe σ vs) (wipeR ρ1 vs) F' H' (wipe σ vs) (wipeR ρ' vs) ∧ H' Dl = some (.lst accv) ∧ Reps K mg F' acc accv ∧ F' Dl = none ∧ ¬ Own (wipe σ vs) (wipeR ρ' vs) Dl ∧
    Post K mg (relV K mg σ) W H F1 H1 σ ρ1 (lcEnd ρ1 vs (lc2L h ct fi1 h1 ct1 fe vs vs1 (xs.drop i) ρ' acc)) Q
  refine ⟨fun i m H' => m = xs.length - i ∧ i ≤ xs.length ∧ Pv i H', ⟨xs.length, rfl, Nat.zero_le _, ?_⟩, ?_⟩
  · exact ⟨F1, ρ1, [], [], (Go.refl start).ext (Ext.lay g1.rs.sub hD), upd_same, rfl, g1.rs.sub.none hD, fun z => noD (own_wipe z), p1⟩
  rintro i m H' ⟨rfl, hi, F', ρ', acc, accv, g, d1, d2, d3, d4, p'⟩
  have gh := (stays F' H' g.fro g.rs.sub).1
  by_cases hlt : i < xs.length
  · refine .inr ⟨walk.goes i H' hlt gh, Pv (i + 1), fun H2 z => ⟨_, by omega, rfl, hlt, z⟩, fun v H'' hy' => ?_⟩
    have hy := walk.yields i H' v H'' hlt gh hy'
    have hx : xs[i]? = some xs[i] := List.getElem?_eq_getElem hlt
    obtain ⟨F'', ext, rep⟩ := (stays F' H' g.fro g.rs.sub).2 i _ v H'' hx hy
    rw [drop_at hx] at p'
    unfold lc2L at p'
    split at p'
    · exact p'.elim
    · rename_i ρ2 e2
      refine st ((Go.refl g.rs).ext ext) rep e2 fun σ2 gl s2 l2 => ?_
      have ag : ∀ j, j ∉ vs → σ2[j]? = (wipe σ vs)[j]? := fun j hj => s2 j fun z => hj (sub j z)
      have ew : wipe σ2 vs = wipe σ vs := (wipe_congr l2 ag).trans (wipe_wipe σ vs)
      refine ⟨ew, F'', ρ2, gl.rs, ?_⟩
      cases q : ct ρ2 with
      | no =>
        rw [q] at p'
        exact p'.elim
      | ex c fs ρ3 =>
        rw [q] at p'
        exact p'.elim
      | ok k ρ3 =>
        rw [q] at p'
        intro k' F3 H3 go3 ek
        cases (show k = k' from ek)
        have g3 := gl.trans go3
        cases k with
        | false =>
          rw [if_neg Bool.false_ne_true]
          obtain ⟨x1, x2, x3⟩ := g3.aside d1 d3 d4
          have gw := (g.trans g3).wipe (vs := vs) ag (wipe_wipe σ vs) (wipeR_wipeR ρ1 vs)
          rw [ew] at gw
          exact ⟨_, ρ3, acc, accv, gw, x1, d2.mono g3.fro, x2, fun z => x3 (own_wipe (by rw [ew]; exact z)), p'⟩
        | true =>
          rw [if_pos rfl]
          refine ⟨F3, ρ3, go3.rs, ?_⟩
          have p2 : Post K mg (relV K mg σ) W H F1 H1 σ ρ1 (lcEnd ρ1 vs (match fi1 ρ3 with
            | .ok xs1 ρ3 => match lcL h1 ct1 fe vs1 xs1 ρ3 acc with
              | .ok acc' ρ4 => lc2L h ct fi1 h1 ct1 fe vs vs1 (xs.drop (i + 1)) ρ4 acc'
              | _ => .no
            | _ => .no)) Q := p'
          cases q2 : fi1 ρ3 with
          | no =>
            rw [q2] at p2
            exact p2.elim
          | ex c fs ρ4 =>
            rw [q2] at p2
            exact p2.elim
          | ok ys ρ4 =>
            rw [q2] at p2
            dsimp only at p2
            intro J1 F4 H4 go4 wk1
            obtain ⟨G1, Y1, walk1, stays1⟩ := wk1
            have g4 := g3.trans go4
            obtain ⟨x1, x2, x3⟩ := g4.aside d1 d3 d4
            obtain ⟨acc', ρe, hr⟩ : ∃ acc' ρe, lcL h1 ct1 fe vs1 ys ρ4 acc = .ok acc' ρe := by
              cases q3 : lcL h1 ct1 fe vs1 ys ρ4 acc with
              | ok a b => exact ⟨a, b, rfl⟩
              | no =>
                rw [q3] at p2
                exact p2.elim
              | ex _ =>
                rw [q3] at p2
                exact p2.elim
            rw [hr] at p2
            -- off the block's names, σ2 is σ
            have ag1 : ∀ j, j ∉ vs → (wipe σ2 vs1)[j]? = (wipe σ vs)[j]? := fun j hj => by
              rw [wipe_out fun z => hj (sv j z)]
              exact ag j hj
            have ew1 : wipe (wipe σ2 vs1) vs = wipe σ vs := (wipe_congr (by rw [wipe_length]; exact l2) ag1).trans (wipe_wipe σ vs)
            let Pv1 : Nat → Hp → Prop := fun j H5 => ∃ F5 ρ5 acc5 accv5, Go K mg F1 H1 (wipe σ vs) (wipeR ρ1 vs) F5 H5 (wipe σ2 vs1) (wipeR ρ5 vs1) ∧ Sub F4 F5 ∧ H5 Dl = some (.lst accv5) ∧ Reps K mg F5 acc5 accv5 ∧ F5 Dl = none ∧ ¬ Own (wipe σ2 vs1) (wipeR ρ5 vs1) Dl ∧
              lcL h1 ct1 fe vs1 (ys.drop j) ρ5 acc5 = .ok acc' ρe
            refine ⟨fun j m H5 => m = ys.length - j ∧ j ≤ ys.length ∧ Pv1 j H5, ⟨ys.length, rfl, Nat.zero_le _, ?_⟩, ?_⟩
            · -- the inner walk begins: the inner names go
              have gg := g.trans g4
              refine ⟨F4, ρ4, acc, accv, { rs := g4.rs.wipe vs1, fro := gg.fro, keep := gg.keep, live := gg.live, new := gg.new, own := fun z => gg.own (own_wipe z), par := fun {i m} z => ?_ }, Sub.refl _, x1, d2.mono g4.fro, x2, fun z => x3 (own_wipe z), hr⟩
              obtain ⟨e, m', q'⟩ := gg.par z
              have ni : i ∉ vs1 := fun y => by
                rcases wipeR_get z with ⟨e, _⟩ | ⟨n, _⟩
                · cases e
                · exact n (sv i y)
              exact ⟨by rw [wipe_out ni]; exact e, m', by rw [wipeR_out ni]; exact q'⟩
            rintro j m H5 ⟨rfl, hj, F5, ρ5, acc5, accv5, g5, sb, y1, y2, y3, y4, hq⟩
            have gh1 := (stays1 F5 H5 sb g5.rs.sub).1
            by_cases hlj : j < ys.length
            · refine .inr ⟨walk1.goes j H5 hlj gh1, Pv1 (j + 1), fun H2 z => ⟨_, by omega, rfl, hlj, z⟩, fun v1 H6 hy1' => ?_⟩
              have hy1 := walk1.yields j H5 v1 H6 hlj gh1 hy1'
              have hx1 : ys[j]? = some ys[j] := List.getElem?_eq_getElem hlj
              obtain ⟨F6, ext1, rep1⟩ := (stays1 F5 H5 sb g5.rs.sub).2 j _ v1 H6 hx1 hy1
              rw [drop_at hx1] at hq
              unfold lcL at hq
              split at hq
              · cases hq
              · rename_i ρ6 e6
                refine st1 ((Go.refl g5.rs).ext ext1) rep1 e6 fun σ3 gl1 s3 l3 => ?_
                have ag3 : ∀ j, j ∉ vs1 → σ3[j]? = (wipe σ2 vs1)[j]? := fun j hj => s3 j fun z => hj (sub1 j z)
                have ew3 : wipe σ3 vs1 = wipe σ2 vs1 := (wipe_congr l3 ag3).trans (wipe_wipe σ2 vs1)
                refine ⟨ew3, F6, ρ6, gl1.rs, ?_⟩
                -- back to the inner start
                have back : ∀ {F7 H7 : Hp} {ρ7 : Rho}, Go K mg F1 H1 (wipe σ vs) (wipeR ρ1 vs) F7 H7 σ3 ρ7 → Go K mg F1 H1 (wipe σ vs) (wipeR ρ1 vs) F7 H7 (wipe σ2 vs1) (wipeR ρ7 vs1) := fun {F7 H7 ρ7} g7 => by
                  rw [← ew3]
                  refine { rs := g7.rs.wipe vs1, fro := g7.fro, keep := g7.keep, live := g7.live, new := g7.new, own := fun z => g7.own (own_wipe z), par := fun {i m} z => ?_ }
                  obtain ⟨e, m', q'⟩ := g7.par z
                  have ni : i ∉ vs1 := fun y => by
                    rcases wipeR_get z with ⟨e, _⟩ | ⟨n, _⟩
                    · cases e
                    · exact n (sv i y)
                  exact ⟨by rw [wipe_out ni]; exact e, m', by rw [wipeR_out ni]; exact q'⟩
                cases q3 : ct1 ρ6 with
                | no =>
                  rw [q3] at hq
                  cases hq
                | ex c fs ρ7 =>
                  rw [q3] at hq
                  cases hq
                | ok k ρ7 =>
                  rw [q3] at hq
                  intro k' F7 H7 go7 ek
                  cases (show k = k' from ek)
                  have g7 := gl1.trans go7
                  cases k with
                  | false =>
                    rw [if_neg Bool.false_ne_true]
                    obtain ⟨z1, z2, z3⟩ := g7.aside y1 y3 y4
                    exact ⟨F7, ρ7, acc5, accv5, back (g5.trans g7), sb.trans g7.fro, z1, y2.mono g7.fro, z2, fun z => z3 (own_wipe (by rw [ew3]; exact z)), hq⟩
                  | true =>
                    rw [if_pos rfl]
                    refine ⟨F7, ρ7, go7.rs, ?_⟩
                    have hq : (match fe ρ7 with
                      | .ok (.d a) ρ3 => if acc5.length < 100000 then lcL h1 ct1 fe vs1 (ys.drop (j + 1)) ρ3 (acc5 ++ [a]) else .no
                      | _ => .no) = R.ok acc' ρe := hq
                    cases q4 : fe ρ7 with
                    | no =>
                      rw [q4] at hq
                      cases hq
                    | ex c fs ρ8 =>
                      rw [q4] at hq
                      cases hq
                    | ok u ρ8 =>
                      rw [q4] at hq
                      cases u with
                      | f m => cases hq
                      | s j => cases hq
                      | d a =>
                        dsimp only at hq
                        split at hq
                        · rename_i hz
                          intro y F8 H8 go8 ry
                          have g8 := g7.trans go8
                          obtain ⟨z1, z2, z3⟩ := g8.aside y1 y3 y4
                          have gm := (g5.trans g8).mutF (p := Dl) (o := .lst (accv5 ++ [y])) hD z2 z3 (fun fs z => by
                            rw [z1] at z
                            cases z)
                          exact ⟨accv5, z1, lt_line (by rw [y2.length]; exact hz), F8, ρ8, acc5 ++ [a], accv5 ++ [y], back gm, sb.trans g8.fro, upd_same, (y2.mono g8.fro).append ⟨y, [], rfl, ry, rfl⟩, z2, fun z => z3 (own_wipe (by rw [ew3]; exact z)), hq⟩
                        · cases hq
            · have e : j = ys.length := by omega
              subst e
              rw [List.drop_length] at hq
              cases hq
              refine .inl ⟨walk1.stops H5 gh1, ?_⟩
              have gw := g5.wipe (vs := vs) ag1 (wipe_wipe σ vs) (wipeR_wipeR ρ1 vs)
              rw [ew1, wipeR_sub sv] at gw
              exact ⟨F5, ρe, acc', accv5, gw, y1, y2, y3, fun z => y4 (own_wipe (by rw [ew1, wipeR_sub sv]; exact z)), p2⟩
  · have e : i = xs.length := by omega
    subst e
    rw [List.drop_length] at p'
    have hl : ρ1.length = ρ'.length := by
      have a := g.rs.len
      rw [wipe_length, wipeR_len] at a
      exact g1.rs.len.symm.trans a
    refine .inl ⟨walk.stops H' gh, p' _ F' H' (Go.rest g1.rs g) ⟨Dl, rfl, g1.live hD, d3, ⟨accv, d1, d2⟩, fun ⟨j, q, m, e1, e2⟩ => ?_⟩⟩
    rw [restR_get hl] at e1
    split at e1
    · exact noD ⟨j, q, m, e1, e2⟩
    · rename_i hj
      exact d4 ⟨j, q, m, by rw [wipeR_out hj]; exact e1, by rw [wipe_out hj]; exact e2⟩
end
section
variable {X : Cx} {W : WX} {e a b c tg tg1 iter iter1 elt : Expr} {es ifs ifs1 : List Expr} {f fe : Rho → R Vl} {s t : Rho → SR} {ct ct1 : Rho → R Bool} {pos spos : Pos} {is is1 : List Nat} {h h1 : Tg} {fi fi1 : Rho → R (List D)} {scope : Scope} {own : List (Str × Nat)} {vs1 : List Nat}
theorem de_lc2 (hc : X.calm = true) (hN : X.N.Nodup) (hi : DI X W tg iter fi) (ok : BlkOk X.N X.env.scope scope own) (hv : ∀ i ∈ vs1, i ∈ own.map (·.2)) (t t1 : TG) (sto : Sto X.K (mgX X) is h t) (sub : ∀ i ∈ is, i ∈ own.map (·.2)) (sto1 : Sto X.K (mgX X) is1 h1 t1) (sub1 : ∀ i ∈ is1, i ∈ vs1)
    (hg : ∀ (s : Shared) (H : Hp) (C : Addr) (cl : List (Str × Addr)) (fp : List Addr), PG (X.blk s H scope (compEnvC scope cl C X.env) fp) tg t) (ht : ∀ (s : Shared) (H : Hp) (C : Addr) (cl : List (Str × Addr)) (fp : List Addr), DTs (X.blk s H scope (compEnvC scope cl C X.env) fp) WN ifs ct)
    (hi1 : ∀ (s : Shared) (H : Hp) (C : Addr) (cl : List (Str × Addr)) (fp : List Addr), DI (X.blk s H scope (compEnvC scope cl C X.env) fp) WN tg1 iter1 fi1)
    (hg1 : ∀ (s : Shared) (H : Hp) (C : Addr) (cl : List (Str × Addr)) (fp : List Addr), PG (X.blk s H scope (compEnvC scope cl C X.env) fp) tg1 t1) (ht1 : ∀ (s : Shared) (H : Hp) (C : Addr) (cl : List (Str × Addr)) (fp : List Addr), DTs (X.blk s H scope (compEnvC scope cl C X.env) fp) WN ifs1 ct1)
    (he : ∀ (s : Shared) (H : Hp) (C : Addr) (cl : List (Str × Addr)) (fp : List Addr), DE (X.blk s H scope (compEnvC scope cl C X.env) fp) WN elt fe) (hs : ∀ x, foldedSetIterable iter X.env x = pure x := by intro _; rfl) (hs1 : ∀ env x, foldedSetIterable iter1 env x = pure x := by intro _ _; rfl) :
    DE X W (.ListComp elt [⟨tg, iter, ifs, 0⟩, ⟨tg1, iter1, ifs1, 0⟩] scope pos) (eLc2 fi h ct fi1 h1 ct1 fe (own.map (·.2)) vs1) :=
  PE.weak (pe_lc2 hc hN hi ok hv hg (fun s H C cl fp => pts_blk hc (ht s H C cl fp)) (fun s H C cl fp => pi_blk hc (hi1 s H C cl fp)) hg1 (fun s H C cl fp => pts_blk hc (ht1 s H C cl fp)) (fun s H C cl fp => pe_blk hc (he s H C cl fp)) hs hs1) fun σ H Q w => lc2_wish sto sub sto1 sub1 hv w
theorem ds_setLc2 {i : Nat} {y : Str} {py : Pos} (hc : X.calm = true) (hN : X.N.Nodup) (hy : X.N[i]? = some y) (hyl : X.env.scope.names.lookup y = some .local) (hsw : swapsWith (.ListComp elt [⟨tg, iter, ifs, 0⟩, ⟨tg1, iter1, ifs1, 0⟩] scope pos) (some (.Name y py)) spos.line X.env = pure true)
    (hi : DI X W tg iter fi) (ok : BlkOk X.N X.env.scope scope own) (hv : ∀ i ∈ vs1, i ∈ own.map (·.2)) (t t1 : TG) (sto : Sto X.K (mgX X) is h t) (sub : ∀ i ∈ is, i ∈ own.map (·.2)) (sto1 : Sto X.K (mgX X) is1 h1 t1) (sub1 : ∀ i ∈ is1, i ∈ vs1)
    (hg : ∀ (s : Shared) (H : Hp) (C : Addr) (cl : List (Str × Addr)) (fp : List Addr), PG (X.blk s H scope (compEnvC scope cl C X.env) fp) tg t) (ht : ∀ (s : Shared) (H : Hp) (C : Addr) (cl : List (Str × Addr)) (fp : List Addr), DTs (X.blk s H scope (compEnvC scope cl C X.env) fp) WN ifs ct)
    (hi1 : ∀ (s : Shared) (H : Hp) (C : Addr) (cl : List (Str × Addr)) (fp : List Addr), DI (X.blk s H scope (compEnvC scope cl C X.env) fp) WN tg1 iter1 fi1)
    (hg1 : ∀ (s : Shared) (H : Hp) (C : Addr) (cl : List (Str × Addr)) (fp : List Addr), PG (X.blk s H scope (compEnvC scope cl C X.env) fp) tg1 t1) (ht1 : ∀ (s : Shared) (H : Hp) (C : Addr) (cl : List (Str × Addr)) (fp : List Addr), DTs (X.blk s H scope (compEnvC scope cl C X.env) fp) WN ifs1 ct1)
    (he : ∀ (s : Shared) (H : Hp) (C : Addr) (cl : List (Str × Addr)) (fp : List Addr), DE (X.blk s H scope (compEnvC scope cl C X.env) fp) WN elt fe) (hs : ∀ x, foldedSetIterable iter X.env x = pure x := by intro _; rfl) (hs1 : ∀ env x, foldedSetIterable iter1 env x = pure x := by intro _ _; rfl) :
    DS X W (.Assign [.Name y py] (.ListComp elt [⟨tg, iter, ifs, 0⟩, ⟨tg1, iter1, ifs1, 0⟩] scope pos) spos) (sSet i (eLc2 fi h ct fi1 h1 ct1 fe (own.map (·.2)) vs1)) :=
  PS.weak (ps_setLc2 hc hN hy hyl hsw hi ok hv hg (fun s H C cl fp => pts_blk hc (ht s H C cl fp)) (fun s H C cl fp => pi_blk hc (hi1 s H C cl fp)) hg1 (fun s H C cl fp => pts_blk hc (ht1 s H C cl fp)) (fun s H C cl fp => pe_blk hc (he s H C cl fp)) hs hs1) fun Dn σ H ⟨F, ρ, rs, p⟩ => lc2_wish sto sub sto1 sub1 hv (bind_set rs p)
end
end L3

set_option Elab.async false
set_option linter.all false
set_option maxRecDepth 100000
set_option maxHeartbeats 4000000
namespace L3
open PySem PySem.Spec PyProof.Rows L2
/-! ### a def -/
abbrev WE (E : XK) : WX := fun c d _ H => E c d H
/-- the promise that the def does what g says of its arguments -/
def spG (K : PySem.W.Frag) (mg : Mg) (n : Nat) (g : Rho → R Vl) : Sp := fun vs H Q E => vs.length = n ∧ tE K mg (WE E) g (vs.map some) H Q
def mkPar : Sl → Sl
  | .o _ m => .o true m
  | s => s
def merge : List Sl → Rho → List Sl
  | [], _ => []
  | s :: as, ρ => (match s, ρ.head? with
    | .o q m, some (.o true m') => .o q m'
    | s, _ => s) :: merge as ρ.tail
def argE (n : Nat) (as : List Sl) : Rho := as.map mkPar ++ List.replicate (n - as.length) .un
/-- what a def's body says of the arguments: n names -/
def bodyR (n : Nat) (s : Rho → SR) : Rho → R Vl := fun as => match s (argE n as) with
  | .rt (.d x) ρ => .ok (.d x) (merge as ρ)
  | .rt (.f m) ρ => .ok (.f m) (merge as ρ)
  | .rt (.s i) ρ => match ρ[i]? with
    | some (.o false m) => .ok (.f m) (merge as ρ)
    | some (.d x) => .ok (.d x) (merge as ρ)
    | _ => .no
  | .nx ρ => .ok (.d .non) (merge as ρ)
  | .ex c fs ρ => .ex c fs (merge as ρ)
  | _ => .no
theorem merge_len : ∀ (as : List Sl) (ρ : Rho), (merge as ρ).length = as.length
  | [], _ => rfl
  | s :: as, ρ => by
    unfold merge
    rw [List.length_cons, List.length_cons, merge_len as]
theorem merge_get : ∀ {as : List Sl} {ρ : Rho} {i : Nat}, (merge as ρ)[i]? = match as[i]?, ρ[i]? with
    | some (.o q m), some (.o true m') => some (.o q m')
    | a, _ => a
  | [], _, _ => by simp [merge]
  | s :: as, ρ, 0 => by
    unfold merge
    cases ρ with
    | nil => cases s <;> rfl
    | cons r ρ =>
      cases s with
      | o q m =>
        cases r with
        | o b m' => cases b <;> rfl
        | _ => rfl
      | _ => rfl
  | s :: as, ρ, i + 1 => by
    unfold merge
    rw [List.getElem?_cons_succ, List.getElem?_cons_succ, merge_get]
    have : ρ.tail[i]? = ρ[i + 1]? := by
      cases ρ with
      | nil => simp
      | cons r ρ => rfl
    rw [this]
section
variable {K : PySem.W.Frag} {mg : Mg} {F H F1 H1 : Hp} {σ1 : L2.St} {as : List Sl} {vs : List V} {ρ1 : Rho} {N : List Str}
theorem argE_get {n i : Nat} {s : Sl} (h : (argE n as)[i]? = some s) : (∃ a, as[i]? = some a ∧ s = mkPar a) ∨ (s = .un ∧ as.length ≤ i) := by
  unfold argE at h
  by_cases hi : i < as.length
  · rw [List.getElem?_append_left (by simpa using hi), List.getElem?_map] at h
    obtain ⟨a, e1, e2⟩ := Option.map_eq_some_iff.mp h
    exact .inl ⟨a, e1, e2.symm⟩
  · rw [List.getElem?_append_right (by simpa using hi), List.getElem?_replicate] at h
    split at h
    · cases h
      exact .inr ⟨rfl, by omega⟩
    · cases h
theorem start_get {i : Nat} {x : Option V} (h : (vs.map some)[i]? = some x) : (L2.start N vs)[i]? = some x := by
  unfold L2.start
  rw [List.getElem?_append_left (by simpa using (List.getElem?_eq_some_iff.mp h).1)]
  exact h
theorem start_back {i : Nat} {v : V} (h : (L2.start N vs)[i]? = some (some v)) : (vs.map some)[i]? = some (some v) := by
  unfold L2.start at h
  by_cases hi : i < vs.length
  · rw [List.getElem?_append_left (by simpa using hi)] at h
    exact h
  · rw [List.getElem?_append_right (by simpa using hi), List.getElem?_replicate] at h
    split at h <;> cases h
theorem par_o {a : Sl} {q : Bool} {m : MO} (h : Sl.o q m = mkPar a) : q = true ∧ ∃ q', a = .o q' m := by
  cases a with
  | o q' m' =>
    cases h
    exact ⟨rfl, q', rfl⟩
  | _ => cases h
theorem par_d {a : Sl} {x : D} (h : Sl.d x = mkPar a) : a = .d x := by
  cases a with
  | d y =>
    cases h
    rfl
  | _ => cases h
theorem par_ex {a : Sl} {fs : List (Str × D)} (h : Sl.ex fs = mkPar a) : a = .ex fs := by
  cases a with
  | ex _ =>
    cases h
    rfl
  | _ => cases h
theorem RS.enter (r : RS K mg F H (vs.map some) as) (hn : vs.length ≤ N.length) : RS K mg F H (L2.start N vs) (argE N.length as) := by
  have len : vs.length = as.length := by
    have := r.len
    rwa [List.length_map] at this
  exact {
    len := by
      unfold L2.start argE
      rw [List.length_append, List.length_append, List.length_map, List.length_map, List.length_replicate, List.length_replicate]
      omega
    sub := r.sub
    dat := fun h => by
      rcases argE_get h with ⟨a, e1, e2⟩ | ⟨e, _⟩
      · cases par_d e2
        obtain ⟨v, a, b⟩ := r.dat e1
        exact ⟨v, start_get a, b⟩
      · cases e
    own := fun h => by
      rcases argE_get h with ⟨a, e1, e2⟩ | ⟨e, _⟩
      · obtain ⟨_, q', rfl⟩ := par_o e2
        obtain ⟨p, a, b, c⟩ := r.own e1
        exact ⟨p, start_get a, b, c⟩
      · cases e
    apart := fun h1 h2 a b => by
      rcases argE_get h1 with ⟨a1, e1, e2⟩ | ⟨e, _⟩
      · rcases argE_get h2 with ⟨a2, e3, e4⟩ | ⟨e, _⟩
        · obtain ⟨_, q1, rfl⟩ := par_o e2
          obtain ⟨_, q2, rfl⟩ := par_o e4
          exact r.apart e1 e3 (start_back a) (start_back b)
        · cases e
      · cases e
    exs := fun h => by
      rcases argE_get h with ⟨a, e1, e2⟩ | ⟨e, _⟩
      · cases par_ex e2
        obtain ⟨a0, d, vfs, hc, a, b⟩ := r.exs e1
        exact ⟨a0, d, vfs, hc, start_get a, b⟩
      · cases e }
theorem own_enter (r : RS K mg F H (vs.map some) as) {b : Addr} (h : Own (L2.start N vs) (argE N.length as) b) : Own (vs.map some) as b := by
  obtain ⟨i, q, m, e1, e2⟩ := h
  rcases argE_get e1 with ⟨a, e3, e4⟩ | ⟨e, _⟩
  · obtain ⟨_, q', rfl⟩ := par_o e4
    exact ⟨i, q', m, e3, start_back e2⟩
  · cases e
theorem Go.leave (r : RS K mg F H (vs.map some) as) (hn : vs.length ≤ N.length) (g : Go K mg F H (L2.start N vs) (argE N.length as) F1 H1 σ1 ρ1) : Go K mg F H (vs.map some) as F1 H1 (vs.map some) (merge as ρ1) := by
  have arg : ∀ {i : Nat} {a : Sl}, as[i]? = some a → (argE N.length as)[i]? = some (mkPar a) := fun {i a} h => by
    unfold argE
    rw [List.getElem?_append_left (by simpa using (List.getElem?_eq_some_iff.mp h).1), List.getElem?_map, h]
    rfl
  -- a slot with an object keeps its place
  have obj : ∀ {i : Nat} {q : Bool} {m : MO}, (merge as ρ1)[i]? = some (.o q m) → ∃ m0, as[i]? = some (.o q m0) ∧ ρ1[i]? = some (.o true m) ∧ ∀ p, (vs.map some)[i]? = some (some (.ref p)) → σ1[i]? = some (some (.ref p)) := fun {i q m} h => by
    rw [merge_get] at h
    cases e : as[i]? with
    | none =>
      rw [e] at h
      cases h
    | some a =>
      rw [e] at h
      cases a with
      | o q0 m0 =>
        obtain ⟨e3, m', e4⟩ := g.par (arg e)
        rw [e4] at h
        cases h
        exact ⟨m0, rfl, e4, fun p hp => by rw [e3]; exact start_get hp⟩
      | _ => cases h
  have nob : ∀ {i : Nat} {a : Sl}, (merge as ρ1)[i]? = some a → (∀ q m, a ≠ .o q m) → as[i]? = some a := fun {i a} h no => by
    rw [merge_get] at h
    cases e : as[i]? with
    | none =>
      rw [e] at h
      cases h
    | some b =>
      rw [e] at h
      cases b with
      | o q0 m0 =>
        obtain ⟨_, m', e4⟩ := g.par (arg e)
        rw [e4] at h
        cases h
        exact absurd rfl (no _ _)
      | un => exact h
      | d x => exact h
      | ex _ => exact h
  exact {
    rs := {
      len := by
        rw [merge_len]
        exact r.len
      sub := g.rs.sub
      dat := fun h => by
        obtain ⟨v, a, b⟩ := r.dat (nob h fun _ _ z => nomatch z)
        exact ⟨v, a, b.mono g.fro⟩
      own := fun h => by
        obtain ⟨m0, e1, e2, e3⟩ := obj h
        obtain ⟨p, a, b, c⟩ := r.own e1
        obtain ⟨p', a', b', c'⟩ := g.rs.own e2
        rw [e3 p a] at a'
        cases a'
        exact ⟨p, a, b', c'⟩
      apart := fun h1 h2 a b => by
        obtain ⟨m1, e1, _⟩ := obj h1
        obtain ⟨m2, e2, _⟩ := obj h2
        exact r.apart e1 e2 a b
      exs := fun h => by
        have e := nob h fun _ _ z => nomatch z
        obtain ⟨a0, d, vfs, hc, a, b, c, f⟩ := r.exs e
        have no : ¬ Own (L2.start N vs) (argE N.length as) _ := fun z => by
          obtain ⟨_, m, rm⟩ := (own_enter r z).some r
          obtain ⟨ws, t⟩ := rm.there
          rw [c] at t
          cases t
        exact ⟨a0, d, vfs, hc, a, g.freshF b ⟨_, c⟩ no, g.keep c no, f.mono g.fro⟩ }
    fro := g.fro
    keep := fun h no => g.keep h fun z => no (own_enter r z)
    live := g.live
    new := fun h => (g.new h).imp_right fun z => z.imp_right (own_enter r)
    own := fun ⟨i, q, m, h, a⟩ => by
      obtain ⟨m0, e1, _⟩ := obj h
      exact .inl ⟨i, q, m0, e1, a⟩
    par := fun {i m} h => by
      obtain ⟨_, m', e4⟩ := g.par (arg h)
      refine ⟨rfl, m', ?_⟩
      rw [merge_get, h, e4] }
theorem not_own_new (r : RS K mg F H (vs.map some) as) (g : Go K mg F H (vs.map some) as F1 H1 (vs.map some) ρ1) {p : Addr} (n : H p = none) (hs : ∀ b, Own (vs.map some) ρ1 b → Own (vs.map some) as b) : ¬ Own (vs.map some) ρ1 p := fun z => by
  obtain ⟨_, m, rm⟩ := (hs p z).some r
  obtain ⟨ws, t⟩ := rm.there
  rw [n] at t
  cases t
end

section
variable {b : Bool} {P : Program} {w : World} {K : PySem.W.Frag} {mg : Mg} {base : Heap} {k : Nat} {f : Addr} {fd : FuncData} {N ps : List Str}
theorem merge_own {vs : List V} {as : List Sl} {ρ : Rho} {c : Addr} (h : Own (vs.map some) (merge as ρ) c) : Own (vs.map some) as c := by
  obtain ⟨i, q, m, e1, e2⟩ := h
  rw [merge_get] at e1
  cases e : as[i]? with
  | none =>
    rw [e] at e1
    cases e1
  | some a =>
    cases a with
    | o q0 m0 => exact ⟨i, q0, m0, e, e2⟩
    | _ =>
      rw [e] at e1
      cases e1
/-- the body's reading keeps the promise -/
theorem body_wish {s : Rho → SR} {vs : List V} {H : Hp} {Q : VK} {E : XK} (hn : ps.length ≤ N.length) (h : spG K mg ps.length (bodyR N.length s) vs H Q E) : tS K mg (WE E) s { nx := fun _ H' => Q .non H', rt := Q } (L2.start N vs) H := by
  obtain ⟨hl, F, as, rs, p⟩ := h
  have hv : vs.length ≤ N.length := by omega
  refine ⟨F, _, rs.enter hv, ?_⟩
  unfold bodyR at p
  cases q : s (argE N.length as) with
  | nx ρ =>
    rw [q] at p
    exact fun σ' F' H' g => p .non F' H' (Go.leave rs hv g) rfl
  | rt x ρ =>
    rw [q] at p
    intro v σ' F' H' g r
    have gl := Go.leave rs hv g
    cases x with
    | d x => exact p v F' H' gl r
    | f m =>
      obtain ⟨a, e1, e2, e3, e4, _⟩ := r
      exact p v F' H' gl ⟨a, e1, e2, e3, e4, not_own_new rs gl e2 fun b z => merge_own z⟩
    | s i =>
      have r : σ'[i]? = some (some v) := r
      dsimp only at p
      cases q2 : ρ[i]? with
      | none =>
        rw [q2] at p
        exact p.elim
      | some sl =>
        rw [q2] at p
        cases sl with
        | un => exact p.elim
        | ex _ => exact p.elim
        | d x =>
          obtain ⟨v', e1, e2⟩ := g.rs.dat q2
          rw [r] at e1
          cases e1
          exact p v F' H' gl e2
        | o b m =>
          cases b with
          | true => exact p.elim
          | false =>
            obtain ⟨p0, e1, e2, e3⟩ := g.rs.own q2
            rw [r] at e1
            cases e1
            have new : H p0 = none := (g.own ⟨i, _, _, q2, r⟩).elim (fun ⟨j, q3, m0, f1, f2⟩ => by
              exfalso
              rcases argE_get f1 with ⟨a, f3, f4⟩ | ⟨z, _⟩
              · obtain ⟨rfl, _⟩ := par_o f4
                obtain ⟨f5, m', f6⟩ := g.par f1
                have := g.rs.apart q2 f6 r (f5.trans f2)
                subst this
                rw [q2] at f6
                cases f6
              · cases z) id
            exact p _ F' H' gl ⟨p0, rfl, new, e2, e3, not_own_new rs gl new fun b z => merge_own z⟩
  | ex c fs ρ =>
    rw [q] at p
    exact fun d σ' F' H' vfs g => p d F' H' vfs (Go.leave rs hv g)
  | bk ρ =>
    rw [q] at p
    exact p.elim
  | ct ρ =>
    rw [q] at p
    exact p.elim
  | no =>
    rw [q] at p
    exact p.elim

/-- THE RULE of a def: what its body says of its arguments -/
theorem ok_g {m : Str → Option Value} {x qual : Str} {params : Arguments} {body : List Stmt} {scope : Scope} {dvs : List V} {kws : List (Str × V)} {s : Rho → SR} (Fd : FunD K x qual params body scope dvs kws f fd) (S : FnScope N ps scope) (hn : ps.length ≤ N.length)
    (hb : ∀ (cdv : Value) (A : Around) (outer : List Env) (sh : Shared) (H : Hp) (E : XK), Room k (A.deeper (envOfC qual scope sh.heap.objs.size f cdv)) → Gd b A →
      DSs (cxOf (L2.CX P w) P w K m base N qual scope f cdv A outer sh H E) (WE E) body s) :
    FnG b P w K m base (L2.CX P w) (k + 1) f fd ps (spG K ⟨m, none⟩ ps.length (bodyR N.length s)) :=
  ok_def Fd S (fun vs H Q E z => z.1) fun cdv A outer sh H vs Q E hr hg z => ⟨_, hb cdv A outer sh H E hr hg, body_wish hn z⟩
end

/-! ### calls -/
def argOf (ρ : Rho) : Vl → Option Sl
  | .d x => some (.d x)
  | .s i => match ρ[i]? with
    | some (.o _ m) => some (.o true m)
    | some (.d x) => some (.d x)
    | _ => none
  | .f _ => none
def argsOf (ρ : Rho) : List Vl → Option (List Sl)
  | [] => some []
  | x :: xs => match argOf ρ x with
    | none => none
    | some a => match argsOf ρ xs with
      | none => none
      | some as => some (a :: as)
def slotsOf (ρ : Rho) : List Vl → List Nat
  | [] => []
  | .s i :: xs => match ρ[i]? with
    | some (.o _ _) => i :: slotsOf ρ xs
    | _ => slotsOf ρ xs
  | _ :: xs => slotsOf ρ xs
/-- the objects handed on, as they are behind the call -/
def putBack (ρ : Rho) : List Vl → List Sl → Rho
  | .s i :: xs, .o _ m :: as => match ρ[i]? with
    | some (.o q _) => (putBack ρ xs as).set i (.o q m)
    | _ => putBack ρ xs as
  | _ :: xs, _ :: as => putBack ρ xs as
  | _, _ => ρ
def callG (g : Rho → R Vl) (ds : List D) (xs : List Vl) (ρ : Rho) : R Vl := match argsOf ρ xs with
  | none => .no
  | some as => if (slotsOf ρ xs).Nodup then match g (as ++ ds.map .d) with
    | .ok (.d x) as' => .ok (.d x) (putBack ρ xs as')
    | .ok (.f m) as' => .ok (.f m) (putBack ρ xs as')
    | .ok (.s _) _ => .no
    | .ex c fs as' => .ex c fs (putBack ρ xs as')
    | .no => .no
  else .no
def eCall (g : Rho → R Vl) (ds : List D) (l : Rho → R (List Vl)) : Rho → R Vl := bnd l (callG g ds)
theorem argsOf_get {ρ : Rho} : ∀ {xs : List Vl} {as : List Sl}, argsOf ρ xs = some as → as.length = xs.length ∧ ∀ {k : Nat} {x : Vl}, xs[k]? = some x → ∃ a, as[k]? = some a ∧ argOf ρ x = some a
  | [], _, h => by
    cases h
    exact ⟨rfl, fun h => by simp at h⟩
  | x :: xs, as, h => by
    unfold argsOf at h
    split at h
    · cases h
    · rename_i a ha
      split at h
      · cases h
      · rename_i bs hb
        cases h
        obtain ⟨l, r⟩ := argsOf_get hb
        refine ⟨by rw [List.length_cons, List.length_cons, l], fun {k y} e => ?_⟩
        cases k with
        | zero =>
          cases e
          exact ⟨a, rfl, ha⟩
        | succ k => exact r e
theorem slots_cons {ρ : Rho} {x : Vl} {xs : List Vl} : slotsOf ρ (x :: xs) = slotsOf ρ xs ∨ ∃ j, slotsOf ρ (x :: xs) = j :: slotsOf ρ xs := by
  cases x with
  | d _ => exact .inl rfl
  | f _ => exact .inl rfl
  | s i =>
    cases e : ρ[i]? with
    | none => exact .inl (by simp only [slotsOf, e])
    | some sl =>
      cases sl with
      | o q m => exact .inr ⟨i, by simp only [slotsOf, e]⟩
      | un => exact .inl (by simp only [slotsOf, e])
      | d _ => exact .inl (by simp only [slotsOf, e])
      | ex _ => exact .inl (by simp only [slotsOf, e])
theorem slots_mem {ρ : Rho} {i : Nat} {q : Bool} {m : MO} (h : ρ[i]? = some (.o q m)) : ∀ {xs : List Vl} {k : Nat}, xs[k]? = some (.s i) → i ∈ slotsOf ρ xs
  | [], _, e => by simp at e
  | x :: xs, 0, e => by
    cases e
    unfold slotsOf
    rw [h]
    exact List.mem_cons_self ..
  | x :: xs, k + 1, e => by
    have := slots_mem h (xs := xs) (k := k) e
    rcases slots_cons (ρ := ρ) (x := x) (xs := xs) with q | ⟨j, q⟩
    · rw [q]
      exact this
    · rw [q]
      exact List.mem_cons_of_mem _ this
theorem slots_inj {ρ : Rho} {i : Nat} {q : Bool} {m : MO} (h : ρ[i]? = some (.o q m)) : ∀ {xs : List Vl} {k l : Nat}, (slotsOf ρ xs).Nodup → xs[k]? = some (.s i) → xs[l]? = some (.s i) → k = l
  | [], _, _, _, e, _ => by simp at e
  | x :: xs, 0, 0, _, _, _ => rfl
  | x :: xs, 0, l + 1, n, e, e' => by
    cases e
    have := slots_mem h (xs := xs) (k := l) e'
    unfold slotsOf at n
    rw [h] at n
    exact absurd this (List.nodup_cons.mp n).1
  | x :: xs, k + 1, 0, n, e', e => by
    cases e
    have := slots_mem h (xs := xs) (k := k) e'
    unfold slotsOf at n
    rw [h] at n
    exact absurd this (List.nodup_cons.mp n).1
  | x :: xs, k + 1, l + 1, n, e, e' => by
    have n' : (slotsOf ρ xs).Nodup := by
      rcases slots_cons (ρ := ρ) (x := x) (xs := xs) with q | ⟨j, q⟩
      · rw [q] at n
        exact n
      · rw [q] at n
        exact (List.nodup_cons.mp n).2
    rw [slots_inj h n' e e']
theorem putBack_get {ρ : Rho} {j : Nat} {sl : Sl} : ∀ {xs : List Vl} {as : List Sl}, (putBack ρ xs as)[j]? = some sl →
    (∃ (k : Nat) (q q' : Bool) (m m0 : MO), xs[k]? = some (.s j) ∧ ρ[j]? = some (.o q m0) ∧ as[k]? = some (.o q' m) ∧ sl = .o q m) ∨ (ρ[j]? = some sl ∧ ∀ (k : Nat) (q q' : Bool) (m m0 : MO), xs[k]? = some (.s j) → ρ[j]? = some (.o q m0) → as[k]? ≠ some (.o q' m))
  | [], as, h => .inr ⟨h, fun k q q' m m0 e => by simp at e⟩
  | x :: xs, [], h => .inr ⟨by cases x <;> exact h, fun k q q' m m0 _ _ e => by simp at e⟩
  | x :: xs, a :: as, h => by
    have skip : (putBack ρ xs as)[j]? = some sl → (∀ (q q' : Bool) (m m0 : MO), x = .s j → ρ[j]? = some (.o q m0) → a ≠ .o q' m) →
        (∃ (k : Nat) (q q' : Bool) (m m0 : MO), (x :: xs)[k]? = some (.s j) ∧ ρ[j]? = some (.o q m0) ∧ (a :: as)[k]? = some (.o q' m) ∧ sl = .o q m) ∨ (ρ[j]? = some sl ∧ ∀ (k : Nat) (q q' : Bool) (m m0 : MO), (x :: xs)[k]? = some (.s j) → ρ[j]? = some (.o q m0) → (a :: as)[k]? ≠ some (.o q' m)) := fun h' no => by
      rcases putBack_get h' with ⟨k, q, q', m, m0, e1, e2, e3, e4⟩ | ⟨e, n⟩
      · exact .inl ⟨k + 1, q, q', m, m0, e1, e2, e3, e4⟩
      · refine .inr ⟨e, fun k q q' m m0 e1 e2 e3 => ?_⟩
        cases k with
        | zero => exact no q q' m m0 (Option.some.inj e1) e2 (Option.some.inj e3)
        | succ k => exact n k q q' m m0 e1 e2 e3
    cases x with
    | d _ => exact skip h fun _ _ _ _ z => nomatch z
    | f _ => exact skip h fun _ _ _ _ z => nomatch z
    | s i =>
      cases a with
      | un => exact skip h fun _ _ _ _ _ _ z => nomatch z
      | d _ => exact skip h fun _ _ _ _ _ _ z => nomatch z
      | ex _ => exact skip h fun _ _ _ _ _ _ z => nomatch z
      | o q' m =>
        unfold putBack at h
        split at h
        · rename_i q m0 hi
          rcases getElem?_set_cases h with ⟨e, e2, _⟩ | ⟨ne, h⟩
          · subst e
            exact .inl ⟨0, q, q', m, m0, rfl, hi, rfl, e2⟩
          · exact skip h fun _ _ _ _ z => absurd (Vl.s.inj z).symm ne
        · rename_i hi
          refine skip h fun q q2 m2 m0 z e => ?_
          cases z
          exact absurd e (hi q m0)
theorem RepVs.get {K : PySem.W.Frag} {mg : Mg} {Hb F H : Hp} {σ : L2.St} {ρ : Rho} : ∀ {xs : List Vl} {vs : List V}, RepVs K mg Hb F H σ ρ xs vs → vs.length = xs.length ∧ ∀ {k : Nat} {v : V}, vs[k]? = some v → ∃ x, xs[k]? = some x ∧ RepV K mg Hb F H σ ρ x v
  | [], vs, h => by
    cases (show vs = [] from h)
    exact ⟨rfl, fun h => by simp at h⟩
  | x :: xs, vs, ⟨v, r, e, h, t⟩ => by
    subst e
    obtain ⟨l, g⟩ := RepVs.get t
    refine ⟨by rw [List.length_cons, List.length_cons, l], fun {k w} e => ?_⟩
    cases k with
    | zero =>
      cases e
      exact ⟨x, rfl, h⟩
    | succ k => exact g e
section
variable {K : PySem.W.Frag} {mg : Mg} {F H F1 H1 Hb H0 : Hp} {σ : L2.St} {ρ : Rho} {xs : List Vl} {vs dvs : List V} {as : List Sl} {ds : List D}
/-- where an argument comes from -/
theorem arg_at (rx : RepVs K mg Hb F H σ ρ xs vs) (ha : argsOf ρ xs = some as) {k : Nat} {a : Sl} {v : V} (ea : (as ++ ds.map Sl.d)[k]? = some a) (ev : ((vs ++ dvs).map some)[k]? = some (some v)) :
    (∃ x, xs[k]? = some x ∧ argOf ρ x = some a ∧ RepV K mg Hb F H σ ρ x v) ∨ ∃ (j : Nat) (d : D), k = as.length + j ∧ ds[j]? = some d ∧ dvs[j]? = some v ∧ a = .d d := by
  obtain ⟨l1, g1⟩ := argsOf_get ha
  obtain ⟨l2, g2⟩ := rx.get
  rw [List.map_append] at ev
  by_cases hk : k < as.length
  · rw [List.getElem?_append_left hk] at ea
    rw [List.getElem?_append_left (by simp; omega), List.getElem?_map] at ev
    obtain ⟨v', e1, e2⟩ := Option.map_eq_some_iff.mp ev
    cases e2
    obtain ⟨x, e3, r⟩ := g2 e1
    obtain ⟨a', e4, e5⟩ := g1 e3
    rw [ea] at e4
    cases e4
    exact .inl ⟨x, e3, e5, r⟩
  · rw [List.getElem?_append_right (by omega), List.getElem?_map] at ea
    rw [List.getElem?_append_right (by simp; omega), List.getElem?_map] at ev
    obtain ⟨d, e1, e2⟩ := Option.map_eq_some_iff.mp ea
    obtain ⟨v', e3, e4⟩ := Option.map_eq_some_iff.mp ev
    cases e4
    rw [List.length_map, l2, ← l1] at e3
    exact .inr ⟨k - as.length, d, by omega, e1, e3, e2.symm⟩
theorem arg_o {x : Vl} {q : Bool} {m : MO} {v : V} (h : argOf ρ x = some (.o q m)) (r : RepV K mg Hb F H σ ρ x v) : q = true ∧ ∃ (i : Nat) (q0 : Bool), x = .s i ∧ ρ[i]? = some (.o q0 m) ∧ σ[i]? = some (some v) := by
  unfold argOf at h
  split at h
  · cases h
  · split at h
    · cases h
      exact ⟨rfl, _, _, rfl, by assumption, r⟩
    · cases h
    · cases h
  · cases h
theorem RS.args (rs : RS K mg F H σ ρ) (rx : RepVs K mg Hb F H σ ρ xs vs) (ha : argsOf ρ xs = some as) (nd : (slotsOf ρ xs).Nodup) (rd : Reps K mg F ds dvs) : RS K mg F H ((vs ++ dvs).map some) (as ++ ds.map .d) := by
  obtain ⟨l1, g1⟩ := argsOf_get ha
  obtain ⟨l2, g2⟩ := rx.get
  have len : ((vs ++ dvs).map some).length = (as ++ ds.map Sl.d).length := by
    rw [List.length_map, List.length_append, List.length_append, List.length_map, rd.length, l1, l2]
  have val : ∀ {k : Nat} {a : Sl}, (as ++ ds.map Sl.d)[k]? = some a → ∃ v, ((vs ++ dvs).map some)[k]? = some (some v) := fun {k a} e => by
    have hk : k < (vs ++ dvs).length := by
      have := (List.getElem?_eq_some_iff.mp e).1
      rw [← len, List.length_map] at this
      exact this
    exact ⟨(vs ++ dvs)[k], by rw [List.getElem?_map, List.getElem?_eq_getElem hk]; rfl⟩
  have ob : ∀ {k : Nat} {q : Bool} {m : MO}, (as ++ ds.map Sl.d)[k]? = some (.o q m) → ∃ (i : Nat) (q0 : Bool) (v : V), xs[k]? = some (.s i) ∧ ρ[i]? = some (.o q0 m) ∧ σ[i]? = some (some v) ∧ ((vs ++ dvs).map some)[k]? = some (some v) := fun {k q m} e => by
    obtain ⟨v, ev⟩ := val e
    rcases arg_at rx ha e ev with ⟨x, e1, e2, r⟩ | ⟨j, d, _, _, _, e4⟩
    · obtain ⟨_, i, q0, rfl, e5, e6⟩ := arg_o e2 r
      exact ⟨i, q0, v, e1, e5, e6, ev⟩
    · cases e4
  exact {
    len := len
    sub := rs.sub
    dat := fun {k x} e => by
      obtain ⟨v, ev⟩ := val e
      refine ⟨v, ev, ?_⟩
      rcases arg_at rx ha e ev with ⟨y, e1, e2, r⟩ | ⟨j, d, _, e2, e3, e4⟩
      · unfold argOf at e2
        split at e2
        · cases e2
          exact r
        · split at e2
          · cases e2
          · rename_i x' hi
            cases e2
            obtain ⟨v', e3, e4⟩ := rs.dat hi
            have r : σ[_]? = some (some v) := r
            rw [r] at e3
            cases e3
            exact e4
          · cases e2
        · cases e2
      · cases e4
        obtain ⟨v', e5, e6⟩ := rd.get e2
        rw [e3] at e5
        cases e5
        exact e6
    own := fun {k q m} e => by
      obtain ⟨i, q0, v, e1, e2, e3, e4⟩ := ob e
      obtain ⟨p, a, b, c⟩ := rs.own e2
      rw [e3] at a
      cases a
      exact ⟨p, e4, b, c⟩
    apart := fun {k l q q' m m' p} h1 h2 a b => by
      obtain ⟨i, q0, v, e1, e2, e3, e4⟩ := ob h1
      obtain ⟨j, q1, u, f1, f2, f3, f4⟩ := ob h2
      rw [e4] at a
      rw [f4] at b
      cases a
      cases b
      have := rs.apart e2 f2 e3 f3
      subst this
      exact slots_inj e2 nd e1 f1
    exs := fun {k fs} e => by
      exfalso
      obtain ⟨v, ev⟩ := val e
      rcases arg_at rx ha e ev with ⟨y, e1, e2, r⟩ | ⟨j, d, _, e2, e3, e4⟩
      · unfold argOf at e2
        split at e2
        · cases e2
        · split at e2 <;> cases e2
        · cases e2
      · cases e4 }
theorem Go.called {as' : List Sl} (rs : RS K mg F H σ ρ) (rx : RepVs K mg Hb F H σ ρ xs vs) (ha : argsOf ρ xs = some as) (g : Go K mg F H ((vs ++ dvs).map some) (as ++ ds.map .d) F1 H1 ((vs ++ dvs).map some) as') : Go K mg F H σ ρ F1 H1 σ (putBack ρ xs as') := by
  obtain ⟨l1, g1⟩ := argsOf_get ha
  obtain ⟨l2, g2⟩ := rx.get
  have own_of : ∀ {b : Addr}, Own ((vs ++ dvs).map some) (as ++ ds.map Sl.d) b → ∃ (k i : Nat) (q : Bool) (m : MO), xs[k]? = some (.s i) ∧ ρ[i]? = some (.o q m) ∧ σ[i]? = some (some (.ref b)) := fun {b} ⟨k, q, m, e, ev⟩ => by
    rcases arg_at rx ha e ev with ⟨x, e1, e2, r⟩ | ⟨j, d, _, _, _, e4⟩
    · obtain ⟨_, i, q0, rfl, e5, e6⟩ := arg_o e2 r
      exact ⟨k, i, q0, m, e1, e5, e6⟩
    · cases e4
  have own_in : ∀ {b : Addr}, Own ((vs ++ dvs).map some) (as ++ ds.map Sl.d) b → Own σ ρ b := fun h => by
    obtain ⟨k, i, q, m, _, e2, e3⟩ := own_of h
    exact ⟨i, q, m, e2, e3⟩
  -- a handed slot
  have hand : ∀ {k i : Nat} {q : Bool} {m : MO}, xs[k]? = some (.s i) → ρ[i]? = some (.o q m) → ∃ m', as'[k]? = some (.o true m') ∧ ∃ p, σ[i]? = some (some (.ref p)) ∧ ((vs ++ dvs).map some)[k]? = some (some (.ref p)) := fun {k i q m} e1 e2 => by
    obtain ⟨a, e3, e4⟩ := g1 e1
    have e5 : argOf ρ (.s i) = some (.o true m) := by
      simp only [argOf, e2]
    rw [e5] at e4
    cases e4
    have hk : k < as.length := (List.getElem?_eq_some_iff.mp e3).1
    obtain ⟨_, m', e6⟩ := g.par (i := k) (m := m) (by rw [List.getElem?_append_left hk]; exact e3)
    have hv : k < vs.length := by omega
    obtain ⟨x, e7, r⟩ := g2 (k := k) (List.getElem?_eq_getElem hv)
    rw [e1] at e7
    cases e7
    have r : σ[i]? = some (some vs[k]) := r
    obtain ⟨p, e8, _, _⟩ := rs.own e2
    rw [r] at e8
    refine ⟨m', e6, p, by rw [r, e8], ?_⟩
    rw [List.map_append, List.getElem?_append_left (by simpa using hv), List.getElem?_map, List.getElem?_eq_getElem hv]
    exact congrArg some (Option.some.inj e8)
  have still : ∀ {j : Nat} {q : Bool} {m : MO} {p : Addr}, ρ[j]? = some (.o q m) → σ[j]? = some (some (.ref p)) → (∀ k : Nat, xs[k]? ≠ some (.s j)) → ¬ Own ((vs ++ dvs).map some) (as ++ ds.map Sl.d) p := fun {j q m p} h a no z => by
    obtain ⟨k, i, q', m', e1, e2, e3⟩ := own_of z
    have := rs.apart h e2 a e3
    subst this
    exact no k e1
  have notH : ∀ {j : Nat} {q : Bool} {m : MO}, ρ[j]? = some (.o q m) → (∀ (k : Nat) (q q' : Bool) (m m0 : MO), xs[k]? = some (.s j) → ρ[j]? = some (.o q m0) → as'[k]? ≠ some (.o q' m)) → ∀ k : Nat, xs[k]? ≠ some (.s j) := fun {j q m} h no k e => by
    obtain ⟨m', e', _⟩ := hand e h
    exact no k q true m' m e h e'
  have isO : ∀ {j : Nat} {q : Bool} {m : MO}, (putBack ρ xs as')[j]? = some (.o q m) → ∃ m0, ρ[j]? = some (.o q m0) := fun {j q m} h => by
    rcases putBack_get h with ⟨k, q0, q', m1, m0, _, e2, _, e4⟩ | ⟨e, _⟩
    · cases e4
      exact ⟨m0, e2⟩
    · exact ⟨m, e⟩
  have len : (putBack ρ xs as').length = ρ.length := by
    have : ∀ (xs : List Vl) (as : List Sl), (putBack ρ xs as).length = ρ.length := by
      intro xs
      induction xs with
      | nil => intro as; rfl
      | cons x xs ih =>
        intro as
        cases as with
        | nil => cases x <;> rfl
        | cons a as =>
          cases x with
          | d _ => exact ih as
          | f _ => exact ih as
          | s i =>
            cases a with
            | o q m =>
              unfold putBack
              split
              · rw [List.length_set, ih as]
              · exact ih as
            | un => exact ih as
            | d _ => exact ih as
            | ex _ => exact ih as
    exact this xs as'
  exact {
    rs := {
      len := by rw [len]; exact rs.len
      sub := g.rs.sub
      dat := fun {j x} h => by
        rcases putBack_get h with ⟨_, _, _, _, _, _, _, _, e4⟩ | ⟨e, _⟩
        · cases e4
        · obtain ⟨v, a, b⟩ := rs.dat e
          exact ⟨v, a, b.mono g.fro⟩
      own := fun {j q m} h => by
        rcases putBack_get h with ⟨k, q0, q', m1, m0, e1, e2, e3, e4⟩ | ⟨e, no⟩
        · cases e4
          obtain ⟨m', e5, p, e6, e7⟩ := hand e1 e2
          rw [e3] at e5
          cases e5
          obtain ⟨p', a, b, c⟩ := g.rs.own e3
          rw [e7] at a
          cases a
          exact ⟨p, e6, b, c⟩
        · obtain ⟨p, a, b, c⟩ := rs.own e
          obtain ⟨ws, t⟩ := c.there
          have no' := still e a (notH e no)
          exact ⟨p, a, g.freshF b ⟨_, t⟩ no', c.mono g.fro (by rw [g.keep t no', t])⟩
      apart := fun h1 h2 a b => by
        obtain ⟨m1, e1⟩ := isO h1
        obtain ⟨m2, e2⟩ := isO h2
        exact rs.apart e1 e2 a b
      exs := fun {j fs} h => by
        rcases putBack_get h with ⟨_, _, _, _, _, _, _, _, e4⟩ | ⟨e, _⟩
        · cases e4
        · obtain ⟨a0, d, vfs, hc, a, b, c, f⟩ := rs.exs e
          have no : ¬ Own ((vs ++ dvs).map some) (as ++ ds.map Sl.d) d := fun z => by
            obtain ⟨_, m, rm⟩ := (own_in z).some rs
            obtain ⟨ws, t⟩ := rm.there
            rw [c] at t
            cases t
          exact ⟨a0, d, vfs, hc, a, g.freshF b ⟨_, c⟩ no, g.keep c no, f.mono g.fro⟩ }
    fro := g.fro
    keep := fun h no => g.keep h fun z => no (own_in z)
    live := g.live
    new := fun h => (g.new h).imp_right fun z => z.imp_right own_in
    own := fun {b} ⟨j, q, m, h, a⟩ => by
      obtain ⟨m0, e⟩ := isO h
      exact .inl ⟨j, q, m0, e, a⟩
    par := fun {j m} h => by
      refine ⟨rfl, ?_⟩
      cases e : (putBack ρ xs as')[j]? with
      | none =>
        have := (List.getElem?_eq_some_iff.mp h).1
        rw [List.getElem?_eq_none_iff, len] at e
        omega
      | some sl =>
        rcases putBack_get e with ⟨k, q0, q', m1, m0, _, e2, _, e4⟩ | ⟨e', _⟩
        · rw [h] at e2
          cases e2
          exact ⟨m1, by rw [e4]⟩
        · rw [h] at e'
          exact ⟨m, e'.symm⟩ }
theorem call_wish {W : WX} {g : Rho → R Vl} {n : Nat} {Q : VK} (rs : RS K mg F H σ ρ) (l : ∀ b, H b = none → H0 b = none) (rx : RepVs K mg Hb F H σ ρ xs vs) (rd : Reps K mg F ds dvs) (hn : (vs ++ dvs).length = n) (p : Post K mg (relV K mg σ) W H0 F H σ ρ (callG g ds xs ρ) Q) :
    spG K mg n g (vs ++ dvs) H Q fun c d H' => W c d σ H' := by
  unfold callG at p
  split at p
  · exact p.elim
  · rename_i as ha
    split at p
    · rename_i nd
      have ra := RS.args rs rx ha nd rd
      refine ⟨hn, F, _, ra, ?_⟩
      have ow : ∀ {as' : List Sl} {F' H' : Hp} {p : Addr}, Go K mg F H ((vs ++ dvs).map some) (as ++ ds.map Sl.d) F' H' ((vs ++ dvs).map some) as' → H p = none → Own σ (putBack ρ xs as') p → False := fun {as' F' H' p} go z ⟨j, q, m, e1, e2⟩ => by
        have : ∃ m0, ρ[j]? = some (.o q m0) := by
          rcases putBack_get e1 with ⟨k, q0, q', m1, m0, _, e2, _, e4⟩ | ⟨e, _⟩
          · cases e4
            exact ⟨m0, e2⟩
          · exact ⟨m, e⟩
        obtain ⟨m0, e3⟩ := this
        obtain ⟨p', e4, _, rm⟩ := rs.own e3
        rw [e2] at e4
        cases e4
        obtain ⟨ws, t⟩ := rm.there
        rw [z] at t
        cases t
      cases q : g (as ++ ds.map Sl.d) with
      | no =>
        rw [q] at p
        exact p
      | ex c fs as' =>
        rw [q] at p
        exact fun d F' H' vfs go nd' => p d F' H' vfs (Go.called rs rx ha go) (l d nd')
      | ok x as' =>
        rw [q] at p
        cases x with
        | s i => exact p.elim
        | d x => exact fun v F' H' go r => p v F' H' (Go.called rs rx ha go) r
        | f m =>
          intro v F' H' go r
          obtain ⟨a, e1, e2, e3, e4, e5⟩ := r
          exact p v F' H' (Go.called rs rx ha go) ⟨a, e1, l a e2, e3, e4, fun z => ow go e2 z⟩
    · exact p.elim
end
section
variable {X : Cx} {W : WX} {b : Bool} {k : Nat} {f : Addr} {fd : FuncData} {ps : List Str} {g : Rho → R Vl} {dvs : List V} {ds : List Value} {dd : List D} {x : Str} {p pos : Pos} {e : Expr} {es : List Expr} {l : Rho → R (List Vl)}
theorem tA_mono {K : PySem.W.Frag} {mg : Mg} {σ : L2.St} {H : Hp} {Q Q' : List V → Hp → Prop} (h : tA K mg W l σ H Q) (m : ∀ v H, Q v H → Q' v H) : tA K mg W l σ H Q' := by
  obtain ⟨F, ρ, rs, p⟩ := h
  exact ⟨F, ρ, rs, p.mono m⟩
theorem de_call (Fn : FnG b X.prog X.w X.K X.mg X.base (L2.CX X.prog X.w) k f fd ps (spG X.K (mgX X) ps.length g)) (hr : Room k X.A) (hgd : Gd b X.A) (hg : Gl X x) (hm : X.mg x = some (.ref f)) (hk : PySem.W.keepIn X.K (.ref f) = true) (hb : Binds X.K fd ps ds) (hd : Vals dvs ds) (rd : ∀ F, Reps X.K (mgX X) F dd dvs)
    (hn : (e :: es).length + dvs.length = ps.length) (tk : Takes X W) (ha : DA X W (e :: es) l) (hlen : ∀ ρ xs ρ', l ρ = .ok xs ρ' → xs.length = (e :: es).length) (hdb : (x == ("__debug__" : Str)) = false := by decide) (he : starEach (e :: es) X.env = (false, eval e X.env) :: starEach es X.env := by rfl)
    (hpl : (backTo pos (starEach es X.env)).any (·.1) = false := by rfl) : DE X W (.Call (.Name x p) (e :: es) [] pos) (eCall g dd l) :=
  PE.weak (pe_cl Fn hr hgd hg hm hk hb hd tk ha hdb he hpl) fun σ H Q ⟨F, ρ, rs, p⟩ => by
    refine ⟨F, ρ, rs, ?_⟩
    have p : Post X.K (mgX X) (relV X.K (mgX X) σ) W H F H σ ρ (bnd l (callG g dd) ρ) Q := p
    unfold bnd at p
    cases q : l ρ with
    | no =>
      rw [q] at p
      exact p
    | ex c fs ρ' =>
      rw [q] at p
      exact p
    | ok xs ρ1 =>
      rw [q] at p
      intro vs F1 H1 go r
      refine call_wish go.rs (fun b z => go.live z) r (rd F1) ?_ (p.step go)
      rw [List.length_append, (r.get).1, hlen _ _ _ q]
      exact hn
end
end L3

set_option Elab.async false
set_option linter.all false
set_option maxRecDepth 100000
set_option maxHeartbeats 4000000
namespace L3
open PySem PySem.Spec PyProof.Rows L2
/-! ### operators on data -/
/-- a number of fewer than a thousand bits -/
def sm (i : Int) : Bool := decide (i.natAbs < 2 ^ 1000)
theorem sm_of {i : Int} (h : -1000000000000000000 < i) (h' : i < 1000000000000000000) : sm i = true := by
  refine decide_eq_true (Nat.lt_of_lt_of_le (m := 2 ^ 60) (by omega) (Nat.pow_le_pow_right (by decide) (by decide)))
def addD : D → D → Option Vl
  | .int i, .int j => some (.d (.int (i + j)))
  | .str x, .str y => if x.length + y.length ≤ 1000000 then some (.d (.str (x ++ y))) else none
  | .tup xs, .tup ys => if xs.length + ys.length ≤ 100000 then some (.d (.tup (xs ++ ys))) else none
  | .lst xs, .lst ys => if xs.length + ys.length ≤ 100000 then some (.f (.lst (xs ++ ys))) else none
  | _, _ => none
def subD : D → D → Option Vl
  | .int i, .int j => some (.d (.int (i - j)))
  | _, _ => none
def mulD : D → D → Option Vl
  | .int i, .int j => if sm i = true ∧ sm j = true then some (.d (.int (i * j))) else none
  | .lst xs, .int k => if 0 ≤ k ∧ k ≤ 1000 ∧ xs.length ≤ 100 then some (.f (.lst (List.replicate k.toNat xs).flatten)) else none
  | _, _ => none
def modD : D → D → Option Vl
  | .int i, .int j => if 0 < j then some (.d (.int (i % j))) else none
  | _, _ => none
def fdivD : D → D → Option Vl
  | .int i, .int j => if 0 < j ∧ j < 1073741824 then some (.d (.int (i / j))) else none
  | _, _ => none
def powD : D → D → Option Vl
  | .int i, .int j => if 0 ≤ j ∧ j ≤ 1000 ∧ -1000000 < i ∧ i < 1000000 then some (.d (.int (i ^ j.toNat))) else none
  | _, _ => none
def ltD : D → D → Option Vl
  | .int i, .int j => some (.d (.bl (decide (i < j))))
  | _, _ => none
def leD : D → D → Option Vl
  | .int i, .int j => some (.d (.bl (decide (i ≤ j))))
  | _, _ => none
def gtD : D → D → Option Vl
  | .int i, .int j => some (.d (.bl (decide (j < i))))
  | _, _ => none
def geD : D → D → Option Vl
  | .int i, .int j => some (.d (.bl (decide (j ≤ i))))
  | _, _ => none
/-- == of flat data of one kind -/
def eqS : D → D → Option Bool
  | .int i, .int j => some (decide (i = j))
  | .str x, .str y => some (decide (x = y))
  | .bl a, .bl b => some (decide (a = b))
  | .non, .non => some true
  | .int _, .str _ => some false
  | .str _, .int _ => some false
  | .int _, .non => some false
  | .non, .int _ => some false
  | .str _, .non => some false
  | .non, .str _ => some false
  | _, _ => none
def eqD (a b : D) : Option Vl := (eqS a b).map fun k => .d (.bl k)
def neD (a b : D) : Option Vl := (eqS a b).map fun k => .d (.bl (!k))
/-- x in flat data of x's kind -/
def anyS (x : D) : List D → Option Bool
  | [] => some false
  | y :: ys => match eqS y x, anyS x ys with
    | some a, some b => some (a || b)
    | _, _ => none
def flatD : D → Bool
  | .int _ => true
  | .str _ => true
  | .bl _ => true
  | .non => true
  | _ => false
def inD (x y : D) : Option Vl := if flatD x = true then (match y with
    | .tup xs => (anyS x xs).map fun k => Vl.d (.bl (if false then !k else k))
    | .lst xs => (anyS x xs).map fun k => Vl.d (.bl (if false then !k else k))
    | _ => none) else none
def ninD (x y : D) : Option Vl := if flatD x = true then (match y with
    | .tup xs => (anyS x xs).map fun k => Vl.d (.bl (if true then !k else k))
    | .lst xs => (anyS x xs).map fun k => Vl.d (.bl (if true then !k else k))
    | _ => none) else none
def isnD : D → D → Option Vl
  | .non, .non => some (.d (.bl true))
  | .int _, .non => some (.d (.bl false))
  | .str _, .non => some (.d (.bl false))
  | .bl _, .non => some (.d (.bl false))
  | .tup _, .non => some (.d (.bl false))
  | .lst _, .non => some (.d (.bl false))
  | _, _ => none
def nisnD : D → D → Option Vl
  | .non, .non => some (.d (.bl false))
  | .int _, .non => some (.d (.bl true))
  | .str _, .non => some (.d (.bl true))
  | .bl _, .non => some (.d (.bl true))
  | .tup _, .non => some (.d (.bl true))
  | .lst _, .non => some (.d (.bl true))
  | _, _ => none
def negD : D → Option Vl
  | .int i => some (.d (.int (-i)))
  | _ => none

section
variable {K : PySem.W.Frag} {mg : Mg}
abbrev rAdd4 (K : PySem.W.Frag) : R2 := fun x y H Q => (rI0 fun i j => .int (i + j)) x y H Q ∨ (∃ i j, x = .str i ∧ y = .str j ∧ i.length + j.length ≤ sizeLine ∧ Q (.str (i ++ j)) H) ∨ rCatA K x y H Q ∨ rCat x y H Q
theorem mill_line {n : Nat} (h : n ≤ 1000000) : n ≤ sizeLine := Nat.le_trans h (by decide)
theorem cent_line {n : Nat} (h : n ≤ 100000) : n ≤ sizeLine := Nat.le_trans h (by decide)
theorem so_add : So2 K mg (rAdd4 K) addD := by
  intro a b c x y F H Q h s rx ry k
  unfold addD at h
  split at h
  · cases h
    exact .inl ⟨_, _, rx, ry, k _ F H (Ext.refl s) rfl⟩
  · split at h
    · rename_i hz
      cases h
      exact .inr (.inl ⟨_, _, rx, ry, mill_line hz, k _ F H (Ext.refl s) rfl⟩)
    · cases h
  · split at h
    · rename_i xs ys hz
      cases h
      obtain ⟨p, vs, e1, q1, r1⟩ := rx
      obtain ⟨p', ws, e2, q2, r2⟩ := ry
      refine .inr (.inr (.inl ⟨p, p', vs, ws, e1, e2, sub_t s q1, sub_t s q2, by rw [r1.length, r2.length]; exact cent_line hz, fun z => ?_, fun _ z => ?_, fun _ _ n hn => ?_⟩))
      · refine k _ F H (Ext.refl s) ⟨p', ws, rfl, q2, ?_⟩
        have : xs = [] := List.length_eq_zero_iff.mp (by rw [← r1.length, z]; rfl)
        rw [this]
        exact r2
      · refine k _ F H (Ext.refl s) ⟨p, vs, rfl, q1, ?_⟩
        have : ys = [] := List.length_eq_zero_iff.mp (by rw [← r2.length, z]; rfl)
        rw [this, List.append_nil]
        exact r1
      · exact k _ _ _ (Ext.add s hn) ⟨n, _, rfl, .inl (.inl upd_same), (r1.append r2).mono fun b o z => by rw [upd_ne (ne_of_none z (s.none hn))]; exact z⟩
    · cases h
  · split at h
    · rename_i xs ys hz
      cases h
      obtain ⟨p, vs, e1, q1, r1⟩ := rx
      obtain ⟨p', ws, e2, q2, r2⟩ := ry
      exact .inr (.inr (.inr ⟨p, p', vs, ws, e1, e2, q1, q2, by rw [r1.length, r2.length]; exact cent_line hz, fun n hn => k _ F _ (Ext.lay s hn) ⟨n, rfl, hn, s.none hn, _, upd_same, r1.append r2⟩⟩))
    · cases h
  · cases h
theorem so_sub : So2 K mg (rI0 fun i j => .int (i - j)) subD := by
  intro a b c x y F H Q h s rx ry k
  unfold subD at h
  split at h
  · cases h
    exact ⟨_, _, rx, ry, k _ F H (Ext.refl s) rfl⟩
  · cases h
theorem Reps.flat {F : Hp} : ∀ {n : Nat} {xs : List D} {vs : List V}, Reps K mg F xs vs → Reps K mg F (List.replicate n xs).flatten (List.replicate n vs).flatten
  | 0, _, _, _ => rfl
  | n + 1, xs, vs, r => by
    rw [List.replicate_succ, List.replicate_succ, List.flatten_cons, List.flatten_cons]
    exact r.append (Reps.flat r)
theorem so_mul : So2 K mg (fun x y H Q => (rI CMulW fun i j => .int (i * j)) x y H Q ∨ rRep x y H Q) mulD := by
  intro a b c x y F H Q h s rx ry k
  unfold mulD at h
  split at h
  · split at h
    · rename_i hz
      cases h
      exact .inl ⟨_, _, rx, ry, wide_mul (of_decide_eq_true hz.1) (of_decide_eq_true hz.2) (by decide) (by decide) (by decide), k _ F H (Ext.refl s) rfl⟩
    · cases h
  · split at h
    · rename_i xs j hz
      cases h
      obtain ⟨p, vs, e1, q1, r1⟩ := rx
      refine .inr ⟨p, j, vs, e1, ry, q1, by omega, by omega, ?_, fun n hn => k _ F _ (Ext.lay s hn) ⟨n, rfl, hn, s.none hn, _, upd_same, r1.flat⟩⟩
      rw [r1.length]
      refine cent_line (Nat.le_trans (Nat.mul_le_mul hz.2.2 (show j.toNat ≤ 1000 by omega)) (by decide))
    · cases h
  · cases h
theorem so_mod : So2 K mg (rI (fun _ j => 0 < j) fun i j => .int (i % j)) modD := by
  intro a b c x y F H Q h s rx ry k
  unfold modD at h
  split at h
  · split at h
    · rename_i hz
      cases h
      exact ⟨_, _, rx, ry, hz, k _ F H (Ext.refl s) rfl⟩
    · cases h
  · cases h
theorem so_fdiv : So2 K mg (rI CDiv fun i j => .int (i / j)) fdivD := by
  intro a b c x y F H Q h s rx ry k
  unfold fdivD at h
  split at h
  · split at h
    · rename_i hz
      cases h
      exact ⟨_, _, rx, ry, hz, k _ F H (Ext.refl s) rfl⟩
    · cases h
  · cases h
theorem so_pow : So2 K mg (rI CPow fun i j => .int (i ^ j.toNat)) powD := by
  intro a b c x y F H Q h s rx ry k
  unfold powD at h
  split at h
  · split at h
    · rename_i i j hz
      cases h
      exact ⟨_, _, rx, ry, ⟨hz.1, by omega, by omega⟩, k _ F H (Ext.refl s) rfl⟩
    · cases h
  · cases h
theorem so_lt : So2 K mg (rI0 fun i j => .bl (decide (i < j))) ltD := by
  intro a b c x y F H Q h s rx ry k
  unfold ltD at h
  split at h
  · cases h
    exact ⟨_, _, rx, ry, k _ F H (Ext.refl s) rfl⟩
  · cases h
theorem so_le : So2 K mg (rI0 fun i j => .bl (decide (i ≤ j))) leD := by
  intro a b c x y F H Q h s rx ry k
  unfold leD at h
  split at h
  · cases h
    exact ⟨_, _, rx, ry, k _ F H (Ext.refl s) rfl⟩
  · cases h
theorem so_gt : So2 K mg (rI0 fun i j => .bl (decide (j < i))) gtD := by
  intro a b c x y F H Q h s rx ry k
  unfold gtD at h
  split at h
  · cases h
    exact ⟨_, _, rx, ry, k _ F H (Ext.refl s) rfl⟩
  · cases h
theorem so_ge : So2 K mg (rI0 fun i j => .bl (decide (j ≤ i))) geD := by
  intro a b c x y F H Q h s rx ry k
  unfold geD at h
  split at h
  · cases h
    exact ⟨_, _, rx, ry, k _ F H (Ext.refl s) rfl⟩
  · cases h
theorem eqS_scal {F H : Hp} {a b : D} {k : Bool} {x y : V} (h : eqS a b = some k) (rx : RepW K mg F H a x) (ry : RepW K mg F H b y) : scal x y = true ∧ decide (x = y) = k ∧ flatV x = true ∧ flatV y = true ∧ eqV x y = k := by
  cases a with
  | int i =>
    cases (show x = .int i from rx)
    cases b with
    | int j =>
      cases (show y = .int j from ry)
      cases h
      exact ⟨rfl, by simp, rfl, rfl, by simp [eqV]; rfl⟩
    | str j =>
      cases (show y = .str j from ry)
      cases h
      exact ⟨rfl, by simp, rfl, rfl, rfl⟩
    | non =>
      cases (show y = .non from ry)
      cases h
      exact ⟨rfl, by simp, rfl, rfl, rfl⟩
    | _ => cases h
  | str i =>
    cases (show x = .str i from rx)
    cases b with
    | int j =>
      cases (show y = .int j from ry)
      cases h
      exact ⟨rfl, by simp, rfl, rfl, rfl⟩
    | str j =>
      cases (show y = .str j from ry)
      cases h
      exact ⟨rfl, by simp, rfl, rfl, by simp [eqV]; rfl⟩
    | non =>
      cases (show y = .non from ry)
      cases h
      exact ⟨rfl, by simp, rfl, rfl, rfl⟩
    | _ => cases h
  | bl i =>
    cases (show x = .bl i from rx)
    cases b with
    | bl j =>
      cases (show y = .bl j from ry)
      cases h
      exact ⟨rfl, by simp, rfl, rfl, by simp [eqV]; rfl⟩
    | _ => cases h
  | non =>
    cases (show x = .non from rx)
    cases b with
    | int j =>
      cases (show y = .int j from ry)
      cases h
      exact ⟨rfl, by simp, rfl, rfl, rfl⟩
    | str j =>
      cases (show y = .str j from ry)
      cases h
      exact ⟨rfl, by simp, rfl, rfl, rfl⟩
    | non =>
      cases (show y = .non from ry)
      cases h
      exact ⟨rfl, by simp, rfl, rfl, rfl⟩
    | _ => cases h
  | _ => cases h
theorem so_eq : So2 K mg rEq eqD := by
  intro a b c x y F H Q h s rx ry k
  obtain ⟨z, hz, rfl⟩ := Option.map_eq_some_iff.mp h
  obtain ⟨e1, e2, _⟩ := eqS_scal hz rx ry
  exact ⟨e1, k _ F H (Ext.refl s) (by rw [e2]; rfl)⟩
theorem so_ne : So2 K mg rNe neD := by
  intro a b c x y F H Q h s rx ry k
  obtain ⟨z, hz, rfl⟩ := Option.map_eq_some_iff.mp h
  obtain ⟨e1, e2, _⟩ := eqS_scal hz rx ry
  exact ⟨e1, k _ F H (Ext.refl s) (by rw [e2]; rfl)⟩
theorem any_in {F H : Hp} (s : Sub F H) {a : D} {x : V} (rx : RepW K mg F H a x) : ∀ {xs : List D} {vs : List V} {k : Bool}, anyS a xs = some k → Reps K mg F xs vs → vs.all flatV = true ∧ inV x vs = k ∧ (xs ≠ [] → flatV x = true)
  | [], vs, k, h, r => by
    cases (show vs = [] from r)
    cases h
    exact ⟨rfl, rfl, fun z => absurd rfl z⟩
  | y :: ys, vs, k, h, ⟨v, r, e, ry, t⟩ => by
    subst e
    unfold anyS at h
    split at h
    · rename_i p q e1 e2
      cases h
      obtain ⟨a1, a2, _⟩ := any_in s rx e2 t
      obtain ⟨_, _, b1, b2, b3⟩ := eqS_scal e1 (Rep.toW s ry) rx
      refine ⟨?_, ?_, fun _ => b2⟩
      · rw [List.all_cons, b1, a1]
        rfl
      · unfold inV at a2 ⊢
        rw [List.any_cons, b3, a2]
    · cases h
theorem inD_some {x y : D} {c : Vl} {neg : Bool} (h : (match y with
    | .tup xs => (anyS x xs).map fun k => Vl.d (.bl (if neg then !k else k))
    | .lst xs => (anyS x xs).map fun k => Vl.d (.bl (if neg then !k else k))
    | _ => none) = some c) (hx : flatD x = true) {F H : Hp} {Q : VK} {v w : V} (s : Sub F H) (rx : RepW K mg F H x v) (ry : RepW K mg F H y w) (k : ∀ v F' H', Ext F H F' H' → RepX K mg H F' H' c v → Q v H') : rIn K neg v w H Q := by
  have fx : flatV v = true := by
    cases x with
    | int i =>
      cases (show v = .int i from rx)
      rfl
    | str i =>
      cases (show v = .str i from rx)
      rfl
    | bl i =>
      cases (show v = .bl i from rx)
      rfl
    | non =>
      cases (show v = .non from rx)
      rfl
    | _ => cases hx
  cases y with
  | tup xs =>
    obtain ⟨z, hz, rfl⟩ := Option.map_eq_some_iff.mp h
    obtain ⟨p, vs, e1, q1, r1⟩ := ry
    obtain ⟨a1, a2, _⟩ := any_in s rx hz r1
    exact ⟨p, vs, e1, .inr (sub_t s q1), fx, a1, k _ F H (Ext.refl s) (by rw [a2]; rfl)⟩
  | lst xs =>
    obtain ⟨z, hz, rfl⟩ := Option.map_eq_some_iff.mp h
    obtain ⟨p, vs, e1, q1, r1⟩ := ry
    obtain ⟨a1, a2, _⟩ := any_in s rx hz r1
    exact ⟨p, vs, e1, .inl (.inl (.inl q1)), fx, a1, k _ F H (Ext.refl s) (by rw [a2]; rfl)⟩
  | _ => cases h
theorem so_in : So2 K mg (rIn K false) inD := by
  intro a b c x y F H Q h s rx ry k
  unfold inD at h
  split at h
  · rename_i hf
    exact inD_some (neg := false) h hf s rx ry k
  · cases h
theorem so_nin : So2 K mg (rIn K true) ninD := by
  intro a b c x y F H Q h s rx ry k
  unfold ninD at h
  split at h
  · rename_i hf
    exact inD_some (neg := true) h hf s rx ry k
  · cases h
theorem so_isn : So2 K mg (fun x y H Q => y = .non ∧ Q (.bl (decide (x = .non))) H) isnD := by
  intro a b c x y F H Q h s rx ry k
  unfold isnD at h
  split at h
  · cases h
    cases (show x = .non from rx)
    exact ⟨ry, k _ F H (Ext.refl s) rfl⟩
  · cases h
    cases (show x = .int _ from rx)
    exact ⟨ry, k _ F H (Ext.refl s) rfl⟩
  · cases h
    cases (show x = .str _ from rx)
    exact ⟨ry, k _ F H (Ext.refl s) rfl⟩
  · cases h
    cases (show x = .bl _ from rx)
    exact ⟨ry, k _ F H (Ext.refl s) rfl⟩
  · cases h
    obtain ⟨p, vs, e1, _⟩ := rx
    subst e1
    exact ⟨ry, k _ F H (Ext.refl s) rfl⟩
  · cases h
    obtain ⟨p, vs, e1, _⟩ := rx
    subst e1
    exact ⟨ry, k _ F H (Ext.refl s) rfl⟩
  · cases h
theorem so_nisn : So2 K mg (fun x y H Q => y = .non ∧ Q (.bl (!decide (x = .non))) H) nisnD := by
  intro a b c x y F H Q h s rx ry k
  unfold nisnD at h
  split at h
  · cases h
    cases (show x = .non from rx)
    exact ⟨ry, k _ F H (Ext.refl s) rfl⟩
  · cases h
    cases (show x = .int _ from rx)
    exact ⟨ry, k _ F H (Ext.refl s) rfl⟩
  · cases h
    cases (show x = .str _ from rx)
    exact ⟨ry, k _ F H (Ext.refl s) rfl⟩
  · cases h
    cases (show x = .bl _ from rx)
    exact ⟨ry, k _ F H (Ext.refl s) rfl⟩
  · cases h
    obtain ⟨p, vs, e1, _⟩ := rx
    subst e1
    exact ⟨ry, k _ F H (Ext.refl s) rfl⟩
  · cases h
    obtain ⟨p, vs, e1, _⟩ := rx
    subst e1
    exact ⟨ry, k _ F H (Ext.refl s) rfl⟩
  · cases h
theorem so_neg : So1 K mg (rU fun i => .int (-i)) negD := by
  intro a c x F H Q h s rx k
  unfold negD at h
  split at h
  · cases h
    exact ⟨_, rx, k _ F H (Ext.refl s) rfl⟩
  · cases h
end
end L3

set_option Elab.async false
set_option linter.all false
set_option maxRecDepth 100000
set_option maxHeartbeats 4000000
namespace L3
open PySem PySem.Spec PyProof.Rows L2
/-! ### built-in calls on data -/
/-- the numbers of data -/
def intsD : List D → Option (List Int)
  | [] => some []
  | .int i :: r => match intsD r with
    | some is => some (i :: is)
    | none => none
  | _ :: _ => none
def sqD : D → Option (List D)
  | .lst xs => some xs
  | .tup xs => some xs
  | _ => none
def lenD : List D → Option Vl
  | [.lst xs] => some (.d (.int xs.length))
  | [.tup xs] => some (.d (.int xs.length))
  | [.str z] => if z.length ≤ 1000000 then some (.d (.int z.length)) else none
  | _ => none
def intD : List D → Option Vl
  | [.int i] => some (.d (.int i))
  | [.bl b] => some (.d (.int (if b then 1 else 0)))
  | _ => none
def absD : List D → Option Vl
  | [.int i] => some (.d (.int (if i < 0 then -i else i)))
  | _ => none
def maxL : List Int → Option Int
  | [] => none
  | x :: xs => some (xs.foldl max x)
def minL : List Int → Option Int
  | [] => none
  | x :: xs => some (xs.foldl min x)
def sumD : List D → Option Vl
  | [x] => (sqD x).bind fun xs => (intsD xs).map fun ns => .d (.int ns.sum)
  | _ => none
def maxD : List D → Option Vl
  | [.int i, .int j] => some (.d (.int (max i j)))
  | [x] => (sqD x).bind fun xs => (intsD xs).bind fun ns => (maxL ns).map fun m => .d (.int m)
  | _ => none
def minD : List D → Option Vl
  | [.int i, .int j] => some (.d (.int (min i j)))
  | [x] => (sqD x).bind fun xs => (intsD xs).bind fun ns => (minL ns).map fun m => .d (.int m)
  | _ => none
def listD : List D → Option Vl
  | [x] => (sqD x).map fun xs => .f (.lst xs)
  | _ => none
def tupD : List D → Option Vl
  | [.lst xs] => some (.d (.tup xs))
  | _ => none
/-! the text of data -/
mutual
def toP : D → PyData
  | .non => .none
  | .bl b => .bool b
  | .int i => .int i
  | .str x => .str x
  | .tup xs => .tuple (toPs xs)
  | .lst xs => .list (toPs xs)
  | .ro xs => .list (toPs xs)
  | .ob _ _ => .none
def toPs : List D → List PyData
  | [] => []
  | x :: xs => toP x :: toPs xs
end
mutual
/-- data that can be shown -/
def shD : D → Bool
  | .non => true
  | .bl _ => true
  | .int i => decide (i.natAbs < 10 ^ 100)
  | .str x => x.cps.toList.all fun c => decide (c < 16 ^ 8)
  | .tup xs => shDs xs
  | .lst xs => shDs xs
  | .ro xs => shDs xs
  | .ob _ _ => false
def shDs : List D → Bool
  | [] => true
  | x :: xs => shD x && shDs xs
end
def reprD : List D → Option Vl
  | [x] => (sqD x).bind fun _ => if shD x = true ∧ (toP x).bulk ≤ 100000 ∧ (toP x).depth ≤ 60 then some (.d (.str (toP x).shown)) else none
  | _ => none

section
variable {K : PySem.W.Frag} {mg : Mg} {F H : Hp}
theorem ints_reps : ∀ {xs : List D} {vs : List V} {ns : List Int}, intsD xs = some ns → Reps K mg F xs vs → vs = ns.map V.int
  | [], _, _, h, r => by
    cases h
    exact r
  | .int i :: xs, _, ns, h, ⟨v, r, e, a, t⟩ => by
    unfold intsD at h
    split at h
    · rename_i is hi
      cases h
      cases (show v = .int i from a)
      rw [e, List.map_cons, ints_reps hi t]
    · cases h
  | .non :: _, _, _, h, _ => by cases h
  | .bl _ :: _, _, _, h, _ => by cases h
  | .str _ :: _, _, _, h, _ => by cases h
  | .tup _ :: _, _, _, h, _ => by cases h
  | .lst _ :: _, _, _, h, _ => by cases h
  | .ro _ :: _, _, _, h, _ => by cases h
  | .ob _ _ :: _, _, _, h, _ => by cases h
theorem sq_rep {x : D} {v : V} {xs : List D} (s : Sub F H) (h : sqD x = some xs) (r : RepW K mg F H x v) : ∃ p vs, v = .ref p ∧ (SqL K H p vs ∨ SqT K H p vs) ∧ Reps K mg F xs vs := by
  cases x with
  | lst ys =>
    cases h
    obtain ⟨p, vs, e, q, t⟩ := r
    exact ⟨p, vs, e, .inl (.inl (.inl q)), t⟩
  | tup ys =>
    cases h
    obtain ⟨p, vs, e, q, t⟩ := r
    exact ⟨p, vs, e, .inr (sub_t s q), t⟩
  | _ => cases h
abbrev rLen (K : PySem.W.Frag) : List V → Hp → VK → Prop := fun xs H Q => (∃ p ys, xs = [.ref p] ∧ (SqL K H p ys ∨ SqT K H p ys) ∧ Q (.int ys.length) H) ∨ ∃ z, xs = [.str z] ∧ z.length ≤ sizeLine ∧ Q (.int z.length) H
theorem so_len : SoN K mg (rLen K) lenD := by
  intro as c vs F H Q h s r k
  unfold lenD at h
  split at h
  · cases h
    obtain ⟨v, _, e, rx, e2⟩ := r
    cases (show _ = [] from e2)
    obtain ⟨p, ws, e1, q, t⟩ := rx
    subst e e1
    exact .inl ⟨p, ws, rfl, .inl (.inl (.inl q)), by rw [t.length]; exact k _ F H (Ext.refl s) rfl⟩
  · cases h
    obtain ⟨v, _, e, rx, e2⟩ := r
    cases (show _ = [] from e2)
    obtain ⟨p, ws, e1, q, t⟩ := rx
    subst e e1
    exact .inl ⟨p, ws, rfl, .inr (sub_t s q), by rw [t.length]; exact k _ F H (Ext.refl s) rfl⟩
  · split at h
    · rename_i z hz
      cases h
      obtain ⟨v, _, e, rx, e2⟩ := r
      cases (show _ = [] from e2)
      cases (show v = .str _ from rx)
      subst e
      exact .inr ⟨_, rfl, mill_line hz, k _ F H (Ext.refl s) rfl⟩
    · cases h
  · cases h
theorem so_int : SoN K mg (fun xs H Q => (∃ i, xs = [.int i] ∧ Q (.int i) H) ∨ ∃ k, xs = [.bl k] ∧ Q (.int (if k then 1 else 0)) H) intD := by
  intro as c vs F H Q h s r k
  unfold intD at h
  split at h
  · cases h
    obtain ⟨v, _, e, rx, e2⟩ := r
    cases (show _ = [] from e2)
    cases (show v = .int _ from rx)
    subst e
    exact .inl ⟨_, rfl, k _ F H (Ext.refl s) rfl⟩
  · cases h
    obtain ⟨v, _, e, rx, e2⟩ := r
    cases (show _ = [] from e2)
    cases (show v = .bl _ from rx)
    subst e
    exact .inr ⟨_, rfl, k _ F H (Ext.refl s) rfl⟩
  · cases h
theorem so_abs : SoN K mg (fun xs H Q => ∃ i, xs = [.int i] ∧ Q (.int (if i < 0 then -i else i)) H) absD := by
  intro as c vs F H Q h s r k
  unfold absD at h
  split at h
  · cases h
    obtain ⟨v, _, e, rx, e2⟩ := r
    cases (show _ = [] from e2)
    cases (show v = .int _ from rx)
    subst e
    exact ⟨_, rfl, k _ F H (Ext.refl s) rfl⟩
  · cases h
theorem so_list : SoN K mg (fun xs H Q => ∃ p ys, xs = [.ref p] ∧ (SqL K H p ys ∨ SqT K H p ys) ∧ ∀ l, H l = none → Q (.ref l) (upd H l (.lst ys))) listD := by
  intro as c vs F H Q h s r k
  unfold listD at h
  split at h
  · obtain ⟨xs, hx, rfl⟩ := Option.map_eq_some_iff.mp h
    obtain ⟨v, _, e, rx, e2⟩ := r
    cases (show _ = [] from e2)
    subst e
    obtain ⟨p, ws, e1, q, t⟩ := sq_rep s hx rx
    subst e1
    exact ⟨p, ws, rfl, q, fun n hn => k _ F _ (Ext.lay s hn) ⟨n, rfl, hn, s.none hn, _, upd_same, t⟩⟩
  · cases h
/-! sum, max, min of lists and tuples of numbers -/
abbrev rSumQ (K : PySem.W.Frag) : List V → Hp → VK → Prop := fun vs H Q => ∃ (a : Addr) (ns : List Int), vs = [V.ref a] ∧ (SqL K H a (ns.map V.int) ∨ SqT K H a (ns.map V.int)) ∧ Q (.int ns.sum) H
abbrev rBestQ (K : PySem.W.Frag) (le : Int → Int → Prop) : List V → Hp → VK → Prop := fun vs H Q => ∃ (a : Addr) (ns : List Int), vs = [V.ref a] ∧ (SqL K H a (ns.map V.int) ∨ SqT K H a (ns.map V.int)) ∧ 0 < ns.length ∧ ∀ m, m ∈ ns → (∀ y, y ∈ ns → le y m) → Q (.int m) H
theorem so_sum : SoN K mg (rSumQ K) sumD := by
  intro as c vs F H Q h s r k
  unfold sumD at h
  split at h
  · obtain ⟨xs, hx, h⟩ := Option.bind_eq_some_iff.mp h
    obtain ⟨ns, hn, rfl⟩ := Option.map_eq_some_iff.mp h
    obtain ⟨v, _, e, rx, e2⟩ := r
    cases (show _ = [] from e2)
    subst e
    obtain ⟨p, ws, e1, q, t⟩ := sq_rep s hx rx
    subst e1
    cases ints_reps hn t
    exact ⟨p, ns, rfl, q, k _ F H (Ext.refl s) rfl⟩
  · cases h
theorem maxL_is {ns : List Int} {m : Int} (h : maxL ns = some m) : m ∈ ns ∧ ∀ y ∈ ns, y ≤ m := by
  cases ns with
  | nil => cases h
  | cons x xs =>
    cases h
    have : ∀ (xs : List Int) (x : Int), xs.foldl max x ∈ x :: xs ∧ ∀ y ∈ x :: xs, y ≤ xs.foldl max x := by
      intro xs
      induction xs with
      | nil => exact fun x => ⟨List.mem_cons_self .., fun y hy => by simp at hy; rw [hy]; exact Int.le_refl _⟩
      | cons z zs ih =>
        intro x
        obtain ⟨a, b⟩ := ih (max x z)
        rw [List.foldl_cons]
        have mle : max x z ≤ zs.foldl max (max x z) := b _ (List.mem_cons_self ..)
        refine ⟨?_, fun y hy => ?_⟩
        · rcases List.mem_cons.mp a with e | e
          · rw [e]
            by_cases hxz : x ≤ z
            · rw [Int.max_eq_right hxz]; simp
            · rw [Int.max_eq_left (by omega)]; simp
          · exact List.mem_cons_of_mem _ (List.mem_cons_of_mem _ e)
        · rcases List.mem_cons.mp hy with e | e
          · omega
          · rcases List.mem_cons.mp e with e | e
            · omega
            · exact b y (List.mem_cons_of_mem _ e)
    exact this xs x
theorem minL_is {ns : List Int} {m : Int} (h : minL ns = some m) : m ∈ ns ∧ ∀ y ∈ ns, m ≤ y := by
  cases ns with
  | nil => cases h
  | cons x xs =>
    cases h
    have : ∀ (xs : List Int) (x : Int), xs.foldl min x ∈ x :: xs ∧ ∀ y ∈ x :: xs, xs.foldl min x ≤ y := by
      intro xs
      induction xs with
      | nil => exact fun x => ⟨List.mem_cons_self .., fun y hy => by simp at hy; rw [hy]; exact Int.le_refl _⟩
      | cons z zs ih =>
        intro x
        obtain ⟨a, b⟩ := ih (min x z)
        rw [List.foldl_cons]
        have mle : zs.foldl min (min x z) ≤ min x z := b _ (List.mem_cons_self ..)
        refine ⟨?_, fun y hy => ?_⟩
        · rcases List.mem_cons.mp a with e | e
          · rw [e]
            by_cases hxz : x ≤ z
            · rw [Int.min_eq_left hxz]; simp
            · rw [Int.min_eq_right (by omega)]; simp
          · exact List.mem_cons_of_mem _ (List.mem_cons_of_mem _ e)
        · rcases List.mem_cons.mp hy with e | e
          · omega
          · rcases List.mem_cons.mp e with e | e
            · omega
            · exact b y (List.mem_cons_of_mem _ e)
    exact this xs x
theorem maxL_pos {ns : List Int} {m : Int} (h : maxL ns = some m) : 0 < ns.length := by
  cases ns with
  | nil => cases h
  | cons x xs => exact Nat.succ_pos _
theorem minL_pos {ns : List Int} {m : Int} (h : minL ns = some m) : 0 < ns.length := by
  cases ns with
  | nil => cases h
  | cons x xs => exact Nat.succ_pos _
abbrev rMaxQ (K : PySem.W.Frag) : List V → Hp → VK → Prop := fun vs H Q => (∃ i j, vs = [.int i, .int j] ∧ Q (.int (if j > i then j else i)) H) ∨ rBestQ K (fun y m => y ≤ m) vs H Q
abbrev rMinQ (K : PySem.W.Frag) : List V → Hp → VK → Prop := fun vs H Q => (∃ i j, vs = [.int i, .int j] ∧ Q (.int (if j < i then j else i)) H) ∨ rBestQ K (fun y m => m ≤ y) vs H Q
theorem so_max : SoN K mg (rMaxQ K) maxD := by
  intro as c vs F H Q h s r k
  unfold maxD at h
  split at h
  · rename_i i j
    cases h
    obtain ⟨v, _, e, rx, w, _, e2, ry, e3⟩ := r
    cases (show _ = [] from e3)
    cases (show v = .int _ from rx)
    cases (show w = .int _ from ry)
    subst e e2
    refine .inl ⟨_, _, rfl, k _ F H (Ext.refl s) ?_⟩
    show V.int _ = V.int _
    congr 1
    split <;> omega
  · obtain ⟨xs, hx, h⟩ := Option.bind_eq_some_iff.mp h
    obtain ⟨ns, hn, h⟩ := Option.bind_eq_some_iff.mp h
    obtain ⟨m, hm, rfl⟩ := Option.map_eq_some_iff.mp h
    obtain ⟨v, _, e, rx, e2⟩ := r
    cases (show _ = [] from e2)
    subst e
    obtain ⟨p, ws, e1, q, t⟩ := sq_rep s hx rx
    subst e1
    cases ints_reps hn t
    obtain ⟨m1, m2⟩ := maxL_is hm
    refine .inr ⟨p, ns, rfl, q, maxL_pos hm, fun z z1 z2 => k _ F H (Ext.refl s) ?_⟩
    show V.int _ = V.int _
    have := m2 z z1
    have := z2 m m1
    congr 1
    omega
  · cases h
theorem so_min : SoN K mg (rMinQ K) minD := by
  intro as c vs F H Q h s r k
  unfold minD at h
  split at h
  · rename_i i j
    cases h
    obtain ⟨v, _, e, rx, w, _, e2, ry, e3⟩ := r
    cases (show _ = [] from e3)
    cases (show v = .int _ from rx)
    cases (show w = .int _ from ry)
    subst e e2
    refine .inl ⟨_, _, rfl, k _ F H (Ext.refl s) ?_⟩
    show V.int _ = V.int _
    congr 1
    split <;> omega
  · obtain ⟨xs, hx, h⟩ := Option.bind_eq_some_iff.mp h
    obtain ⟨ns, hn, h⟩ := Option.bind_eq_some_iff.mp h
    obtain ⟨m, hm, rfl⟩ := Option.map_eq_some_iff.mp h
    obtain ⟨v, _, e, rx, e2⟩ := r
    cases (show _ = [] from e2)
    subst e
    obtain ⟨p, ws, e1, q, t⟩ := sq_rep s hx rx
    subst e1
    cases ints_reps hn t
    obtain ⟨m1, m2⟩ := minL_is hm
    refine .inr ⟨p, ns, rfl, q, minL_pos hm, fun z z1 z2 => k _ F H (Ext.refl s) ?_⟩
    show V.int _ = V.int _
    have := m2 z z1
    have := z2 m m1
    congr 1
    omega
  · cases h
end
section
variable {prog : Program} {w : World} {A : Around} {E : Value → Shared → Prop} {s : Shared} {l : Addr} {xs : Array (Int × Tok)}
theorem iter_intTup {Q : Value → Shared → Prop} (hl : s.heap.IsTuple l (intItems xs))
    (h : ∀ s₂ : Shared, s₂ = { s with heap := s.heap.push { cls := .type "tuple_iterator", data := .fields #[.ref l, .int 0 0] } } →
      (s₂.heap.IsTupleIter s.heap.objs.size l 0 ∧ s₂.heap.IsTuple l (intItems xs)) → (∀ b ∈ [s.heap.objs.size, l], b < s₂.heap.objs.size) → l ≠ s.heap.objs.size → Q (.ref s.heap.objs.size) s₂) :
    wpAny (model prog w) A (pyIter (.ref l)) Q E s := by
  have hlt : l < s.heap.objs.size := by obtain ⟨_, e, _⟩ := hl; exact Heap.lt_size e
  refine wpAny_pyIter_tuple hl (h _ rfl ⟨⟨_, Heap.get?_push_size _ rfl, rfl, rfl⟩, hl.push _⟩ (fun b hb => ?_) (Nat.ne_of_lt hlt))
  show b < (s.heap.push _).objs.size
  rw [Heap.size_push]
  rcases List.mem_cons.mp hb with rfl | hb
  · exact Nat.lt_succ_self _
  · rcases List.mem_cons.mp hb with rfl | hb
    · exact Nat.lt_succ_of_lt hlt
    · cases hb
theorem kept_new {o : Obj} {h' : Heap} (hk : ∀ b u, b ∉ [s.heap.objs.size] → (s.heap.push o).get? b = some u → h'.get? b = some u) :
    ∀ b u, s.heap.get? b = some u → h'.get? b = some u := fun b u e => by
  refine hk b u (fun hm => ?_) (Heap.get?_push_of_some _ e)
  rcases List.mem_cons.mp hm with e1 | hm
  · exact absurd (e1 ▸ Heap.lt_size e) (Nat.lt_irrefl _)
  · cases hm
theorem max_tup {its : List Value} {ns : List Int} {Q : Value → Shared → Prop} (hh : A.handled = none) (hl : s.heap.IsTuple l its.toArray) (hi : IntsAre its ns) (hne : 0 < ns.length)
    (h : ∀ h' tk M t', (∀ b o, s.heap.get? b = some o → h'.get? b = some o) → M ∈ ns → (∀ a, a ∈ ns → a ≤ M) → Q (.int M t') { s with heap := h', toks := tk }) : wpAny (model prog w) A (call (.builtin "max") [.ref l]) Q E s := by
  obtain ⟨xs, e⟩ := hi.allInts.items
  have hn : numsOf (intItems xs).toList = ns := by rw [← e]; exact hi.numsOf
  rw [nums_intItems] at hn
  subst hn
  rw [e] at hl
  have hsz : 0 < xs.size := by simpa using hne
  refine call_max_walk (iter_intTup hl fun s₂ e st hfp hlI => ?_)
  subst e
  refine ⟨_, _, _, _, _, _, _, rfl, Walks.tuple (A := A.in1) hh _ l hlI (intItems xs), st, hfp, by simpa [intItems] using hsz, CmpOf.ints_gt (numAt xs) (fun _ _ => intItems_at), fun v h' tk hP hk => ?_⟩
  have hv : (intItems xs)[argBest (fun i j => decide (numAt xs i > numAt xs j)) (xs.size - 1)]? = some v := by simpa [intItems] using hP
  obtain ⟨t, rfl⟩ := intItems_at hv
  obtain ⟨h1, h2⟩ := argBest_gt (numAt xs) (xs.size - 1)
  refine h h' tk _ t (kept_new hk) ?_ fun a ha => ?_
  · rw [numAt_eq]; exact PySem.getD_mem (by rw [List.length_map, Array.length_toList]; omega)
  · obtain ⟨j, hj, rfl⟩ := mem_getD ha
    rw [List.length_map, Array.length_toList] at hj
    rw [← numAt_eq]; exact h2 j (by omega)
theorem min_tup {its : List Value} {ns : List Int} {Q : Value → Shared → Prop} (hh : A.handled = none) (hl : s.heap.IsTuple l its.toArray) (hi : IntsAre its ns) (hne : 0 < ns.length)
    (h : ∀ h' tk M t', (∀ b o, s.heap.get? b = some o → h'.get? b = some o) → M ∈ ns → (∀ a, a ∈ ns → M ≤ a) → Q (.int M t') { s with heap := h', toks := tk }) : wpAny (model prog w) A (call (.builtin "min") [.ref l]) Q E s := by
  obtain ⟨xs, e⟩ := hi.allInts.items
  have hn : numsOf (intItems xs).toList = ns := by rw [← e]; exact hi.numsOf
  rw [nums_intItems] at hn
  subst hn
  rw [e] at hl
  have hsz : 0 < xs.size := by simpa using hne
  refine call_min_walk (iter_intTup hl fun s₂ e st hfp hlI => ?_)
  subst e
  refine ⟨_, _, _, _, _, _, _, rfl, Walks.tuple (A := A.in1) hh _ l hlI (intItems xs), st, hfp, by simpa [intItems] using hsz, CmpOf.ints_lt (numAt xs) (fun _ _ => intItems_at), fun v h' tk hP hk => ?_⟩
  have hv : (intItems xs)[argBest (fun i j => decide (numAt xs i < numAt xs j)) (xs.size - 1)]? = some v := by simpa [intItems] using hP
  obtain ⟨t, rfl⟩ := intItems_at hv
  obtain ⟨h1, h2⟩ := argBest_lt (numAt xs) (xs.size - 1)
  refine h h' tk _ t (kept_new hk) ?_ fun a ha => ?_
  · rw [numAt_eq]; exact PySem.getD_mem (by rw [List.length_map, Array.length_toList]; omega)
  · obtain ⟨j, hj, rfl⟩ := mem_getD ha
    rw [List.length_map, Array.length_toList] at hj
    rw [← numAt_eq]; exact h2 j (by omega)
theorem sum_tup {its : List Value} {ns : List Int} {Q : Value → Shared → Prop} (hh : A.handled = none) (hl : s.heap.IsTuple l its.toArray) (hi : IntsAre its ns)
    (h : ∀ h' tk t', (∀ b o, s.heap.get? b = some o → h'.get? b = some o) → Q (.int ns.sum t') { s with heap := h', toks := tk }) : wpAny (model prog w) A (call (.builtin "sum") [.ref l]) Q E s := by
  obtain ⟨xs, e⟩ := hi.allInts.items
  have hn : numsOf (intItems xs).toList = ns := by rw [← e]; exact hi.numsOf
  rw [nums_intItems] at hn
  rw [e] at hl
  refine call_sum_walkG (iter_intTup hl fun s₂ e st hfp hlI => ?_)
  subst e
  refine ⟨_, _, _, _, _, _, numAt xs, rfl, Walks.tuple (A := A.in1) hh _ l hlI (intItems xs), st, hfp, (fun _ _ => intItems_at), fun h' tk t' hk => ?_⟩
  have := h h' tk t' (kept_new hk)
  have e3 : (intItems xs).size = xs.size := by simp [intItems]
  rw [e3, preSum_eq, List.take_of_length_le (by simp), hn]
  exact this
end
section
variable {X : Cx}
theorem cr_sumQ (hc : X.calm = true) : CallR X (.builtin "sum") (rSumQ X.K) := by
  intro pins s σ H vs us Q I r h
  obtain ⟨a, ns, rfl, hs, q⟩ := h
  rw [Vals.ref1 r]
  rcases hs with hs | hs
  · obtain ⟨its, rv, hl, _⟩ := I.list hs
    exact sum_raw (I.ok.hd hc) hl.isList rv.ints fun h' tk t' hk => ⟨.int _, H, I.kept hk, ⟨_, rfl⟩, q⟩
  · obtain ⟨its, rv, hl, _⟩ := I.tuple hs
    exact sum_tup (I.ok.hd hc) hl rv.ints fun h' tk t' hk => ⟨.int _, H, I.kept hk, ⟨_, rfl⟩, q⟩
theorem cr_maxB (hc : X.calm = true) : CallR X (.builtin "max") (rBestQ X.K fun y m => y ≤ m) := by
  intro pins s σ H vs us Q I r h
  obtain ⟨a, ns, rfl, hs, hne, q⟩ := h
  rw [Vals.ref1 r]
  rcases hs with hs | hs
  · obtain ⟨its, rv, hl, _⟩ := I.list hs
    exact max_raw (I.ok.hd hc) hl.isList rv.ints hne fun h' tk m t' hk h1 h2 => ⟨.int _, H, I.kept hk, ⟨_, rfl⟩, q m h1 h2⟩
  · obtain ⟨its, rv, hl, _⟩ := I.tuple hs
    exact max_tup (I.ok.hd hc) hl rv.ints hne fun h' tk m t' hk h1 h2 => ⟨.int _, H, I.kept hk, ⟨_, rfl⟩, q m h1 h2⟩
theorem cr_minB (hc : X.calm = true) : CallR X (.builtin "min") (rBestQ X.K fun y m => m ≤ y) := by
  intro pins s σ H vs us Q I r h
  obtain ⟨a, ns, rfl, hs, hne, q⟩ := h
  rw [Vals.ref1 r]
  rcases hs with hs | hs
  · obtain ⟨its, rv, hl, _⟩ := I.list hs
    exact min_raw (I.ok.hd hc) hl.isList rv.ints hne fun h' tk m t' hk h1 h2 => ⟨.int _, H, I.kept hk, ⟨_, rfl⟩, q m h1 h2⟩
  · obtain ⟨its, rv, hl, _⟩ := I.tuple hs
    exact min_tup (I.ok.hd hc) hl rv.ints hne fun h' tk m t' hk h1 h2 => ⟨.int _, H, I.kept hk, ⟨_, rfl⟩, q m h1 h2⟩
theorem cr_maxQ (hc : X.calm = true) : CallR X (.builtin "max") (rMaxQ X.K) := (call_max2 hc).or (cr_maxB hc)
theorem cr_minQ (hc : X.calm = true) : CallR X (.builtin "min") (rMinQ X.K) := (call_min2 hc).or (cr_minB hc)
theorem cr_lenQ : CallR X (.builtin "len") (rLen X.K) := call_len_seq.or call_len_str
end
/-! repr -/
section
variable {K : PySem.W.Frag} {mg : Mg} {F H : Hp}
mutual
theorem dp_of (s : Sub F H) : ∀ {x : D} {v : V}, shD x = true → Rep K mg F x v → Dp K H v (toP x)
  | .non, _, _, h => by
    rw [show _ = V.non from h]
    exact .non
  | .bl b, _, _, h => by
    rw [show _ = V.bl b from h]
    exact .bl b
  | .int i, _, _, h => by
    rw [show _ = V.int i from h]
    exact .int i
  | .str z, _, _, h => by
    rw [show _ = V.str z from h]
    exact .str z
  | .tup xs, _, c, ⟨a, vs, e, h, r⟩ => by
    rw [e]
    exact .tup (sub_t s h) (dps_of s (xs := xs) c r)
  | .lst xs, _, c, ⟨a, vs, e, h, r⟩ => by
    rw [e]
    exact .lst (.inl (.inl (s _ _ h))) (dps_of s (xs := xs) c r)
  | .ro xs, _, c, ⟨a, vs, e, h, r⟩ => by
    rw [e]
    exact .lst (sub_l s h) (dps_of s (xs := xs) c r)
  | .ob _ _, _, c, _ => by cases c
theorem dps_of (s : Sub F H) : ∀ {xs : List D} {vs : List V}, shDs xs = true → Reps K mg F xs vs → DpAll K H vs (toPs xs)
  | [], _, _, h => by
    rw [show _ = [] from h]
    exact .nil
  | x :: xs, _, c, ⟨v, r, e, h, t⟩ => by
    have c : (shD x && shDs xs) = true := c
    rw [Bool.and_eq_true] at c
    rw [e]
    exact .cons (dp_of s c.1 h) (dps_of s c.2 t)
end
theorem pow_small {n : Nat} (h : n < 10 ^ 100) : n.log2 < 400 := by
  by_cases z : n = 0
  · rw [z]; decide
  · exact (Nat.log2_lt z).mpr (Nat.lt_of_lt_of_le h (by decide))
mutual
theorem sh_ok : ∀ {x : D}, shD x = true → (toP x).showable = true ∧ (toP x).hasDict = false ∧ (toP x).leavesShort 120 = true
  | .non, _ => ⟨rfl, rfl, rfl⟩
  | .bl b, _ => ⟨rfl, rfl, rfl⟩
  | .int i, h => by
    have h : i.natAbs < 10 ^ 100 := of_decide_eq_true h
    refine ⟨decide_eq_true (Nat.lt_trans (pow_small h) (by decide)), rfl, ?_⟩
    have e := int_text_length_le10 (a := i) (k := 100) (by decide) h
    unfold toP
    unfold PyData.leavesShort
    refine decide_eq_true ?_
    show (Str.ofString (toString i)).length ≤ 120
    rw [PySem.ofString_length]
    omega
  | .str z, h => by
    have h : (z.cps.toList.all fun c => decide (c < 16 ^ 8)) = true := h
    refine ⟨rfl, rfl, ?_⟩
    unfold toP
    unfold PyData.leavesShort
    exact h
  | .tup xs, h => by
    obtain ⟨a, b, c⟩ := shs_ok (xs := xs) h
    unfold toP PyData.showable PyData.hasDict PyData.leavesShort
    exact ⟨a, b, c⟩
  | .lst xs, h => by
    obtain ⟨a, b, c⟩ := shs_ok (xs := xs) h
    unfold toP PyData.showable PyData.hasDict PyData.leavesShort
    exact ⟨a, b, c⟩
  | .ro xs, h => by
    obtain ⟨a, b, c⟩ := shs_ok (xs := xs) h
    unfold toP PyData.showable PyData.hasDict PyData.leavesShort
    exact ⟨a, b, c⟩
  | .ob _ _, h => by cases h
theorem shs_ok : ∀ {xs : List D}, shDs xs = true → PyData.showableAll (toPs xs) = true ∧ PyData.hasDictAll (toPs xs) = false ∧ PyData.leavesShortAll 120 (toPs xs) = true
  | [], _ => by
    unfold toPs PyData.showableAll PyData.hasDictAll PyData.leavesShortAll
    exact ⟨rfl, rfl, rfl⟩
  | x :: xs, c => by
    have c : (shD x && shDs xs) = true := c
    rw [Bool.and_eq_true] at c
    obtain ⟨a1, a2, a3⟩ := sh_ok c.1
    obtain ⟨b1, b2, b3⟩ := shs_ok c.2
    unfold toPs PyData.showableAll PyData.hasDictAll PyData.leavesShortAll
    rw [a1, a2, a3, b1, b2, b3]
    exact ⟨rfl, rfl, rfl⟩
end
def rRepr (K : PySem.W.Frag) (mg : Mg) : List V → Hp → VK → Prop := fun vs H Q => ∃ a d, vs = [.ref a] ∧ Dp K H (.ref a) d ∧ d.showable = true ∧ d.hasDict = false ∧ d.depth ≤ 60 ∧ d.shown.length ≤ sizeLine ∧ Q (.str d.shown) H
theorem so_repr : SoN K mg (rRepr K mg) reprD := by
  intro as c vs F H Q h s r k
  unfold reprD at h
  split at h
  · rename_i x
    obtain ⟨xs, hx, h⟩ := Option.bind_eq_some_iff.mp h
    split at h
    · rename_i hz
      cases h
      obtain ⟨v, _, e, rx, e2⟩ := r
      cases (show _ = [] from e2)
      subst e
      obtain ⟨z1, z2, z3⟩ := hz
      obtain ⟨c1, c2, c3⟩ := sh_ok z1
      obtain ⟨p, ws, e1, q, t⟩ := sq_rep s hx rx
      subst e1
      refine ⟨p, toP x, rfl, ?_, c1, c2, z3, ?_, k _ F H (Ext.refl s) rfl⟩
      · cases x with
        | lst ys =>
          cases hx
          obtain ⟨p', vs, e3, q3, r3⟩ := rx
          cases e3
          exact .lst (.inl (.inl q3)) (dps_of s (xs := xs) z1 r3)
        | tup ys =>
          cases hx
          obtain ⟨p', vs, e3, q3, r3⟩ := rx
          cases e3
          exact .tup (sub_t s q3) (dps_of s (xs := xs) z1 r3)
        | _ => cases hx
      · have := PyData.shown_le_bulk 120 (by decide) _ c3
        have : (120 + 2) * (toP x).bulk ≤ (120 + 2) * 100000 := Nat.mul_le_mul_left _ z2
        rw [sizeLine_eq]
        omega
    · cases h
  · cases h
end
section
variable {X : Cx}
theorem cr_repr {k : Nat} (hg : Gd true X.A) (hr : Room k X.A) : CallR X (.builtin "repr") (rRepr X.K (mgX X)) := by
  intro pins s σ H vs us Q I r h
  obtain ⟨a, d, rfl, hd, h1, h2, h3, h4, q⟩ := h
  rw [Vals.ref1 r]
  obtain ⟨as, rd⟩ := Dp.reads I d _ _ hd rfl
  have un := hr.un
  exact repr_of_reads' rd h1 (PyData.noDict_hsm h2) (hg rfl) (by omega) (fun _ _ e => e) (fun h' u tk hk => ⟨.str _, H, I.kept hk, ⟨_, rfl⟩, q⟩) h4
end
/-! list(range(..)) -/
def eLr (f : Rho → R (List D)) : Rho → R Vl := bnd f fun xs ρ => .ok (.f (.lst xs)) ρ
section
variable {X : Cx} {W : WX} {a b : Expr} {f g : Rho → R Vl}
theorem rgD_reps {K : PySem.W.Frag} {mg : Mg} {F : Hp} (a b : Int) : Reps K mg F (rngD a b) (rgV a b) := Reps.map_of _ _ fun _ _ => rfl
theorem de_lr1 {p p2 pos pos2 : Pos} (hc : X.calm = true) (hl : Gl X "list") (hlm : X.mg "list" = none) (hg : Gl X "range") (hm : X.mg "range" = none) (ha : DE X W a f) (na : starEach [a] X.env = (false, eval a X.env) :: starEach [] X.env := by rfl)
    (nb : starEach [Expr.Call (.Name "range" p) [a] [] pos] X.env = (false, eval (Expr.Call (.Name "range" p) [a] [] pos) X.env) :: starEach [] X.env := by rfl) : DE X W (.Call (.Name "list" p2) [.Call (.Name "range" p) [a] [] pos] [] pos2) (eLr (iR1 f)) :=
  PE.weak (pe_listRg hc hl hlm (prg_1 hg hm ha na) nb) fun σ H Q ⟨F, ρ, rs, p⟩ => by
    unfold eLr iR1 at p
    rw [bnd_assoc] at p
    refine ⟨F, ρ, rs, (Post.bind0 p).mono fun x H1 ⟨F1, ρ1, u, g1, r1, p1⟩ => ?_⟩
    dsimp only [bnd] at p1
    split at p1
    · rename_i xs ρ' hq
      split at hq
      · rename_i k hk
        split at hq
        · rename_i hz
          cases hq
          cases asI_some hk
          cases (show x = .int k from r1)
          refine ⟨k, rfl, ⟨by omega, by omega, by omega, by omega, by omega⟩, fun q hq => ?_⟩
          exact p1 _ F1 _ ((Ext.lay g1.rs.sub hq).go g1.rs) ⟨q, rfl, g1.live hq, g1.rs.sub.none hq, ⟨_, upd_same, rgD_reps _ _⟩, fun z => by
            obtain ⟨_, m', qq⟩ := z.some g1.rs
            obtain ⟨vs, t⟩ := qq.there
            rw [hq] at t
            cases t⟩
        · cases hq
      · cases hq
    · rename_i hq
      split at hq
      · split at hq <;> cases hq
      · cases hq
    · exact p1.elim
end
end L3

set_option Elab.async false
set_option linter.all false
set_option maxRecDepth 100000
set_option maxHeartbeats 4000000
namespace L3
open PySem PySem.Spec PyProof.Rows L2
open ClX
/-! ### an __init__ of an exception class that asks super() -/
/-- the surroundings of a def closed over its class -/
def cxS (CX : CXT) (P : Program) (w : World) (K : PySem.W.Frag) (mg : Str → Option Value) (base : Heap) (N : List Str) (qual : Str) (scope : Scope) (f : Addr) (cd : Value) (cc : Addr) (A : Around) (outer : List Env) (s : Shared) (H : Hp) (E : XK) : Cx where
  prog := P
  w := w
  K := K
  mg := mg
  base := base
  A := A.deeper (PySem.W.ksEnv qual scope s.heap.objs.size f cd cc)
  N := N
  s_0 := s
  H_0 := H
  env := PySem.W.ksEnv qual scope s.heap.objs.size f cd cc
  outer := outer
  stack := PySem.W.ksEnv qual scope s.heap.objs.size f cd cc :: outer
  ex := []
  fn := fun y => y != "__class__"
  calm := true
  pn := []
  xe := fun e s' => wpAny (model P w) (A.deeper (PySem.W.ksEnv qual scope s.heap.objs.size f cd cc)) (leaving (PySem.W.ksEnv qual scope s.heap.objs.size f cd cc) e) (fun _ s'' => CX outer H s E e s'') (fun e' s'' => CX outer H s E e' s'') s'

structure SupScope (N ps : List Str) (sc : Scope) : Prop where
  kind : sc.kind = .function
  co : sc.isCoroutine = false
  gen : sc.isGenerator = false
  nd : N.Nodup
  pre : N.take ps.length = ps
  par : ∀ x ∈ ps, sc.names.lookup x = some .local
  nocell : ∀ y ∈ sc.names, y.2 ≠ .cell
  free : ∀ y ∈ sc.names, y.2 = .free → y.1 = "__class__"
  sup : sc.names.lookup ("super" : Str) = some .globalImplicit
  cls : sc.names.lookup ("__class__" : Str) = some .free

theorem lookup_of_mem {α : Type} : ∀ {l : List (Str × α)} {x : Str} {u : α}, (l.map (·.1)).Nodup → (x, u) ∈ l → l.lookup x = some u
  | [], _, _, _, h => by simp at h
  | (y, v) :: l, x, u, nd, h => by
    rw [List.map_cons, List.nodup_cons] at nd
    rw [List.lookup_cons]
    rcases List.mem_cons.mp h with e | e
    · cases e
      simp
    · have ne : x ≠ y := fun z => nd.1 (z ▸ List.mem_map_of_mem (f := (·.1)) e)
      rw [show (x == y) = false by simpa using ne]
      exact lookup_of_mem nd.2 e
theorem zip_mem {α : Type} : ∀ {ps : List Str} {us : List α} {i : Nat} {x : Str} {u : α}, ps[i]? = some x → us[i]? = some u → (x, u) ∈ ps.zip us
  | [], _, _, _, _, h, _ => by simp at h
  | _ :: _, [], _, _, _, _, h => by simp at h
  | p :: ps, v :: us, 0, x, u, h, k => by
    rw [List.getElem?_cons_zero] at h k
    cases h
    cases k
    exact List.mem_cons_self ..
  | p :: ps, v :: us, i + 1, x, u, h, k => by
    rw [List.getElem?_cons_succ] at h k
    exact List.mem_cons_of_mem _ (zip_mem h k)
theorem zip_nodup {α : Type} {ps : List Str} {us : List α} (h : ps.Nodup) : ((ps.zip us).map (·.1)).Nodup := by
  have : ∀ (ps : List Str) (us : List α), List.Sublist ((ps.zip us).map (·.1)) ps := by
    intro ps
    induction ps with
    | nil => intro us; simp
    | cons p ps ih =>
      intro us
      cases us with
      | nil => simp
      | cons u us => simpa using ih us
  exact h.sublist (this ps us)
theorem inv_sup {CX : CXT} {P : Program} {w : World} {K : PySem.W.Frag} {mg : Str → Option Value} {base : Heap} {N ps : List Str} {qual : Str} {scope : Scope} {f cc : Addr} {cd : Value} {A : Around} {outer : List Env} {s : Shared} {h1 : Heap} {tk : Nat} {H : Hp} {E : XK} {us : List Value} {vs : List V} {oc : Obj} {vc : Option Value}
    (S : SupScope N ps scope) (hd : A.handled = none) (e0 : Env0 P w K mg base A outer s H) (hl : vs.length = ps.length) (r : Vals vs us) (hcc : K.lookup cc = some oc) (hcv : oc.data = .cell vc)
    (ns : h1.Ns s.heap.objs.size (fun x => (ps.zip us).reverse.lookup x)) (hk : ∀ b o, s.heap.get? b = some o → h1.get? b = some o) :
    Inv (cxS CX P w K mg base N qual scope f cd cc A outer s H E) [] (start N vs) H { s with heap := h1, toks := tk } := by
  have hpl : ps.length ≤ N.length := by
    have := congrArg List.length S.pre
    rw [List.length_take] at this
    omega
  have bcc : base.get? cc = some oc := e0.mod.kin _ _ hcc
  have look1 : ∀ x c, (PySem.W.ksEnv qual scope s.heap.objs.size f cd cc).cells.lookup x = some c → x = "__class__" ∧ c = cc := fun x c h => by
    have h : List.lookup x [(("__class__" : Str), cc)] = some c := h
    rw [List.lookup_cons] at h
    cases q : (x == ("__class__" : Str)) with
    | true =>
      rw [q] at h
      cases h
      exact ⟨by simpa using q, rfl⟩
    | false =>
      rw [q] at h
      cases h
  have loc0 : ∃ m, h1.Ns s.heap.objs.size m ∧ ∀ (i : Nat) (x : Str) (v : V), N[i]? = some x → (start N vs)[i]? = some (some v) → Vis scope x → ∃ u, RelV v u ∧ Look (PySem.W.ksEnv qual scope s.heap.objs.size f cd cc) h1 m x u := by
    refine ⟨_, ns, fun i y v q1 q2 q3 => ?_⟩
    have hi : (vs.map some)[i]? = some (some v) := start_back q2
    rw [List.getElem?_map] at hi
    obtain ⟨v', ha, hv⟩ := Option.map_eq_some_iff.mp hi
    cases hv
    obtain ⟨u, hu, rv⟩ := r.get ha
    have il : i < vs.length := (List.getElem?_eq_some_iff.mp ha).1
    have hp : ps[i]? = some y := by
      rw [← S.pre, List.getElem?_take_of_lt (by omega)]
      exact q1
    have ndp : ps.Nodup := by
      rw [← S.pre]
      exact S.nd.sublist (List.take_sublist _ _)
    refine ⟨u, rv, .inl ⟨S.par y (List.mem_of_getElem? hp), ?_⟩⟩
    refine lookup_of_mem ?_ (List.mem_reverse.mpr (zip_mem hp hu))
    rw [List.map_reverse]
    exact List.pairwise_reverse.mpr ((zip_nodup ndp).imp fun h z => h z.symm)
  exact {
    ok := {
      mod := e0.mod
      kind := S.kind
      glob := rfl
      blt := rfl
      above := Nat.le_refl _
      inj := fun x y c a b => (look1 x c a).1.trans (look1 y c b).1.symm
      has := fun x hx => by
        rcases hx with hx | hx
        · exact absurd rfl (S.nocell _ (PySem.mem_of_lookup (show scope.names.lookup x = some .cell from hx)))
        · have e := S.free _ (PySem.mem_of_lookup (show scope.names.lookup x = some .free from hx)) rfl
          exact ⟨cc, by rw [show x = "__class__" from e]; rfl⟩
      cab := fun x c a b => by
        rw [(look1 x c b).1] at a
        cases a
      hd := fun _ => hd
      frames := Around.frames_deeper e0.frames
      stk := .inr ⟨rfl, rfl⟩
      exf := fun b z => nomatch (show b ∈ ([] : List Addr) from z)
      bs := e0.bs
      bsz := e0.bsz
      noex := fun b o _ z => nomatch (show b ∈ ([] : List Addr) from z)
      exfs := fun b z => nomatch (show b ∈ ([] : List Addr) from z)
      funs := e0.funs
      frf := e0.frf }
    os := rfl
    bare := e0.bare
    base := Un.kept hk
    loc := loc0
    cell := fun x c h => by
      rw [(look1 x c h).2]
      exact ⟨vc, oc, hk _ _ (e0.bs _ _ bcc).1, hcv⟩
    free := e0.hok.fresh (Nat.le_refl _)
    freeC := fun x c h => by
      rw [(look1 x c h).2]
      exact (e0.bs _ _ bcc).2
    pin := fun p hp => nomatch (show p ∈ ([] : List (Addr × Obj)) from hp)
    hok := e0.hok.kept hk
    len := by
      show (L2.start N vs).length = N.length
      unfold L2.start
      rw [List.length_append, List.length_map, List.length_replicate]
      omega }
/-- what the written part says of a def closed over its class -/
structure SupD (P : Program) (K : PySem.W.Frag) (D : Addr) (qual : Str) (params : Arguments) (body : List Stmt) (scope : Scope) (f : Addr) (fd : FuncData) (cda cc : Addr) : Prop where
  ex : ∃ (oc dV kV doc pm ct : Value) (od an : Option Addr) (osl : Array (Option Value)) (name : Str), fd = PySem.W.ksFn name qual params body scope dV kV doc pm an (.ref cda) ct cc ∧ K.lookup f = some ⟨oc, od, .func fd, osl⟩
  code : PySem.W.codeIn K (.ref cda) qual = true
  file : ∃ (ccl : Value) (cdd : Option Addr) (ccs : Array (Option Value)) (vs : Array Value) (file : Str) (tf : Tok), K.lookup cda = some ⟨ccl, cdd, .fields vs, ccs⟩ ∧ vs[2]? = some (.str file tf) ∧ ((P.main.file : Str) == file) = true
  cell : ∃ (cl : Value) (cld : Option Addr) (csl : Array (Option Value)), K.lookup cc = some ⟨cl, cld, .cell (some (.ref D)), csl⟩
  isC : ∃ cdD, PySem.W.clsIn K D = some cdD
  top : (P.main.scope.names.lookup ("super" : Str)).isSome = false
/-- the first statement, then the rest -/
theorem sup_of {P : Program} {w : World} {K : PySem.W.Frag} {mg : Str → Option Value} {base : Heap} {CX : CXT} {k : Nat} {D f cda cc : Addr} {fd : FuncData} {qual : Str} {params : Arguments} {st : Stmt} {rest : List Stmt} {scope : Scope} {N ps : List Str} {sp : Sp}
    (G : SupD P K D qual params (st :: rest) scope f fd cda cc) (S : SupScope N ps scope) (len : ∀ vs H Q E, sp vs H Q E → vs.length = ps.length)
    (hbody : ∀ (A : Around) (outer : List Env) (s : Shared) (H : Hp) (vs : List V) (Q : VK) (E : XK), Room k (A.deeper (PySem.W.ksEnv qual scope s.heap.objs.size f (.ref cda) cc)) → sp vs H Q E →
      ∃ (Q1 : Hp → Prop) (t : TS), PSs (cxS CX P w K mg base N qual scope f (.ref cda) cc A outer s H E) rest t ∧ (∀ H1, Q1 H1 → t { nx := fun _ H' => Q .non H', rt := Q } (start N vs) H1) ∧
        ∀ s1, Inv (cxS CX P w K mg base N qual scope f (.ref cda) cc A outer s H E) [] (start N vs) H s1 →
          PySem.wpAt (model P w) (A.deeper (PySem.W.ksEnv qual scope s.heap.objs.size f (.ref cda) cc)) (.func (st :: rest) (PySem.W.ksEnv qual scope s.heap.objs.size f (.ref cda) cc)) (exec st (PySem.W.ksEnv qual scope s.heap.objs.size f (.ref cda) cc))
            (fun fl s' => fl = .next ∧ ∃ H1, Inv (cxS CX P w K mg base N qual scope f (.ref cda) cc A outer s H E) [] (start N vs) H1 s' ∧ Q1 H1) (cxS CX P w K mg base N qual scope f (.ref cda) cc A outer s H E).xe s1) :
    FnOk P w K mg base CX (k + 1) f fd ps sp := by
  obtain ⟨oc, dV, kV, doc, pm, ct, od, an, osl, name, rfl, lk⟩ := G.ex
  obtain ⟨cl, cld, csl, hcell⟩ := G.cell
  refine ⟨len, fun A o s H args us vs Q E room env bnd rel psp => ?_⟩
  have kin : K.In s.heap := env.mod.kin.keeps fun a q h => (env.bs a q h).1
  have nl : s.heap.NoLimit := env.mod.nolimit.keeps fun a q h => (env.bs a q h).1
  refine PySem.ks_codeAny_call_defAt room.depth (kin _ _ lk) rfl nl (PySem.W.codeRec_of kin G.code) rfl bnd S.nocell (fun x hx => S.par x.1 (List.of_mem_zip (b := x.2) hx).1) (fun h1 hns hk1 => ?_) S.co S.gen S.kind
  obtain ⟨Q1, t, ht, hq, hs⟩ := hbody A o s H vs Q E (room.deeper _) psp
  have I := inv_sup (CX := CX) (E := E) (qual := qual) (f := f) (cd := .ref cda) (tk := s.toks + (ps.zip us).length) S room.hd env (len _ _ _ _ psp) rel hcell rfl hns hk1
  refine PySem.ks_wpAt_execs_cons (PySem.ks_wpAt_mono (hs _ I) (fun fl s' hs => ?_) fun e s' hs => hs)
  obtain ⟨rfl, H1, I1, q1⟩ := hs
  refine PySem.wpAt_of_wpAny (wpAny_mono (ht.run [] s' _ H1 _ I1 (hq H1 q1)) (fun fl s' hs => ?_) fun e s' hs => hs)
  cases fl with
  | ret u =>
    obtain ⟨v, _, H', J, rv, q⟩ := hs
    exact ⟨v, H', J.os, J.bare, J.base, J.hok, rv, q⟩
  | next =>
    obtain ⟨_, H', J, q⟩ := hs
    exact ⟨V.non, H', J.os, J.bare, J.base, J.hok, rfl, q⟩
  | brk => exact hs.elim fun _ z => z.elim fun _ z => z.2.elim
  | cont => exact hs.elim fun _ z => z.elim fun _ z => z.2.elim
end L3

set_option Elab.async false
set_option linter.all false
set_option maxRecDepth 100000
set_option maxHeartbeats 4000000
namespace L3
open PySem PySem.Spec PyProof.Rows L2 ClX
/-- the class C of an exception in the making, seen from the class D: what comes next behind D -/
structure ExcU (K : PySem.W.Frag) (C D : Addr) (nxt : Value) : Prop where
  oex : OexC K C
  sub : PySem.W.mroIn K C (.ref D) = some true
  nxt : PySem.W.ks_superIn K C D "__init__" = some (some nxt)
  ve : PySem.W.subIn K (.ref C) (.type "ValueError") = some true
  any : PySem.W.nsIn K cStatics "thirdparty.any" = some none
theorem exo_inst {X : Cx} {pins : List (Addr × Obj)} {σ : L2.St} {H : Hp} {s : Shared} {a C : Addr} (I : Inv X pins σ H s) (e : H a = some (exo a C none)) :
    ∃ t1 : Addr, PySem.W.InstAt s.heap a { cls := .ref C, dict := none, data := .fields #[.ref t1, .none, .none, .none, .bool false, .none] } C none := by
  obtain ⟨t1, ho⟩ := exo_at I.hok e
  exact ⟨t1, ⟨ho, rfl, rfl, trivial⟩⟩
section
variable {P : Program} {w : World} {K : PySem.W.Frag} {mg : Str → Option Value} {base : Heap} {CX : CXT} {k : Nat} {D f cda cc : Addr} {fd : FuncData} {qual : Str} {params : Arguments} {body : List Stmt} {scope : Scope} {N ps : List Str}
variable {A : Around} {outer : List Env} {s : Shared} {H : Hp} {E : XK}
theorem sup_st {a C : Addr} {nxt : Value} {ar : Arg} {σ : L2.St} {H0 : Hp} {s1 : Shared} {Q1 : Hp → Prop} {e : Expr} {es : List Expr} {p0 p1 p2 p3 p4 : Pos} {pl : Sem Bool} (G : SupD P K D qual params body scope f fd cda cc) (S : SupScope N ps scope) (hp : (params.posonlyargs ++ params.args).head? = some ar) (h0 : N[0]? = some ar.arg) (har : scope.names.lookup ar.arg = some .local)
    (hsup : mg "super" = none) (U : ExcU K C D nxt) (I : Inv (cxS CX P w K mg base N qual scope f (.ref cda) cc A outer s H E) [] σ H0 s1) (hs : σ[0]? = some (some (.ref a))) (ea : H0 a = some (exo a C none))
    (hg : ∀ s2 so, Inv (cxS CX P w K mg base N qual scope f (.ref cda) cc A outer s H E) [] σ H0 s2 → s2.heap.get? so = some (PySem.W.ks_superObj D a C) →
      wpAny (model P w) (A.deeper (PySem.W.ksEnv qual scope s.heap.objs.size f (.ref cda) cc)) (getMethod (.ref so) "__init__" pl) (fun fx s₂ =>
        wpAny (model P w) (A.deeper (PySem.W.ksEnv qual scope s.heap.objs.size f (.ref cda) cc)) (callWith p3 fx.1 fx.2 (backTo p3 (starEach (e :: es) (PySem.W.ksEnv qual scope s.heap.objs.size f (.ref cda) cc))) [])
          (fun _ s' => ∃ H1, Inv (cxS CX P w K mg base N qual scope f (.ref cda) cc A outer s H E) [] σ H1 s' ∧ Q1 H1) (cxS CX P w K mg base N qual scope f (.ref cda) cc A outer s H E).xe s₂) (cxS CX P w K mg base N qual scope f (.ref cda) cc A outer s H E).xe s2)
    (he : eval (.Call (.Attribute (.Call (.Name "super" p0) [] [] p1) "__init__" p2) (e :: es) [] p3) (PySem.W.ksEnv qual scope s.heap.objs.size f (.ref cda) cc) = (do
      let ov ← attributeBase (.Call (.Name "super" p0) [] [] p1) "__init__" (PySem.W.ksEnv qual scope s.heap.objs.size f (.ref cda) cc) (eval (.Call (.Name "super" p0) [] [] p1) (PySem.W.ksEnv qual scope s.heap.objs.size f (.ref cda) cc))
      standAt p2.atName
      let (m, first) ← holding [ov] (getMethod ov "__init__" pl)
      callWith p3 m first (backTo p3 (starEach (e :: es) (PySem.W.ksEnv qual scope s.heap.objs.size f (.ref cda) cc))) []))
    (hsw : swapsWith (.Call (.Attribute (.Call (.Name "super" p0) [] [] p1) "__init__" p2) (e :: es) [] p3) none p4.line (PySem.W.ksEnv qual scope s.heap.objs.size f (.ref cda) cc) = pure false := by rfl) :
    PySem.wpAt (model P w) (A.deeper (PySem.W.ksEnv qual scope s.heap.objs.size f (.ref cda) cc)) (.func body (PySem.W.ksEnv qual scope s.heap.objs.size f (.ref cda) cc))
      (exec (.Expr (.Call (.Attribute (.Call (.Name "super" p0) [] [] p1) "__init__" p2) (e :: es) [] p3) p4) (PySem.W.ksEnv qual scope s.heap.objs.size f (.ref cda) cc))
      (fun fl s' => fl = .next ∧ ∃ H1, Inv (cxS CX P w K mg base N qual scope f (.ref cda) cc A outer s H E) [] σ H1 s' ∧ Q1 H1) (cxS CX P w K mg base N qual scope f (.ref cda) cc A outer s H E).xe s1 := by
  obtain ⟨oc, dV, kV, doc, pm, ct, od, an, osl, name, rfl, lk⟩ := G.ex
  obtain ⟨ccl, cdd, ccs, vs, file, tf, hcode, hvs, hfile⟩ := G.file
  obtain ⟨cl, cld, csl, hcell⟩ := G.cell
  obtain ⟨cdD, hD⟩ := G.isC
  have X1 : K.In s1.heap := I.kIn
  obtain ⟨oD, hD1, hD2⟩ : ∃ oD, s1.heap.get? D = some oD ∧ oD.data = .cls cdD := by
    unfold PySem.W.clsIn at hD
    split at hD
    · rename_i c d cd' sl ho
      cases hD
      exact ⟨_, X1 _ _ ho, rfl⟩
    · cases hD
  obtain ⟨t1, J⟩ := exo_inst I ea
  obtain ⟨m, hn, hl⟩ := I.loc
  obtain ⟨u, ru, lu⟩ := hl 0 ar.arg _ h0 hs (.inl har)
  obtain rfl : u = Value.ref a := ru
  have hm : m ar.arg = some (.ref a) := by
    rcases lu with ⟨_, z⟩ | ⟨z, _⟩
    · exact z
    · have har' : (PySem.W.ksEnv qual scope s.heap.objs.size f (.ref cda) cc).kindOf ar.arg = some .local := har
      rcases z with z | z
      · have z' : (PySem.W.ksEnv qual scope s.heap.objs.size f (.ref cda) cc).kindOf ar.arg = some .cell := z
        rw [har'] at z'
        cases z'
      · have z' : (PySem.W.ksEnv qual scope s.heap.objs.size f (.ref cda) cc).kindOf ar.arg = some .free := z
        rw [har'] at z'
        cases z'
  obtain ⟨mb, b1, b2⟩ := I.mod.blt
  refine PySem.ks_wpAt_Expr_any (PySem.ks_wpAt_mono (PySem.ks_wpAt_MethodCall (PySem.ks_wpAt_super_base (env := PySem.W.ksEnv qual scope s.heap.objs.size f (.ref cda) cc) S.sup S.cls (by decide) rfl (X1 _ _ lk) rfl hp rfl (X1 _ _ hcode) rfl hvs hfile G.top ?_) he) (fun v s' q => ⟨rfl, q⟩) fun _ _ z => z) (by unfold interactive; rw [show (PySem.W.ksEnv qual scope s.heap.objs.size f (.ref cda) cc).scope.kind = .function from S.kind]; rfl) hsw
  refine PySem.W.ks_loadName_global S.kind S.sup (Calls.loadGlobal_builtin (env := PySem.W.ksEnv qual scope s.heap.objs.size f (.ref cda) cc) (I.mod.glob.keeps I.bk) hsup (b1.keeps I.bk) ((b2 "super" (by decide)).trans (by first | rfl | kernel_rfl)) ⟨rfl, ?_⟩)
  refine wpAny_loadName_free S.kind S.cls rfl ⟨_, X1 _ _ hcell, rfl⟩ ?_
  refine wpAny_loadName_local S.kind har hn hm ?_
  refine PySem.ks_wpAny_isType_cls hD1 hD2 ⟨rfl, ?_⟩
  obtain ⟨hh, g, d, t, os⟩ := s1
  refine PySem.ks_wpAny_call_super hD1 hD2 J.at_ J.cls (fun c z => nomatch z) (PySem.W.looks_mroIn X1 U.sub) (fun h' e' k' => ?_)
  exact hg _ _ (I.kept (t' := t) k') e'

/-- .. and the class above is one of the text -/
theorem sup_fnc {a C f2 so : Addr} {σ : L2.St} {H0 : Hp} {s2 : Shared} {Q1 : Hp → Prop} {e : Expr} {es : List Expr} {p3 : Pos} {pl : Sem Bool} {sp : Sp} {ta : TA} (U : ExcU K C D (.ref f2)) (X : Cx) (hX : X = cxS CX P w K mg base N qual scope f (.ref cda) cc A outer s H E)
    (I : Inv X [] σ H0 s2) (ea : H0 a = some (exo a C none)) (hso : s2.heap.get? so = some (PySem.W.ks_superObj D a C)) (fi : PySem.W.fnIn K f2 = true) (ty : PySem.W.typeIn K (.ref f2) = some (.type "function"))
    (F2 : FnR P w K mg base CX k f2 sp) (hr : Room k (A.deeper (PySem.W.ksEnv qual scope s.heap.objs.size f (.ref cda) cc))) (hx : Passes CX X (fun _ _ _ => False)) (ha : PA X (e :: es) ta)
    (w1 : ta σ H0 fun vs H1 => sp (.ref a :: vs) H1 (fun _ H2 => Q1 H2) fun _ _ _ => False)
    (hst : starEach (e :: es) X.env = (false, eval e X.env) :: starEach es X.env := by rfl) (hpl : (backTo p3 (starEach es X.env)).any (·.1) = false := by rfl) :
    wpAny (model P w) X.A (getMethod (.ref so) "__init__" pl) (fun fx s₂ => wpAny (model P w) X.A (callWith p3 fx.1 fx.2 (backTo p3 (starEach (e :: es) X.env)) []) (fun _ s' => ∃ H1, Inv X [] σ H1 s' ∧ Q1 H1) X.xe s₂) X.xe s2 := by
  subst hX
  have X1 : K.In s2.heap := I.kIn
  obtain ⟨t1, J⟩ := exo_inst I ea
  obtain ⟨of, hof, hofc⟩ : ∃ of, s2.heap.get? f2 = some of ∧ of.cls = .type "function" := by
    have ht : (K.lookup f2).map (·.cls) = some (.type "function") := ty
    cases z : K.lookup f2 with
    | none =>
      rw [z] at ht
      cases ht
    | some of =>
      rw [z] at ht
      exact ⟨of, X1 _ _ z, Option.some.inj ht⟩
  cases hc : PySem.W.clsIn K C with
  | none =>
    have z := U.nxt
    unfold PySem.W.ks_superIn at z
    rw [hc] at z
    cases z
  | some cd =>
    have z := U.nxt
    unfold PySem.W.ks_superIn at z
    rw [hc] at z
    have bn := base_none I (Nat.le_refl _)
    obtain ⟨hh, g, d, t, os⟩ := s2
    refine PySem.ks_wpAny_getMethod_super hso (PySem.W.looks_opaque X1 U.any) (l₀ := cd.mro) (fun A Q E s k q => wpAny_bind ((PySem.W.looks_clsIn X1 hc) A _ E s k (wpAny_pure q))) rfl X1 z hof hofc (PySem.W.ks_ne X1 J hc) (by decide) ?_
    have I2 := met_new (g := f2) (C := a) I
    refine callwith_cm I2 bn fi (thn (ha.run p3 _ _ σ H0 _ I2 w1) fun us s3 ⟨vs, H2, I3, rv, q2⟩ => ⟨⟨pin_at I3, I3.kIn⟩, ?_⟩) hst hpl
    exact thn (run_cm F2 hr hx I3 rv q2) fun _ s' ⟨v, H', I4, _, q⟩ => ⟨H', I4, q⟩
/-- .. and the class above is ValueError -/
theorem sup_ve {a C so : Addr} {σ : L2.St} {H0 : Hp} {s2 : Shared} {Q1 : Hp → Prop} {e : Expr} {es : List Expr} {p3 : Pos} {pl : Sem Bool} {ta : TA} (U : ExcU K C D (.builtin "ValueError.__init__")) (X : Cx) (hX : X = cxS CX P w K mg base N qual scope f (.ref cda) cc A outer s H E)
    (I : Inv X [] σ H0 s2) (ea : H0 a = some (exo a C none)) (hso : s2.heap.get? so = some (PySem.W.ks_superObj D a C)) (ha : PA X (e :: es) ta)
    (w1 : ta σ H0 fun vs H1 => vs.length ≤ 1000 ∧ H1 a = some (exo a C none) ∧ Q1 H1)
    (hst : starEach (e :: es) X.env = (false, eval e X.env) :: starEach es X.env := by rfl) (hpl : (backTo p3 (starEach es X.env)).any (·.1) = false := by rfl) :
    wpAny (model P w) X.A (getMethod (.ref so) "__init__" pl) (fun fx s₂ => wpAny (model P w) X.A (callWith p3 fx.1 fx.2 (backTo p3 (starEach (e :: es) X.env)) []) (fun _ s' => ∃ H1, Inv X [] σ H1 s' ∧ Q1 H1) X.xe s₂) X.xe s2 := by
  subst hX
  have X1 : K.In s2.heap := I.kIn
  obtain ⟨t1, J⟩ := exo_inst I ea
  cases hc : PySem.W.clsIn K C with
  | none =>
    have z := U.nxt
    unfold PySem.W.ks_superIn at z
    rw [hc] at z
    cases z
  | some cd =>
    have z := U.nxt
    unfold PySem.W.ks_superIn at z
    rw [hc] at z
    have hI : PySem.W.Looks (model P w) s2.heap (isInstance (.ref a) (.type "ValueError")) true := J.type.andThen (PySem.W.looks_subIn X1 U.ve)
    obtain ⟨hh, g, d, t, os⟩ := s2
    refine PySem.W.kxs_getMethod PySem.W.kxs_ValueError hso (PySem.W.looks_opaque X1 U.any) (l₀ := cd.mro) (fun A Q E s k q => wpAny_bind ((PySem.W.looks_clsIn X1 hc) A _ E s k (wpAny_pure q))) rfl X1 z hI (PySem.W.ks_ne X1 J hc) (by decide) ?_
    have I2 : Inv (cxS CX P w K mg base N qual scope f (.ref cda) cc A outer s H E) [(hh.objs.size, PySem.W.kxs_mw "ValueError.__init__" a)] σ H0 ⟨hh.push (PySem.W.kxs_mw "ValueError.__init__" a), g, d, t + 1, os⟩ :=
      pin_new I (fun _ _ z => Heap.get?_push_of_some _ z) (Nat.le_refl _) (Heap.get?_push_size hh rfl) (fun v z => nomatch z)
    rw [hst]
    refine PySem.W.kxs_callWith (i := "ValueError.__init__") (x := a) (by show (false || (backTo p3 (starEach es _)).any (·.1)) = false; rw [hpl]; rfl) (Calls.evalArgs_plain ?_)
    have r := ha.run p3 _ _ σ H0 _ I2 w1
    rw [hst] at r
    refine thn r fun us s3 ⟨vs, H2, I3, rv, hl, ea2, q2⟩ => ⟨pin_at I3, ?_⟩
    have hu := pin_at I3
    obtain ⟨nm, q, N', bs, bm, sn, sub, ab, col, dd, k0, k1, k2, k3, k5, hC, hbm⟩ := U.oex.cls
    obtain ⟨t2, ho⟩ := exo_at I3.hok ea2
    have hC' := I3.kIn _ _ hC
    have hlen : us.length ≤ sizeLine := by
      rw [← Paired.length rv, sizeLine_eq]
      omega
    obtain ⟨hp, g3, d3, t3, os3⟩ := s3
    refine wpAny_call (codeAny_of_tree ?_)
    show wpAny _ _ (callAny (.ref hh.objs.size) ⟨us, []⟩) _ _ _
    simp only [callAny]
    refine wpAny_bind (wpAny_load hu ?_)
    simp only [PySem.W.kxs_mw, show (Value.type "method-wrapper" == Value.type "method" || Value.type "method-wrapper" == Value.type "builtin_function_or_method" || Value.type "method-wrapper" == Value.type "method-wrapper") = true by decide, if_true]
    refine PySem.W.KFB.if_so (by decide) ?_
    refine wpAny_bind (PySem.W.check_bound_init F.excBase_ValueError.toExcCallFacts hC' ho rfl ?_)
    refine wpAny_bind (wpAny_pure (wpAny_pure ?_))
    refine ⟨plainId_quiet F.excBase_ValueError.init.plain _, codeAny_builtin F.excBase_ValueError.initEntry ?_⟩
    refine PySem.W.exc_init_tree (cls := .ref C) (t0 := t2) (dv := none) (c2 := .none) (c3 := .none) (b4 := .bool false) ho hlen fun h' k' hx ht => ?_
    have Jw := I3.write (t' := t3) (x := a) (e := a) (o := exo a C none) (by rw [ea2]; exact True.intro) (.inl rfl) k' ⟨_, hx⟩ (exo_ok hx)
    have eu : upd H2 a (exo a C none) = H2 := by
      funext b
      by_cases hb : b = a
      · rw [hb, upd_same, ea2]
      · rw [upd_ne hb]
    rw [eu] at Jw
    exact ⟨H2, unpin Jw, q2⟩
end
end L3

set_option Elab.async false
set_option linter.all false
set_option maxRecDepth 100000
set_option maxHeartbeats 4000000
namespace L3
open PySem PySem.Spec PyProof.Rows L2 ClX
/-- fields set one after the other -/
def putF {α : Type} : List Str → List α → List (Str × α) → List (Str × α)
  | f :: fs, x :: xs, l => putF fs xs ((f, x) :: l)
  | _, _, l => l
def spB (K : PySem.W.Frag) (D : Addr) : Sp := fun vs H Q E => ∃ (a C : Addr) (nm msg : V), vs = [.ref a, nm, msg] ∧ ExcU K C D (.builtin "ValueError.__init__") ∧ H a = some (exo a C none) ∧ PySem.W.findIn K (.ref C) "name" = some none ∧
  ∀ dx, H dx = none → dx ≠ a → Q .non (upd (upd H dx (exd dx [("name", nm)])) a (exo a C (some dx)))
def spE (C : Addr) (fs : List Str) (nm : Str) : Sp := fun vs H Q E => ∃ (a : Addr) (xs : List V), vs = .ref a :: xs ∧ xs.length = fs.length ∧ H a = some (exo a C none) ∧
  ∀ dx, H dx = none → dx ≠ a → Q .non (upd (upd H dx (exd dx (putF fs xs [("name", .str nm)]))) a (exo a C (some dx)))
theorem passes_no {P : Program} {w : World} {X : Cx} : Passes (L2.CX P w) X (fun _ _ _ => False) := fun _ _ _ _ _ _ _ h => by
  obtain ⟨_, _, _, _, _, _, _, _, _, _, _, _, z⟩ := h
  exact z.elim
abbrev supSt (p0 p1 p2 p4 p5 : Pos) (es : List Expr) : Stmt := .Expr (.Call (.Attribute (.Call (.Name "super" p0) [] [] p1) "__init__" p2) es [] p4) p5
/-- what asks for a concrete scope -/
structure SupOk (qual : Str) (scope : Scope) (e : Expr) (es : List Expr) (rest : List (Expr × Expr × Pos)) (p0 p1 p2 p3 p4 : Pos) : Prop where
  ev : ∃ pl : Sem Bool, ∀ (L f : Addr) (cd : Value) (cc : Addr), eval (.Call (.Attribute (.Call (.Name "super" p0) [] [] p1) "__init__" p2) (e :: es) [] p3) (PySem.W.ksEnv qual scope L f cd cc) = (do
      let ov ← attributeBase (.Call (.Name "super" p0) [] [] p1) "__init__" (PySem.W.ksEnv qual scope L f cd cc) (eval (.Call (.Name "super" p0) [] [] p1) (PySem.W.ksEnv qual scope L f cd cc))
      standAt p2.atName
      let (m, first) ← holding [ov] (getMethod ov "__init__" pl)
      callWith p3 m first (backTo p3 (starEach (e :: es) (PySem.W.ksEnv qual scope L f cd cc))) [])
  sw : ∀ (L f : Addr) (cd : Value) (cc : Addr), swapsWith (.Call (.Attribute (.Call (.Name "super" p0) [] [] p1) "__init__" p2) (e :: es) [] p3) none p4.line (PySem.W.ksEnv qual scope L f cd cc) = pure false
  sr : ∀ (L f : Addr) (cd : Value) (cc : Addr), ∀ r ∈ rest, swapsWith r.2.1 (some r.1) r.2.2.line (PySem.W.ksEnv qual scope L f cd cc) = pure false
section
variable {P : Program} {w : World} {K : PySem.W.Frag} {mg : Str → Option Value} {base : Heap} {k : Nat} {D f cda cc : Addr} {fd : FuncData} {qual : Str} {params : Arguments} {scope : Scope}
variable {p0 p1 p2 p3 p4 p5 p6 p7 p8 p9 q6 q7 q8 q9 r9 : Pos} {kk1 kk2 : Nat}
/-- HearingError's: super().__init__(message); self.name = name -/
theorem base_ok {ar : Arg} (G : SupD P K D qual params [supSt p0 p1 p2 p4 p5 [.Name "message" p3], .Assign [.Attribute (.Name "self" p6) "name" p7] (.Name "name" p8) p9] scope f fd cda cc) (S : SupScope ["self", "name", "message"] ["self", "name", "message"] scope)
    (hp : (params.posonlyargs ++ params.args).head? = some ar) (har : ar.arg = "self") (hsup : mg "super" = none)
    (O : SupOk qual scope (.Name "message" p3) [] [(.Attribute (.Name "self" p6) "name" p7, .Name "name" p8, p9)] p0 p1 p2 p4 p5) :
    FnOk P w K mg base (L2.CX P w) (k + 1) f fd ["self", "name", "message"] (spB K D) := by
  refine sup_of G S (fun vs H Q E h => ?_) fun A o s H vs Q E room psp => ?_
  · obtain ⟨a, C, nm, msg, e, _⟩ := h
    rw [e]
    rfl
  obtain ⟨a, C, nm, msg, rfl, U, ea, hno, q⟩ := psp
  obtain ⟨pl, hev⟩ := O.ev
  have v0 : Vis scope "self" := .inl (S.par _ (by simp))
  have v1 : Vis scope "name" := .inl (S.par _ (by simp))
  have v2 : Vis scope "message" := .inl (S.par _ (by simp))
  refine ⟨fun H1 => H1 = H, _, pss_one (ps_ost (pe_var (i := 0) rfl v0) (pe_var (i := 1) rfl v1) (O.sr _ _ _ _ _ (List.mem_cons_self ..))), fun H1 e => ?_, fun s1 I => ?_⟩
  · subst e
    exact ⟨nm, rfl, .ref a, rfl, a, C, rfl, U.oex, hno, .inl ⟨ea, fun dx n ne => q dx n ne⟩⟩
  · refine sup_st G S hp (by rw [har]; rfl) (by rw [har]; exact S.par _ (by simp)) hsup U I rfl ea (fun s2 so I2 hso => ?_) (hev _ _ _ _) (O.sw _ _ _ _)
    exact sup_ve U _ rfl I2 ea hso (pa_cons (pe_var (i := 2) rfl v2) pa_nil) ⟨msg, rfl, by simp, ea, rfl⟩
/-- one field: super().__init__(nm, text); self.f = x -/
theorem sub1_ok {ar : Arg} {g x nm tx : Str} {fI : Addr} {kI : Nat} {fdI : FuncData} {D0 : Addr} (G : SupD P K D qual params [supSt p0 p1 p2 p4 p5 [.Constant (.str nm) kk1 p3, .Constant (.str tx) kk2 q6], .Assign [.Attribute (.Name "self" p6) g p7] (.Name x p8) p9] scope f fd cda cc)
    (S : SupScope ["self", x] ["self", x] scope) (hp : (params.posonlyargs ++ params.args).head? = some ar) (har : ar.arg = "self") (hsup : mg "super" = none) (hdb : (x == ("__debug__" : Str)) = false) (hcd : (x == ("__classdict__" : Str)) = false)
    (O : SupOk qual scope (.Constant (.str nm) kk1 p3) [.Constant (.str tx) kk2 q6] [(.Attribute (.Name "self" p6) g p7, .Name x p8, p9)] p0 p1 p2 p4 p5)
    (U : ExcU K D D (.ref fI)) (UB : ExcU K D D0 (.builtin "ValueError.__init__")) (hno : PySem.W.findIn K (.ref D) "name" = some none) (hng : PySem.W.findIn K (.ref D) g = some none)
    (fi : PySem.W.fnIn K fI = true) (ty : PySem.W.typeIn K (.ref fI) = some (.type "function")) (FI : FnR P w K mg base (L2.CX P w) k fI (spB K D0)) :
    FnOk P w K mg base (L2.CX P w) (k + 1) f fd ["self", x] (spE D [g] nm) := by
  refine sup_of G S (fun vs H Q E h => ?_) fun A o s H vs Q E room psp => ?_
  · obtain ⟨a, xs, e, l, _⟩ := h
    rw [e]
    simpa using l
  obtain ⟨a, xs, rfl, l, ea, q⟩ := psp
  obtain ⟨y, rfl⟩ : ∃ y, xs = [y] := by
    cases xs with
    | nil => cases l
    | cons y r => exact ⟨y, by rw [List.length_eq_zero_iff.mp (show r.length = 0 by simpa using l)]⟩
  obtain ⟨pl, hev⟩ := O.ev
  have v0 : Vis scope "self" := .inl (S.par _ (by simp))
  have v1 : Vis scope x := .inl (S.par _ (by simp))
  refine ⟨fun H1 => ∃ dx, H dx = none ∧ dx ≠ a ∧ H1 = upd (upd H dx (exd dx [("name", .str nm)])) a (exo a D (some dx)), _, pss_one (ps_ost (pe_var (i := 0) rfl v0) (pe_var (i := 1) rfl v1 hdb hcd) (O.sr _ _ _ _ _ (List.mem_cons_self ..))), fun H1 e => ?_, fun s1 I => ?_⟩
  · obtain ⟨dx, n, ne, rfl⟩ := e
    refine ⟨y, rfl, .ref a, rfl, a, D, rfl, U.oex, hng, .inr ⟨dx, [("name", .str nm)], upd_same, by rw [upd_ne ne, upd_same], by simp, ?_⟩⟩
    have := q dx n ne
    have e : upd (upd (upd H dx (exd dx [("name", V.str nm)])) a (exo a D (some dx))) dx (exd dx [(g, y), ("name", .str nm)]) = upd (upd H dx (exd dx [(g, y), ("name", .str nm)])) a (exo a D (some dx)) := by
      funext b
      unfold upd
      split
      · rename_i hb
        subst hb
        rw [if_neg ne]
      · rfl
    rw [e]
    exact this
  · refine sup_st G S hp (by rw [har]; rfl) (by rw [har]; exact S.par _ (by simp)) hsup U I rfl ea (fun s2 so I2 hso => ?_) (hev _ _ _ _) (O.sw _ _ _ _)
    exact sup_fnc U _ rfl I2 ea hso fi ty FI room passes_no (pa_cons pe_str (pa_cons pe_str pa_nil)) ⟨a, D, .str nm, .str tx, rfl, UB, ea, hno, fun dx n ne => ⟨dx, n, ne, rfl⟩⟩
/-- two fields -/
theorem sub2_ok {ar : Arg} {g x g2 x2 nm tx : Str} {fI : Addr} {kI : Nat} {fdI : FuncData} {D0 : Addr} (G : SupD P K D qual params [supSt p0 p1 p2 p4 p5 [.Constant (.str nm) kk1 p3, .Constant (.str tx) kk2 q6], .Assign [.Attribute (.Name "self" p6) g p7] (.Name x p8) p9, .Assign [.Attribute (.Name "self" q7) g2 q8] (.Name x2 q9) r9] scope f fd cda cc)
    (S : SupScope ["self", x, x2] ["self", x, x2] scope) (hp : (params.posonlyargs ++ params.args).head? = some ar) (har : ar.arg = "self") (hsup : mg "super" = none) (hdb : (x == ("__debug__" : Str)) = false) (hcd : (x == ("__classdict__" : Str)) = false)
    (hdb2 : (x2 == ("__debug__" : Str)) = false) (hcd2 : (x2 == ("__classdict__" : Str)) = false)
    (O : SupOk qual scope (.Constant (.str nm) kk1 p3) [.Constant (.str tx) kk2 q6] [(.Attribute (.Name "self" p6) g p7, .Name x p8, p9), (.Attribute (.Name "self" q7) g2 q8, .Name x2 q9, r9)] p0 p1 p2 p4 p5)
    (U : ExcU K D D (.ref fI)) (UB : ExcU K D D0 (.builtin "ValueError.__init__")) (hno : PySem.W.findIn K (.ref D) "name" = some none) (hng : PySem.W.findIn K (.ref D) g = some none) (hng2 : PySem.W.findIn K (.ref D) g2 = some none)
    (fi : PySem.W.fnIn K fI = true) (ty : PySem.W.typeIn K (.ref fI) = some (.type "function")) (FI : FnR P w K mg base (L2.CX P w) k fI (spB K D0)) :
    FnOk P w K mg base (L2.CX P w) (k + 1) f fd ["self", x, x2] (spE D [g, g2] nm) := by
  refine sup_of G S (fun vs H Q E h => ?_) fun A o s H vs Q E room psp => ?_
  · obtain ⟨a, xs, e, l, _⟩ := h
    rw [e]
    simpa using l
  obtain ⟨a, xs, rfl, l, ea, q⟩ := psp
  obtain ⟨y, z, rfl⟩ : ∃ y z, xs = [y, z] := by
    cases xs with
    | nil => cases l
    | cons y r =>
      cases r with
      | nil => cases l
      | cons z r => exact ⟨y, z, by rw [List.length_eq_zero_iff.mp (show r.length = 0 by simpa using l)]⟩
  obtain ⟨pl, hev⟩ := O.ev
  have v0 : Vis scope "self" := .inl (S.par _ (by simp))
  have v1 : Vis scope x := .inl (S.par _ (by simp))
  have v2 : Vis scope x2 := .inl (S.par _ (by simp))
  have r1 := O.sr
  refine ⟨fun H1 => ∃ dx, H dx = none ∧ dx ≠ a ∧ H1 = upd (upd H dx (exd dx [("name", .str nm)])) a (exo a D (some dx)), _, pss_cons (ps_ost (pe_var (i := 0) rfl v0) (pe_var (i := 1) rfl v1 hdb hcd) (r1 _ _ _ _ _ (List.mem_cons_self ..))) (pss_one (ps_ost (pe_var (i := 0) rfl v0) (pe_var (i := 2) rfl v2 hdb2 hcd2) (r1 _ _ _ _ _ (List.mem_cons_of_mem _ (List.mem_cons_self ..))))), fun H1 e => ?_, fun s1 I => ?_⟩
  · obtain ⟨dx, n, ne, rfl⟩ := e
    refine ⟨y, rfl, .ref a, rfl, a, D, rfl, U.oex, hng, .inr ⟨dx, [("name", .str nm)], upd_same, by rw [upd_ne ne, upd_same], by simp, ?_⟩⟩
    refine ⟨z, rfl, .ref a, rfl, a, D, rfl, U.oex, hng2, .inr ⟨dx, [(g, y), ("name", .str nm)], by rw [upd_ne (Ne.symm ne), upd_same], upd_same, by simp, ?_⟩⟩
    have := q dx n ne
    have e : upd (upd (upd (upd H dx (exd dx [("name", V.str nm)])) a (exo a D (some dx))) dx (exd dx [(g, y), ("name", .str nm)])) dx (exd dx [(g2, z), (g, y), ("name", .str nm)]) = upd (upd H dx (exd dx [(g2, z), (g, y), ("name", .str nm)])) a (exo a D (some dx)) := by
      funext b
      unfold upd
      split
      · rename_i hb
        subst hb
        rw [if_neg ne]
      · rfl
    rw [e]
    exact this
  · refine sup_st G S hp (by rw [har]; rfl) (by rw [har]; exact S.par _ (by simp)) hsup U I rfl ea (fun s2 so I2 hso => ?_) (hev _ _ _ _) (O.sw _ _ _ _)
    exact sup_fnc U _ rfl I2 ea hso fi ty FI room passes_no (pa_cons pe_str (pa_cons pe_str pa_nil)) ⟨a, D, .str nm, .str tx, rfl, UB, ea, hno, fun dx n ne => ⟨dx, n, ne, rfl⟩⟩
end
/-! ### raise C(e, ..) -/
def sRs (c : Str) (fs : List Str) (l : Rho → R (List Vl)) : Rho → SR := sB l fun xs ρ => match dats xs with
  | some ds => if ds.length = fs.length then .ex c (putF fs ds [("name", .str c)]) ρ else .no
  | none => .no
theorem RepF.put {K : PySem.W.Frag} {mg : Mg} {F : Hp} : ∀ {fs : List Str} {ds : List D} {vs : List V} {l : List (Str × D)} {m : List (Str × V)}, Reps K mg F ds vs → RepF K mg F l m → RepF K mg F (putF fs ds l) (putF fs vs m)
  | [], ds, vs, l, m, _, h => by
    unfold putF
    exact h
  | f :: fs, [], vs, l, m, r, h => by
    cases (show vs = [] from r)
    unfold putF
    exact h
  | f :: fs, d :: ds, vs, l, m, ⟨v, t, e, a, b⟩, h => by
    subst e
    exact RepF.put (fs := fs) b ⟨v, m, rfl, a, h⟩
theorem ds_raise {X : Cx} {W : WX} {x : Str} {C fI : Addr} {k : Nat} {fd : FuncData} {ps : List Str} {fs : List Str} {e : Expr} {es : List Expr} {l : Rho → R (List Vl)} {p pos pos2 : Pos} (hc : X.calm = true) (tk : Takes X W)
    (T : OexC X.K C) (iC : PySem.W.findIn X.K (.ref C) "__init__" = some (some (.ref fI))) (tI : PySem.W.typeIn X.K (.ref fI) = some (.type "function"))
    (F1 : FnOk X.prog X.w X.K X.mg X.base (L2.CX X.prog X.w) k fI fd ps (spE C fs x)) (hr : Room (k + 1) X.A) (hb : Binds X.K fd ps []) (hg : Gl X x) (hm : X.mg x = some (.ref C)) (ha : DA X W (e :: es) l)
    (hdb : (x == ("__debug__" : Str)) = false := by decide) (he : starEach (e :: es) X.env = (false, eval e X.env) :: starEach es X.env := by rfl) (hpl : (backTo pos (starEach es X.env)).any (·.1) = false := by rfl) (hz : fs.length ≤ 900 := by decide) :
    DS X W (.Raise (some (.Call (.Name x p) (e :: es) [] pos)) none pos2) (sRs x fs l) :=
  PS.weak (ps_raise hc tk (pmk_oex T iC tI F1 hr hb .nil passes_no hg hm ha hdb he hpl)) fun Dn σ H ⟨F, ρ, rs, pp⟩ => by
    refine ⟨F, ρ, rs, (PostS.bind0 pp).mono fun vs H1 ⟨F1, ρ1, xs, g1, r1, p1⟩ => ?_⟩
    split at p1
    · rename_i ds hd
      split at p1
      · rename_i hl
        have rr := dats_reps hd r1
        have lv : vs.length = fs.length := by rw [rr.length, hl]
        refine ⟨by omega, fun a na => ⟨a, vs, by simp, lv, upd_same, fun d n ne => ⟨rfl, d, putF fs vs [("name", .str x)], upd_same, by rw [upd_ne ne, upd_same], ?_, ?_⟩⟩⟩
        · rw [upd_ne ne] at n
          exact n
        · rw [upd_ne ne] at n
          have e : upd (del (upd (upd (upd H1 a (exo a C none)) d (exd d (putF fs vs [("name", V.str x)]))) a (exo a C (some d))) a) d (.xd (putF fs vs [("name", V.str x)])) = upd H1 d (.xd (putF fs vs [("name", V.str x)])) := by
            funext b
            unfold upd del
            by_cases h1 : b = d
            · rw [if_pos h1, if_pos h1]
            · rw [if_neg h1, if_neg h1]
              by_cases h2 : b = a
              · dsimp only
                rw [if_pos h2, h2, na]
              · dsimp only
                rw [if_neg h2, if_neg h2, if_neg h1, if_neg h2]
          rw [e]
          have cd : cad (mgX X) x = C := by
            unfold cad
            rw [show (mgX X).mg x = some (.ref C) from hm]
          have := p1 d σ F1 (upd H1 d (.xd (putF fs vs [("name", V.str x)]))) (putF fs vs [("name", V.str x)]) ((Ext.lay g1.rs.sub n).go g1.rs) (g1.live n) (g1.rs.sub.none n) upd_same (RepF.put rr ⟨_, _, rfl, rfl, rfl⟩)
          rw [cd] at this
          exact this
      · exact p1.elim
    · exact p1.elim
end L3

set_option Elab.async false
set_option linter.all false
set_option maxRecDepth 100000
set_option maxHeartbeats 4000000
namespace L3
open PySem PySem.Spec PyProof.Rows L2
/-! ### a tuple of classes in an except clause -/
section
variable {M : Model} {K : PySem.W.Frag}
theorem exc_ask {cls : Value} {h : Heap} (X : K.In h) {β : Type} {f : Value → PUnit → Sem (ForInStep PUnit)} {z : Sem (ForInStep PUnit)} (hf : ∀ c, f c PUnit.unit = (isExcClass c >>= fun x => if (!x) = true then z else pure (ForInStep.yield PUnit.unit))) :
    ∀ {cs : List Value} {b : Bool} {k : PUnit → Sem β} {A : Around} {E : Value → Shared → Prop} {Q : β → Shared → Prop} {s : Shared}, PySem.W.exmAny K cls cs = some b → (∀ b o, h.get? b = some o → s.heap.get? b = some o) → wpAny M A (k PUnit.unit) Q E s → wpAny M A (forIn cs PUnit.unit f >>= k) Q E s := by
  intro cs
  induction cs with
  | nil =>
    intro b k A E Q s _ _ q
    rw [List.forIn_nil]
    exact wpAny_bind (wpAny_pure q)
  | cons c r ih =>
    intro b k A E Q s hx hk q
    obtain ⟨b1, d1, x1, y1, _⟩ := PySem.W.exmAny_cons hx
    obtain ⟨e1, _⟩ := PySem.W.exm_cls (M := M) X x1
    rw [List.forIn_cons, hf, bind_assoc, bind_assoc]
    refine wpAny_bind (e1 A _ E s hk ?_)
    rw [if_neg (by simp)]
    exact wpAny_bind (wpAny_pure (ih y1 hk q))
theorem exc_find {te : Value} {h : Heap} (X : K.In h) {α β : Type} {init y : α} {f : Value → α → Sem (ForInStep α)} (hf : ∀ c, f c init = (isSubtype te c >>= fun x => if x = true then pure (ForInStep.done y) else pure (ForInStep.yield init))) :
    ∀ {cs : List Value} {b : Bool} {k : α → Sem β} {A : Around} {E : Value → Shared → Prop} {Q : β → Shared → Prop} {s : Shared}, PySem.W.exmAny K te cs = some b → (∀ b o, h.get? b = some o → s.heap.get? b = some o) →
      wpAny M A (k (if b then y else init)) Q E s → wpAny M A (forIn cs init f >>= k) Q E s := by
  intro cs
  induction cs with
  | nil =>
    intro b k A E Q s hx _ q
    cases hx
    rw [List.forIn_nil]
    exact wpAny_bind (wpAny_pure q)
  | cons c r ih =>
    intro b k A E Q s hx hk q
    obtain ⟨b1, d1, x1, y1, z1⟩ := PySem.W.exmAny_cons hx
    obtain ⟨_, S1⟩ := PySem.W.exm_cls (M := M) X x1
    rw [List.forIn_cons, hf, bind_assoc, bind_assoc]
    refine wpAny_bind (S1 A _ E s hk ?_)
    rw [z1] at q
    cases b1 with
    | true =>
      rw [if_pos rfl]
      exact wpAny_bind (wpAny_pure (wpAny_bind (wpAny_pure q)))
    | false =>
      rw [if_neg Bool.false_ne_true]
      exact wpAny_bind (wpAny_pure (ih y1 hk q))
theorem exm_many {cs : List Value} {cls : Value} {tp e : Addr} {b : Bool} {h : Heap} (X : K.In h) (LT : PySem.W.Looks M h (typeOf (.ref e)) cls) (hp : h.get? tp = some { cls := .type "tuple", data := .seq cs.toArray }) (hx : PySem.W.exmAny K cls cs = some b) :
    PySem.W.Looks M h (excMatches (.ref e) (.ref tp)) b := by
  intro A Q E s k₀ q
  have k : ∀ b o, h.get? b = some o → s.heap.get? b = some o := k₀
  have LT0 : PySem.W.Looks M h (isInstance (.ref tp) (.type "tuple")) true := ((PySem.W.Looks.ld hp).andThen .now).andThen (PySem.W.Looks.of_pure isSubtype_tuple_tuple)
  have hp' := k _ _ hp
  unfold excMatches
  refine wpAny_bind (LT0 A _ E s k ?_)
  dsimp only
  rw [if_pos rfl]
  first
    | refine wpAny_bind (wpAny_seqItems hp' rfl ?_)
    | refine wpAny_bind (wpAny_bind (wpAny_seqItems hp' rfl (wpAny_pure ?_)))
  dsimp only [Option.getD_some, Option.getD]
  refine wpAny_bind (wpAny_pure ?_)
  refine exc_ask X (fun _ => rfl) hx k ?_
  refine wpAny_bind (LT A _ E s k ?_)
  refine exc_find X (fun _ => rfl) hx k ?_
  cases b <;> exact wpAny_pure q
end
/-! ### several clauses, tuples of classes, with and without a name -/
theorem fly_kept {B h h' : Heap} {l : List Env} {a : Addr} {Z : Obj → Prop} (f : HandSPX.FlyingZ B l a Z h) (k : ∀ b o, h.get? b = some o → h'.get? b = some o) : HandSPX.FlyingZ B l a Z h' := by
  obtain ⟨f1, f2, f3, oe, vs, T, oT, ts, g1, g2, g3, g4, g5, g6, g7, g8, g9⟩ := f
  exact ⟨fun b o e => k b o (f1 b o e), f2, Heap.FunFrames.of_keeps (fun b o e _ => ⟨o, k b o e, rfl⟩) f3, oe, vs, T, oT, ts, k _ _ g1, g2, g3, g4, g5, g6, k _ _ g7, g8, g9⟩
inductive NmsOk (X : Cx) : List Expr → List Value → Prop
  | nil : NmsOk X [] []
  | cons {x : Str} {c : Value} {np : Pos} {es : List Expr} {cs : List Value} (h : Names X x c) (r : NmsOk X es cs) (he : starEach (.Name x np :: es) X.env = (false, eval (.Name x np) X.env) :: starEach es X.env := by rfl) : NmsOk X (.Name x np :: es) (c :: cs)
inductive TeOk (X : Cx) : Expr → List Value → Prop
  | nm {x : Str} {c : Value} {np : Pos} (h : Names X x c) : TeOk X (.Name x np) [c]
  | tp {es : List Expr} {cs : List Value} {kk : Nat} {pos : Pos} (h : NmsOk X es cs) (hl : cs.length ≤ 1000) : TeOk X (.Tuple es kk pos) cs
section
variable {X : Cx} {a : Addr} {pn : List (Addr × Obj)} {σ : L2.St} {H : Hp} {s : Shared} {E : Value → Shared → Prop}
theorem name_ok {x : Str} {c : Value} {np : Pos} {Q : Value → Shared → Prop} (S : Inv (X.suite a pn) [] σ H s) (h : Names X x c) (q : Q c s) : wpAny (model X.prog X.w) (X.A.mark (some (.ref a))) (eval (.Name x np) X.env) Q E s := by
  obtain ⟨hg, hdbg, hm | ⟨hm, hv, hnn⟩⟩ := h
  · exact ld_glob (X := X.suite a pn) S hg hm q hdbg
  · exact ld_blt (X := X.suite a pn) S hg hm hv q hnn hdbg
theorem names_ok {pos : Pos} (S : Inv (X.suite a pn) [] σ H s) : ∀ {es : List Expr} {cs : List Value}, NmsOk X es cs → ∀ {Q : List Value → Shared → Prop}, Q cs s → wpAny (model X.prog X.w) (X.A.mark (some (.ref a))) (spliced (backTo pos (starEach es X.env))) Q E s := by
  intro es cs h
  induction h with
  | nil => exact fun q => PyProof.Rows.spliced_none q
  | cons h r he ih => exact fun q => PyProof.Rows.spliced_more (name_ok S h (ih q)) he
theorem test_ok {te : Expr} {cs : List Value} {cls : Value} {b : Bool} (S : Inv (X.suite a pn) [] σ H s) (T : TeOk X te cs) (LT : PySem.W.Looks (model X.prog X.w) s.heap (typeOf (.ref a)) cls) (hx : PySem.W.exmAny X.K cls cs = some b) :
    wpAny (model X.prog X.w) (X.A.mark (some (.ref a))) (eval te X.env) (fun c s1 => ∃ h1, s1 = { s with heap := h1 } ∧ (∀ b o, s.heap.get? b = some o → h1.get? b = some o) ∧ PySem.W.Looks (model X.prog X.w) h1 (excMatches (.ref a) c) b) E s := by
  cases T with
  | nm h =>
    refine name_ok S h ⟨s.heap, rfl, fun _ _ e => e, ?_⟩
    obtain ⟨b1, d1, x1, y1, z1⟩ := PySem.W.exmAny_cons hx
    cases y1
    rw [Bool.or_false] at z1
    rw [z1]
    exact PySem.W.exm_one S.kIn LT x1
  | tp h hl =>
    refine wpAny_Tuple_spliced (names_ok S h ⟨le_line hl, _, rfl, fun _ _ e => Heap.get?_push_of_some _ e, ?_⟩)
    have kp : ∀ b o, s.heap.get? b = some o → (s.heap.push { cls := .type "tuple", data := .seq cs.toArray }).get? b = some o := fun _ _ e => Heap.get?_push_of_some _ e
    exact exm_many (S.kIn.keeps kp) (LT.keeps kp) (Heap.get?_push_size s.heap rfl) hx
end
/-- a clause's classes, its name's slot, its suite -/
structure Cl where
  cs : List Value
  i : Option Nat
  ts : Addr → Value → Option Addr → TS
def nmSet (i : Option Nat) (a : Addr) (σ : L2.St) : L2.St := match i with
  | none => σ
  | some i => σ.set i (some (.ref a))
def nmEnds (i : Option Nat) (D : Ends) : Ends := match i with
  | none => D
  | some i => { nx := fun σ H => D.nx (σ.set i none) H, rt := D.rt, bk := fun σ H => D.bk (σ.set i none) H, ct := fun σ H => D.ct (σ.set i none) H }
def wAll (K : PySem.W.Frag) (Wout : WX) (D : Ends) : List Cl → WX
  | [] => Wout
  | c :: r => fun cls d σ H => ∃ b, PySem.W.exmAny K cls c.cs = some b ∧ (b = true → ∀ a, H a = none → c.ts a cls d (nmEnds c.i D) (nmSet c.i a σ) H) ∧ (b = false → wAll K Wout D r cls d σ H)
inductive ClsOk (X : Cx) : List ExceptHandler → List Cl → Prop
  | nil : ClsOk X [] []
  | one {te : Expr} {cs : List Value} {ts : Addr → Value → Option Addr → TS} {b₀ : Stmt} {suite : List Stmt} {pos' : Pos} {hds : List ExceptHandler} {l : List Cl} (hc : TeOk X te cs)
      (hsu : ∀ (a : Addr) (oe : Obj) (cls : Value) (d : Option Addr) (pn : List (Addr × Obj)), Zc cls d oe → (∃ vs, oe.data = .fields vs) → PSs (X.suite a ((a, oe) :: pn)) (b₀ :: suite) (ts a cls d)) (r : ClsOk X hds l) :
      ClsOk X (.ExceptHandler (some te) none (b₀ :: suite) pos' :: hds) (⟨cs, none, ts⟩ :: l)
  | as {te : Expr} {cs : List Value} {ts : Addr → Value → Option Addr → TS} {b₀ : Stmt} {suite : List Stmt} {pos' : Pos} {hds : List ExceptHandler} {l : List Cl} {i : Nat} {n : Str} (hc : TeOk X te cs) (hN : X.N.Nodup) (hi : X.N[i]? = some n) (hln : X.env.kindOf n = some .local)
      (hsu : ∀ (a : Addr) (oe : Obj) (cls : Value) (d : Option Addr) (pn : List (Addr × Obj)), Zc cls d oe → (∃ vs, oe.data = .fields vs) → PSs (X.suite a ((a, oe) :: pn)) (b₀ :: suite) (ts a cls d)) (r : ClsOk X hds l) :
      ClsOk X (.ExceptHandler (some te) (some n) (b₀ :: suite) pos' :: hds) (⟨cs, some i, ts⟩ :: l)
section
variable {X : Cx} {body : List Stmt} {h₀ : ExceptHandler} {hds : List ExceptHandler} {l : List Cl} {pos : Pos} {tb : WX → TS} {Wout : WX}
theorem ps_try_all (hs : X.stack = X.env :: X.outer) (hf : X.env.frame = some X.env.locals) (tk : Takes X Wout)
    (hb : ∀ (W : WX) (pn : List (Addr × Obj)) (xe : Value → Shared → Prop), Takes (X.tr pn xe) W → PassesOwn (model X.prog X.w) X.A X.env xe → PSs (X.tr pn xe) body (tb W)) (hh : ClsOk X (h₀ :: hds) l) :
    PS X (.Try body (h₀ :: hds) [] [] pos) (fun D σ H => tb (wAll X.K Wout D l) D σ H) := by
  refine ⟨fun pins s σ H D I h => wpAny_Try_except (wpAny_mono ((hb (wAll X.K Wout D l) (X.pn ++ pins) (fun e s₁ => wpAny (model X.prog X.w) X.A (noteFrame e X.env) (fun _ s₂ => wpAny (model X.prog X.w) X.A (setFlight e none) (fun _ s₃ =>
    wpAny (model X.prog X.w) X.A (handleBy e X.env (h₀ :: hds)) (SP X pins D) X.xe s₃) X.xe s₂) X.xe s₁) (fun u s' xx => ?_) PassesOwn.looking).run [] s σ H D (I.toTry _) h) (fun f s1 hsp => ?_) (fun e s1 he => he))⟩
  · have ok := I.ok
    have hfr : X.A.frames = some (X.env :: X.outer) := by rw [ok.frames, hs]
    obtain ⟨a, B, sI, pins', σ', H', cls, d, rfl, J', nb, up, sky, na, os, ag, w⟩ := xx
    have J : Inv X pins σ' H' sI := J'.ofTry ok
    rw [hs] at sky
    show wpAny (model X.prog X.w) X.A (noteFrame (.ref a) X.env) _ _ _
    refine Sky.land Zc.steady hfr hf sky fun h3 fl3 up3 => ?_
    have nfr : ∀ {h : Heap}, HandSPX.FlyingZ B (X.env :: X.outer) a (Zc cls d) h → a ∉ frs (X.env :: X.outer) := fun {h} fl hm => by
      obtain ⟨o, vs, e, _, dd⟩ := fl.there
      obtain ⟨_, o', e', hnf⟩ := fl.2.2.1.mem hm
      rw [e] at e'
      cases e'
      exact hnf _ dd
    have nL : a ≠ X.env.locals := fun z => nfr fl3 (List.mem_filterMap.mpr ⟨X.env, List.mem_cons_self, by rw [hf, z]⟩)
    have nF : a ∉ X.fs := fun hm => by
      obtain ⟨e, he, q⟩ := List.mem_filterMap.mp hm
      exact nfr fl3 (List.mem_filterMap.mpr ⟨e, List.mem_cons_of_mem _ he, q⟩)
    have go : ∀ {hds' : List ExceptHandler} {l' : List Cl}, ClsOk X hds' l' → ∀ (h3 : Heap), HandSPX.FlyingZ B (X.env :: X.outer) a (Zc cls d) h3 → sI.heap.UpToSlots h3 → wAll X.K Wout D l' cls d σ' H' →
        wpAny (model X.prog X.w) X.A (handleBy (.ref a) X.env hds') (SP X pins D) X.xe { s' with heap := h3 } := by
      intro hds' l' hk
      induction hk with
      | nil =>
        intro h3 fl3 up3 w
        refine wpAny_handleBy_nil ?_
        obtain ⟨k1, k2, k3, oe, vs, T, oT, ts', he, hz, hd, h1, hr⟩ := id fl3
        unfold PySem.passOn
        refine wpAny_bind (wpAny_field he hd h1 ?_)
        rw [if_neg (show ¬ ((Value.ref T == Value.none) = true) from by simp)]
        have fin : wpAny (model X.prog X.w) X.A (setFlight (.ref a) X.env.frame) (fun _ s4 => wpAny (model X.prog X.w) X.A (throw (.ref a) : Sem Flow) (SP X pins D) X.xe s4) X.xe { s' with heap := h3 } := by
          rw [hf]
          refine HandSPX.setFlight_upZ fl3 fun h4 hh4 up4 => wpAny_throw (tk _ _ ?_)
          exact ⟨a, B, sI, pins, σ', H', cls, d, rfl, J, nb, up3.trans up4, .inr (.inr (by rw [hs]; exact hh4)), na, os, ag, w⟩
        first
          | exact wpAny_bind (wpAny_pure (wpAny_bind fin))
          | exact wpAny_bind fin
      | @one te cs ts b₀ suite pos' hds2 l2 hc hsu r ih =>
        intro h3 fl3 up3 w
        obtain ⟨b, hb1, hyes, hno⟩ := w
        have J3 : Inv X pins σ' H' { s' with heap := h3 } := J.landed nb fl3.1 up3 os ag
        obtain ⟨oe3, vs3, he3, hz3, hd3⟩ := fl3.there
        have S3 := J3.suite he3 hd3 na nL nF
        have LT : PySem.W.Looks (model X.prog X.w) h3 (typeOf (.ref a)) cls := fun A Q E s k q => wpAny_typeOf_ref (k _ _ he3) (by rw [hz3.1]; exact q)
        refine wpAny_handleBy_cons (codeAny_handlers_test (thn (test_ok S3 hc LT hb1) fun c s4 ⟨h4, e4, k4, LM⟩ => ?_)) (by intro q; cases q)
        subst e4
        have fl4 := fly_kept fl3 k4
        have up4 := up3.trans (Heap.UpToSlots.of_keeps k4)
        refine LM.here ?_
        cases b with
        | true =>
          refine codeAny_handlers_suite ?_
          refine HandSPX.lands_againZ fl4 fun h5 fl5 up5 => ?_
          have J5 : Inv X pins σ' H' { s' with heap := h5 } := J.landed nb fl5.1 (up4.trans up5) os ag
          obtain ⟨oe5, vs5, he5, hz5, hd5⟩ := fl5.there
          have S5 := J5.suite he5 hd5 na nL nF
          refine wpAny_mono ((hsu a oe5 cls d (X.pn ++ pins) hz5 ⟨_, hd5⟩).run [] _ _ H' _ S5 (hyes rfl a na)) (fun f s6 hsp => ?_) (fun _ _ z => False.elim z)
          cases f with
          | next =>
            obtain ⟨σ6, H6, S6, q6⟩ := hsp
            exact ⟨_, _, S6.unsuite ok, q6⟩
          | brk =>
            obtain ⟨σ6, H6, S6, q6⟩ := hsp
            exact ⟨_, _, S6.unsuite ok, q6⟩
          | cont =>
            obtain ⟨σ6, H6, S6, q6⟩ := hsp
            exact ⟨_, _, S6.unsuite ok, q6⟩
          | ret u =>
            obtain ⟨v6, σ6, H6, S6, r6, q6⟩ := hsp
            exact ⟨_, _, _, S6.unsuite ok, r6, q6⟩
        | false =>
          show wpAny _ X.A (handleBy (.ref a) X.env hds2) _ _ _
          exact ih h4 fl4 up4 (hno rfl)
      | @as te cs ts b₀ suite pos' hds2 l2 i n hc hN hi hln hsu r ih =>
        intro h3 fl3 up3 w
        obtain ⟨b, hb1, hyes, hno⟩ := w
        have hloc : Loc X.env.scope n := .inl hln
        have J3 : Inv X pins σ' H' { s' with heap := h3 } := J.landed nb fl3.1 up3 os ag
        obtain ⟨oe3, vs3, he3, hz3, hd3⟩ := fl3.there
        have S3 := J3.suite he3 hd3 na nL nF
        have LT : PySem.W.Looks (model X.prog X.w) h3 (typeOf (.ref a)) cls := fun A Q E s k q => wpAny_typeOf_ref (k _ _ he3) (by rw [hz3.1]; exact q)
        refine wpAny_handleBy_cons (codeAny_handlers_test (thn (test_ok S3 hc LT hb1) fun c s4 ⟨h4, e4, k4, LM⟩ => ?_)) (by intro q; cases q)
        subst e4
        have fl4 := fly_kept fl3 k4
        have up4 := up3.trans (Heap.UpToSlots.of_keeps k4)
        refine LM.here ?_
        cases b with
        | true =>
          refine codeAny_handlers_suite_as ?_
          refine HandSPX.lands_againZ fl4 fun h5 fl5 up5 => ?_
          have J5 : Inv X pins σ' H' { s' with heap := h5 } := J.landed nb fl5.1 (up4.trans up5) os ag
          obtain ⟨oe5, vs5, he5, hz5, hd5⟩ := fl5.there
          have S5 := J5.suite he5 hd5 na nL nF
          refine store_ok (X := X.suite a ((a, oe5) :: (X.pn ++ pins))) (v := .ref a) S5 hN hi hloc rfl (fun s7 S7 => ?_) (.inr hln)
          refine wpAny_mono ((hsu a oe5 cls d (X.pn ++ pins) hz5 ⟨_, hd5⟩).run [] s7 _ H' _ S7 (hyes rfl a na)) (fun f s6 hsp => ?_) (fun _ _ z => False.elim z)
          have end_ : ∀ {σ6 : L2.St} {H6 : Hp} {Q : Shared → Prop}, Inv (X.suite a ((a, oe5) :: (X.pn ++ pins))) [] σ6 H6 s6 → (∀ s7, Inv X pins (σ6.set i none) H6 s7 → Q s7) →
              wpAny (model X.prog X.w) X.A (do bindName X.env n .none; unbindBehindTheSuite X.env n pos') (fun _ s7 => Q s7) X.xe s6 := fun {σ6 H6 Q} S6 hq => gone_ok (S6.unsuite ok) hN hi hln hq
          cases f with
          | next =>
            obtain ⟨σ6, H6, S6, q6⟩ := hsp
            exact end_ S6 fun s7 J7 => ⟨_, _, J7, q6⟩
          | brk =>
            obtain ⟨σ6, H6, S6, q6⟩ := hsp
            exact end_ S6 fun s7 J7 => ⟨_, _, J7, q6⟩
          | cont =>
            obtain ⟨σ6, H6, S6, q6⟩ := hsp
            exact end_ S6 fun s7 J7 => ⟨_, _, J7, q6⟩
          | ret u =>
            obtain ⟨v6, σ6, H6, S6, r6, q6⟩ := hsp
            exact end_ S6 fun s7 J7 => ⟨_, _, _, J7, r6, q6⟩
        | false =>
          show wpAny _ X.A (handleBy (.ref a) X.env hds2) _ _ _
          exact ih h4 fl4 up4 (hno rfl)
    exact go hh h3 fl3 (up.trans up3) w
  · have ok := I.ok
    cases f with
    | next =>
      obtain ⟨σ', H', J', q⟩ := hsp
      exact wpAny_execs_nil ⟨σ', H', J'.ofTry ok, q⟩
    | brk =>
      obtain ⟨σ', H', J', q⟩ := hsp
      exact ⟨σ', H', J'.ofTry ok, q⟩
    | cont =>
      obtain ⟨σ', H', J', q⟩ := hsp
      exact ⟨σ', H', J'.ofTry ok, q⟩
    | ret u =>
      obtain ⟨v, σ', H', J', r, q⟩ := hsp
      exact ⟨v, σ', H', J'.ofTry ok, r, q⟩
end
end L3

set_option Elab.async false
set_option linter.all false
set_option maxRecDepth 100000
set_option maxHeartbeats 4000000
namespace L3
open PySem PySem.Spec PyProof.Rows L2
/-! ### try .. except, on data -/
section
variable {K : PySem.W.Frag} {mg mg' : Mg} {F H : Hp}
theorem cad_cur (h : mg'.mg = mg.mg) (c : Str) : cad mg' c = cad mg c := by
  unfold cad
  rw [h]
mutual
theorem Rep.cur (h : mg'.mg = mg.mg) : ∀ {x : D} {v : V}, Rep K mg F x v → Rep K mg' F x v
  | .non, _, r => r
  | .bl _, _, r => r
  | .int _, _, r => r
  | .str _, _, r => r
  | .tup _, _, ⟨a, vs, e, q, r⟩ => ⟨a, vs, e, q, Reps.cur h r⟩
  | .lst _, _, ⟨a, vs, e, q, r⟩ => ⟨a, vs, e, q, Reps.cur h r⟩
  | .ro _, _, ⟨a, vs, e, q, r⟩ => ⟨a, vs, e, q, Reps.cur h r⟩
  | .ob _ _, _, ⟨a, dx, vs, e, q, r⟩ => ⟨a, dx, vs, e, by rw [cad_cur h]; exact q, RepF.cur h r⟩
theorem Reps.cur (h : mg'.mg = mg.mg) : ∀ {xs : List D} {vs : List V}, Reps K mg F xs vs → Reps K mg' F xs vs
  | [], _, r => r
  | _ :: _, _, ⟨v, r, e, q, t⟩ => ⟨v, r, e, Rep.cur h q, Reps.cur h t⟩
theorem RepF.cur (h : mg'.mg = mg.mg) : ∀ {xs : List (Str × D)} {vs : List (Str × V)}, RepF K mg F xs vs → RepF K mg' F xs vs
  | [], _, r => r
  | (_, _) :: _, _, ⟨v, r, e, q, t⟩ => ⟨v, r, e, Rep.cur h q, RepF.cur h t⟩
end
theorem RepM.cur (h : mg'.mg = mg.mg) {m : MO} {p : Addr} (r : RepM K mg F H m p) : RepM K mg' F H m p := by
  cases m with
  | lst xs =>
    obtain ⟨vs, e, q⟩ := r
    exact ⟨vs, e, q.cur h⟩
end
def isEx : Sl → Bool
  | .ex _ => true
  | _ => false
def noEx (ρ : Rho) : Bool := ρ.all fun s => !isEx s
theorem noEx_get {ρ : Rho} {i : Nat} {fs : List (Str × D)} (h : noEx ρ = true) (e : ρ[i]? = some (.ex fs)) : False := by
  have := List.all_eq_true.mp h _ (List.mem_of_getElem? e)
  cases this
structure HC where
  names : List Str
  i : Option Nat
  s : Rho → SR
/-- the clause's name is bound -/
def hSet (i : Option Nat) (fs : List (Str × D)) (ρ : Rho) : Option Rho := match i with
  | none => some ρ
  | some i => match ρ[i]? with
    | none => none
    | some (.o true _) => none
    | some _ => some (ρ.set i (.ex fs))
def hCut (i : Option Nat) (ρ : Rho) : Rho := match i with
  | none => ρ
  | some i => ρ.set i .un
def hEnd (i : Option Nat) (r : SR) : SR := match r with
  | .nx ρ => if noEx (hCut i ρ) = true then .nx (hCut i ρ) else .no
  | .bk ρ => if noEx (hCut i ρ) = true then .bk (hCut i ρ) else .no
  | .ct ρ => if noEx (hCut i ρ) = true then .ct (hCut i ρ) else .no
  | .rt (.d x) ρ => if noEx (hCut i ρ) = true then .rt (.d x) (hCut i ρ) else .no
  | .rt (.f x) ρ => if noEx (hCut i ρ) = true then .rt (.f x) (hCut i ρ) else .no
  | _ => .no
def hTry (c : Str) (fs : List (Str × D)) : List HC → Rho → SR
  | [], ρ => .ex c fs ρ
  | h :: r, ρ => if h.names.contains c = true then (match hSet h.i fs ρ with
    | some ρ' => hEnd h.i (h.s ρ')
    | none => .no) else hTry c fs r ρ
def sTry (cl : List Str) (s : Rho → SR) (hs : List HC) : Rho → SR := fun ρ => match s ρ with
  | .ex c fs ρ' => if cl.contains c = true then hTry c fs hs ρ' else .no
  | r => r
section
variable {K : PySem.W.Frag} {mg mg' : Mg} {F H F1 H1 F3 H3 : Hp} {σ σ1 σ3 : L2.St} {ρ ρ1 ρ2 ρ3 : Rho} {a d : Addr} {i : Option Nat} {fs : List (Str × D)} {vfs : List (Str × V)}
theorem hSet_get (h : hSet i fs ρ1 = some ρ2) {j : Nat} : ρ2.length = ρ1.length ∧ ((ρ2[j]? = ρ1[j]? ∧ (nmSet i a σ1)[j]? = σ1[j]? ∧ i ≠ some j) ∨ (i = some j ∧ ρ2[j]? = some (.ex fs) ∧ ρ2 = ρ1.set j (.ex fs) ∧ ∀ m, ρ1[j]? ≠ some (.o true m))) := by
  cases i with
  | none =>
    cases h
    exact ⟨rfl, .inl ⟨rfl, rfl, nofun⟩⟩
  | some i =>
    dsimp only [hSet] at h
    cases q : ρ1[i]? with
    | none =>
      rw [q] at h
      cases h
    | some sl =>
      have h2 : ρ1.set i (.ex fs) = ρ2 ∧ ∀ m, sl ≠ .o true m := by
        rw [q] at h
        cases sl with
        | o b m =>
          cases b with
          | true => cases h
          | false => exact ⟨Option.some.inj h, fun m z => nomatch z⟩
        | _ => exact ⟨Option.some.inj h, fun m z => nomatch z⟩
      obtain ⟨rfl, hn⟩ := h2
      refine ⟨List.length_set .., ?_⟩
      by_cases e : i = j
      · subst e
        exact .inr ⟨rfl, set_some q, rfl, fun m z => by rw [q] at z; exact hn m (Option.some.inj z)⟩
      · refine .inl ⟨List.getElem?_set_ne e, ?_, fun z => e (Option.some.inj z)⟩
        exact List.getElem?_set_ne e
theorem own_hSet (h : hSet i fs ρ1 = some ρ2) {b : Addr} (o : Own (nmSet i a σ1) ρ2 b) : Own σ1 ρ1 b := by
  obtain ⟨j, q, m, e1, e2⟩ := o
  rcases (hSet_get (a := a) (σ1 := σ1) h (j := j)).2 with ⟨g1, g2, _⟩ | ⟨_, g, _⟩
  · exact ⟨j, q, m, by rw [← g1]; exact e1, by rw [← g2]; exact e2⟩
  · rw [g] at e1
    cases e1
theorem RS.caught (hm : mg'.mg = mg.mg) (hc : mg.cur = none) (hc' : mg'.cur = some (a, some d)) (r : RS K mg F1 H1 σ1 ρ1) (h : hSet i fs ρ1 = some ρ2) (nd : F1 d = none) (hd : H1 d = some (.xd vfs)) (rf : RepF K mg F1 fs vfs) (na : H1 a = none) : RS K mg' F1 H1 (nmSet i a σ1) ρ2 where
  len := by
    rw [(hSet_get (a := a) (σ1 := σ1) h (j := 0)).1, ← r.len]
    cases i with
    | none => rfl
    | some i => exact List.length_set ..
  sub := r.sub
  dat := fun {j x} e => by
    rcases (hSet_get (a := a) (σ1 := σ1) h (j := j)).2 with ⟨g1, g2, _⟩ | ⟨_, g, _⟩
    · obtain ⟨v, e1, e2⟩ := r.dat (by rw [← g1]; exact e)
      exact ⟨v, by rw [g2]; exact e1, e2.cur hm⟩
    · rw [g] at e
      cases e
  own := fun {j q m} e => by
    rcases (hSet_get (a := a) (σ1 := σ1) h (j := j)).2 with ⟨g1, g2, _⟩ | ⟨_, g, _⟩
    · obtain ⟨p, e1, e2, e3⟩ := r.own (by rw [← g1]; exact e)
      exact ⟨p, by rw [g2]; exact e1, e2, e3.cur hm⟩
    · rw [g] at e
      cases e
  apart := fun {j k q q' m m' p} e1 e2 x y => by
    rcases (hSet_get (a := a) (σ1 := σ1) h (j := j)).2 with ⟨g1, g2, _⟩ | ⟨_, g, _⟩
    · rcases (hSet_get (a := a) (σ1 := σ1) h (j := k)).2 with ⟨k1, k2, _⟩ | ⟨_, g, _⟩
      · exact r.apart (by rw [← g1]; exact e1) (by rw [← k1]; exact e2) (by rw [← g2]; exact x) (by rw [← k2]; exact y)
      · rw [g] at e2
        cases e2
    · rw [g] at e1
      cases e1
  exs := fun {j gs} e => by
    rcases (hSet_get (a := a) (σ1 := σ1) h (j := j)).2 with ⟨g1, g2, _⟩ | ⟨e0, g, e3, _⟩
    · obtain ⟨_, _, _, z, _⟩ := r.exs (by rw [← g1]; exact e)
      rw [hc] at z
      cases z
    · rw [g] at e
      cases e
      subst e0
      have lt : j < σ1.length := by
        rw [r.len]
        have := (List.getElem?_eq_some_iff.mp g).1
        rw [e3, List.length_set] at this
        exact this
      exact ⟨a, d, vfs, hc', List.getElem?_set_self lt, nd, hd, rf.cur hm⟩
/-- behind the suite: the clause's name goes -/
def cutS (i : Option Nat) (σ : L2.St) : L2.St := match i with
  | none => σ
  | some i => σ.set i none
theorem hCut_get {j : Nat} {sl : Sl} (h : (hCut i ρ3)[j]? = some sl) (hl : ∀ k, i = some k → σ3.length = ρ3.length) : (sl = .un ∧ i = some j) ∨ (i ≠ some j ∧ ρ3[j]? = some sl ∧ (cutS i σ3)[j]? = σ3[j]?) := by
  cases i with
  | none => exact .inr ⟨nofun, h, rfl⟩
  | some i =>
    rcases getElem?_set_cases h with ⟨rfl, e, _⟩ | ⟨ne, e⟩
    · exact .inl ⟨e, rfl⟩
    · exact .inr ⟨fun z => ne (Option.some.inj z).symm, e, List.getElem?_set_ne (Ne.symm ne)⟩
theorem own_hCut (hl : σ3.length = ρ3.length) {b : Addr} (o : Own (cutS i σ3) (hCut i ρ3) b) : Own σ3 ρ3 b := by
  obtain ⟨j, q, m, e1, e2⟩ := o
  rcases hCut_get (σ3 := σ3) e1 (fun _ _ => hl) with ⟨z, _⟩ | ⟨_, g1, g2⟩
  · cases z
  · exact ⟨j, q, m, g1, by rw [← g2]; exact e2⟩
theorem Go.uncaught (hm : mg'.mg = mg.mg) (h : hSet i fs ρ1 = some ρ2) (g : Go K mg' F1 H1 (nmSet i a σ1) ρ2 F3 H3 σ3 ρ3) (ne : noEx (hCut i ρ3) = true) : Go K mg F1 H1 σ1 ρ1 F3 H3 (cutS i σ3) (hCut i ρ3) where
  rs := {
    len := by
      have := g.rs.len
      cases i with
      | none => exact this
      | some i =>
        unfold cutS hCut
        rw [List.length_set, List.length_set]
        exact this
    sub := g.rs.sub
    dat := fun {j x} e => by
      rcases hCut_get (σ3 := σ3) e (fun _ _ => g.rs.len) with ⟨z, _⟩ | ⟨_, g1, g2⟩
      · cases z
      · obtain ⟨v, e1, e2⟩ := g.rs.dat g1
        exact ⟨v, by rw [g2]; exact e1, e2.cur hm.symm⟩
    own := fun {j q m} e => by
      rcases hCut_get (σ3 := σ3) e (fun _ _ => g.rs.len) with ⟨z, _⟩ | ⟨_, g1, g2⟩
      · cases z
      · obtain ⟨p, e1, e2, e3⟩ := g.rs.own g1
        exact ⟨p, by rw [g2]; exact e1, e2, e3.cur hm.symm⟩
    apart := fun {j k q q' m m' p} e1 e2 x y => by
      rcases hCut_get (σ3 := σ3) e1 (fun _ _ => g.rs.len) with ⟨z, _⟩ | ⟨_, g1, g2⟩
      · cases z
      · rcases hCut_get (σ3 := σ3) e2 (fun _ _ => g.rs.len) with ⟨z, _⟩ | ⟨_, k1, k2⟩
        · cases z
        · exact g.rs.apart g1 k1 (by rw [← g2]; exact x) (by rw [← k2]; exact y)
    exs := fun e => (noEx_get ne e).elim }
  fro := g.fro
  keep := fun e no => g.keep e fun z => no (own_hSet h z)
  live := g.live
  new := fun e => (g.new e).imp_right fun z => z.imp_right (own_hSet h)
  own := fun o => (g.own (own_hCut g.rs.len o)).imp_left (own_hSet h)
  par := fun {j m} e => by
    rcases (hSet_get (a := a) (σ1 := σ1) h (j := j)).2 with ⟨g1, g2, nij⟩ | ⟨_, _, _, no⟩
    · obtain ⟨e1, m', e2⟩ := g.par (by rw [g1]; exact e)
      cases i with
      | none => exact ⟨e1.trans g2, m', e2⟩
      | some i =>
        have nij' : i ≠ j := fun z => nij (by rw [z])
        refine ⟨?_, m', ?_⟩
        · show (σ3.set i none)[j]? = _
          rw [List.getElem?_set_ne nij', e1, g2]
        · show (ρ3.set i .un)[j]? = _
          rw [List.getElem?_set_ne nij', e2]
    · exact absurd e (no m)
end
/-- the clauses -/
inductive HsOk (X : Cx) : List ExceptHandler → List HC → Prop
  | nil : HsOk X [] []
  | one {te : Expr} {ns : List Str} {s : Rho → SR} {b₀ : Stmt} {suite : List Stmt} {pos' : Pos} {hds : List ExceptHandler} {l : List HC} (hc : TeOk X te (ns.map fun n => .ref (cad (mgX X) n)))
      (hsu : ∀ (a : Addr) (oe : Obj) (d : Option Addr) (pn : List (Addr × Obj)) (c : Str), c ∈ ns → Zc (.ref (cad (mgX X) c)) d oe → (∃ vs, oe.data = .fields vs) → DSs (X.suite a ((a, oe) :: pn)) WN (b₀ :: suite) s) (r : HsOk X hds l) :
      HsOk X (.ExceptHandler (some te) none (b₀ :: suite) pos' :: hds) (⟨ns, none, s⟩ :: l)
  | as {te : Expr} {ns : List Str} {s : Rho → SR} {b₀ : Stmt} {suite : List Stmt} {pos' : Pos} {hds : List ExceptHandler} {l : List HC} {i : Nat} {n : Str} (hc : TeOk X te (ns.map fun n => .ref (cad (mgX X) n))) (hN : X.N.Nodup) (hi : X.N[i]? = some n) (hln : X.env.kindOf n = some .local)
      (hsu : ∀ (a : Addr) (oe : Obj) (d : Option Addr) (pn : List (Addr × Obj)) (c : Str), c ∈ ns → Zc (.ref (cad (mgX X) c)) d oe → (∃ vs, oe.data = .fields vs) → DSs (X.suite a ((a, oe) :: pn)) WN (b₀ :: suite) s) (r : HsOk X hds l) :
      HsOk X (.ExceptHandler (some te) (some n) (b₀ :: suite) pos' :: hds) (⟨ns, some i, s⟩ :: l)
def toCl (X : Cx) (h : HC) : Cl := ⟨h.names.map fun n => .ref (cad (mgX X) n), h.i, fun a cls d D σ H => (∃ c ∈ h.names, cls = .ref (cad (mgX X) c)) ∧ tS X.K ⟨X.mg, some (a, d)⟩ WN h.s D σ H⟩
theorem suite_ok {X : Cx} {a : Addr} {oe : Obj} {cls : Value} {d : Option Addr} {pn : List (Addr × Obj)} {ns : List Str} {st : List Stmt} {s : Rho → SR} (hz : Zc cls d oe)
    (h : ∀ c, c ∈ ns → Zc (.ref (cad (mgX X) c)) d oe → DSs (X.suite a ((a, oe) :: pn)) WN st s) :
    PSs (X.suite a ((a, oe) :: pn)) st fun D σ H => (∃ c ∈ ns, cls = .ref (cad (mgX X) c)) ∧ tS X.K ⟨X.mg, some (a, d)⟩ WN s D σ H := by
  refine ⟨fun pins sh σ H D I w => ?_⟩
  obtain ⟨⟨c, hc, e⟩, w⟩ := w
  refine (h c hc (e ▸ hz)).run pins sh σ H D I ?_
  have : mgX (X.suite a ((a, oe) :: pn)) = ⟨X.mg, some (a, d)⟩ := by
    show Mg.mk X.mg (some (a, oe.dict)) = _
    rw [hz.2]
  rw [this]
  exact w
theorem HsOk.cls {X : Cx} : ∀ {hds : List ExceptHandler} {l : List HC}, HsOk X hds l → ClsOk X hds (l.map (toCl X)) := by
  intro hds l h
  induction h with
  | nil => exact .nil
  | one hc hsu r ih => exact .one hc (fun a oe cls d pn hz hf => suite_ok hz fun c m z => hsu a oe d pn c m z hf) ih
  | as hc hN hi hln hsu r ih => exact .as hc hN hi hln (fun a oe cls d pn hz hf => suite_ok hz fun c m z => hsu a oe d pn c m z hf) ih
theorem ds_try {X : Cx} {W : WX} {body : List Stmt} {h₀ : ExceptHandler} {hds : List ExceptHandler} {pos : Pos} {s : Rho → SR} {l : List HC} {cl : List Str} (hs : X.stack = X.env :: X.outer) (hf : X.env.frame = some X.env.locals) (hc : X.calm = true) (tk : Takes X W)
    (hb : ∀ (W : WX) (pn : List (Addr × Obj)) (xe : Value → Shared → Prop), Takes (X.tr pn xe) W → PassesOwn (model X.prog X.w) X.A X.env xe → DSs (X.tr pn xe) W body s) (hh : HsOk X (h₀ :: hds) l)
    (cat : ∀ c ∈ cl, ∀ h ∈ l, PySem.W.exmAny X.K (.ref (cad (mgX X) c)) (h.names.map fun n => .ref (cad (mgX X) n)) = some (h.names.contains c)) : DS X W (.Try body (h₀ :: hds) [] [] pos) (sTry cl s l) := by
  have mt : ∀ (pn : List (Addr × Obj)) (xe : Value → Shared → Prop), mgX (X.tr pn xe) = mgX X := fun pn xe => by
    unfold mgX curX
    rw [if_pos hc, if_pos (show (X.tr pn xe).calm = true from hc)]
  have m0 : (mgX X).cur = none := by
    unfold mgX curX
    rw [if_pos hc]
  refine PS.weak (ps_try_all (tb := fun W => tS X.K (mgX X) W s) hs hf tk (fun W' pn xe t p => ?_) hh.cls) fun Dn σ H ⟨F, ρ, rs, p⟩ => ⟨F, ρ, rs, ?_⟩
  · have h : PSs (X.tr pn xe) body (tS X.K (mgX (X.tr pn xe)) W' s) := hb W' pn xe t p
    rw [mt] at h
    exact h
  unfold sTry at p
  cases q : s ρ with
  | nx ρ' =>
    rw [q] at p
    exact p
  | rt x ρ' =>
    rw [q] at p
    exact p
  | bk ρ' =>
    rw [q] at p
    exact p
  | ct ρ' =>
    rw [q] at p
    exact p
  | no =>
    rw [q] at p
    exact p.elim
  | ex c fs ρ1 =>
    rw [q] at p
    dsimp only at p
    split at p
    · rename_i hcl
      have hcl : c ∈ cl := by simpa using hcl
      intro d σ1 F1 H1 vfs g0 n0 n1 hd rf
      have key : ∀ l' : List HC, (∀ h ∈ l', h ∈ l) → PostS X.K (mgX X) W H F H σ ρ (hTry c fs l' ρ1) Dn → wAll X.K W Dn (l'.map (toCl X)) (.ref (cad (mgX X) c)) (some d) σ1 H1 := by
        intro l'
        induction l' with
        | nil => exact fun _ p => p d σ1 F1 H1 vfs g0 n0 n1 hd rf
        | cons h r ih =>
          intro hm p
          refine ⟨h.names.contains c, cat c hcl h (hm h (List.mem_cons_self ..)), fun hy a na => ⟨⟨c, by simpa using hy, rfl⟩, ?_⟩, fun hn => ih (fun k hk => hm k (List.mem_cons_of_mem _ hk)) ?_⟩
          · unfold hTry at p
            rw [if_pos hy] at p
            split at p
            · rename_i ρ2 h2
              refine ⟨F1, ρ2, RS.caught (mg := mgX X) rfl m0 rfl g0.rs h2 n1 hd rf na, ?_⟩
              show PostS X.K ⟨X.mg, some (a, some d)⟩ WN H1 F1 H1 (nmSet h.i a σ1) ρ2 (h.s ρ2) (nmEnds h.i Dn)
              have step : ∀ {σ3 : L2.St} {F3 H3 : Hp} {ρ3 : Rho}, Go X.K ⟨X.mg, some (a, some d)⟩ F1 H1 (nmSet h.i a σ1) ρ2 F3 H3 σ3 ρ3 → noEx (hCut h.i ρ3) = true → Go X.K (mgX X) F H σ ρ F3 H3 (cutS h.i σ3) (hCut h.i ρ3) := fun g ne =>
                g0.trans (Go.uncaught (mg := mgX X) (mg' := ⟨X.mg, some (a, some d)⟩) rfl h2 g ne)
              cases r3 : h.s ρ2 with
              | nx ρ3 =>
                rw [r3] at p
                unfold hEnd at p
                dsimp only at p
                split at p
                · rename_i ne
                  intro σ3 F3 H3 g
                  have := p _ _ _ (step g ne)
                  cases hi : h.i with
                  | none =>
                    rw [hi] at this
                    exact this
                  | some i =>
                    rw [hi] at this
                    exact this
                · exact p.elim
              | bk ρ3 =>
                rw [r3] at p
                unfold hEnd at p
                dsimp only at p
                split at p
                · rename_i ne
                  intro σ3 F3 H3 g
                  have := p _ _ _ (step g ne)
                  cases hi : h.i with
                  | none =>
                    rw [hi] at this
                    exact this
                  | some i =>
                    rw [hi] at this
                    exact this
                · exact p.elim
              | ct ρ3 =>
                rw [r3] at p
                unfold hEnd at p
                dsimp only at p
                split at p
                · rename_i ne
                  intro σ3 F3 H3 g
                  have := p _ _ _ (step g ne)
                  cases hi : h.i with
                  | none =>
                    rw [hi] at this
                    exact this
                  | some i =>
                    rw [hi] at this
                    exact this
                · exact p.elim
              | ex _ _ _ =>
                rw [r3] at p
                exact p.elim
              | no =>
                rw [r3] at p
                exact p.elim
              | rt x ρ3 =>
                rw [r3] at p
                have fin : ∀ v H3, Dn.rt v H3 → (nmEnds h.i Dn).rt v H3 := fun v H3 z => by
                  cases h.i with
                  | none => exact z
                  | some i => exact z
                cases x with
                | s j => exact p.elim
                | d x =>
                  unfold hEnd at p
                  dsimp only at p
                  split at p
                  · rename_i ne
                    intro v σ3 F3 H3 g rv
                    exact fin _ _ (p v _ F3 H3 (step g ne) (Rep.cur (mg := ⟨X.mg, some (a, some d)⟩) (mg' := mgX X) rfl rv))
                  · exact p.elim
                | f m =>
                  unfold hEnd at p
                  dsimp only at p
                  split at p
                  · rename_i ne
                    intro v σ3 F3 H3 g ⟨pp, e1, e2, e3, e4, e5⟩
                    exact fin _ _ (p v _ F3 H3 (step g ne) ⟨pp, e1, g0.live e2, e3, RepM.cur (mg := ⟨X.mg, some (a, some d)⟩) (mg' := mgX X) rfl e4, fun z => e5 (own_hCut g.rs.len z)⟩)
                  · exact p.elim
            · exact p.elim
          · unfold hTry at p
            rw [if_neg (by rw [hn]; exact Bool.false_ne_true)] at p
            exact p
      exact key l (fun _ h => h) p
    · exact p.elim
end L3

set_option Elab.async false
set_option linter.all false
set_option maxRecDepth 100000
set_option maxHeartbeats 4000000
namespace L3
open PySem PySem.Spec PyProof.Rows L2
/-! ### e.f, isinstance(e, C) in a suite -/
def eXf (i : Nat) (f : Str) : Rho → R Vl := fun ρ => match ρ[i]? with
  | some (.ex fs) => match fs.lookup f with
    | some x => .ok (.d x) ρ
    | none => .no
  | _ => .no
def eXi (i : Nat) (b : Bool) : Rho → R Vl := fun ρ => match ρ[i]? with
  | some (.ex _) => .ok (.d (.bl b)) ρ
  | _ => .no
section
variable {X : Cx} {a : Addr} {oe : Obj} {d : Option Addr} {C : Addr} {pn : List (Addr × Obj)} {W : WX}
theorem cur_suite (hz : Zc (.ref C) d oe) : mgX (X.suite a ((a, oe) :: pn)) = ⟨X.mg, some (a, d)⟩ := by
  show Mg.mk X.mg (some (a, oe.dict)) = _
  rw [hz.2]
theorem de_xf {n f : Str} {i : Nat} {p pos : Pos} (T : XfC X.K C) (hno : PySem.W.findIn X.K (.ref C) f = some none) (hz : Zc (.ref C) d oe) (hf : ∃ vs, oe.data = .fields vs) (hi : X.N[i]? = some n) (hv : Vis X.env.scope n)
    (hb : attributeBase (.Name n p) f X.env (eval (.Name n p) X.env) = eval (.Name n p) X.env := by rfl) (hd : (n == ("__debug__" : Str)) = false := by decide) (hcd : (n == ("__classdict__" : Str)) = false := by decide) :
    DE (X.suite a ((a, oe) :: pn)) W (.Attribute (.Name n p) f pos) (eXf i f) :=
  PE.weak (pe_xf (pn := pn) T hno hz hf (pe_var (X := X.suite a ((a, oe) :: pn)) (i := i) hi hv hd hcd) hb) fun σ H Q ⟨F, ρ, rs, p⟩ => by
    unfold eXf at p
    cases q : ρ[i]? with
    | none =>
      rw [q] at p
      exact p.elim
    | some sl =>
      rw [q] at p
      cases sl with
      | ex fs =>
        dsimp only at p
        cases q2 : fs.lookup f with
        | none =>
          rw [q2] at p
          exact p.elim
        | some x =>
          rw [q2] at p
          obtain ⟨a0, d0, vfs, hc, e1, e2, e3, e4⟩ := rs.exs q
          rw [cur_suite hz] at hc
          cases hc
          obtain ⟨v, l, rv⟩ := e4.lookup q2
          exact ⟨_, e1, rfl, rfl, d0, vfs, v, rfl, e3, l, p v F H (Go.refl rs) rv⟩
      | _ => exact p.elim
end
end L3
namespace PySem.W
open PySem PySem.Spec PySem.Calls PyProof.Rows
section
variable {prog : Program} {w : World} {K : Frag} {x D : Addr} {ox : Obj}
theorem l3_find {C : Addr} {name : Str} {a g : Value} {od : Option Obj} (hc : (clsIn K C).isSome = true) (ha : findIn K (.ref C) name = some (some a)) (hg : specialIn K a "__get__" = some (some g)) (ht : takesIn K a = some true) : findObj K C od name = some (.bind g a) := by
  obtain ⟨cd, e⟩ := Option.isSome_iff_exists.mp hc
  unfold findObj
  rw [e, Option.bind_some, ha, Option.bind_some]
  simp [hg, ht]
/-- e.__class__ of an own exception that has its dict -/
theorem l3_class (E : L2.ExcC K D) {A : Around} {Er : Value → Shared → Prop} {s : Shared} {od : Option Obj} {Q : Option Value → Shared → Prop} (X : K.In s.heap) (I : InstAt s.heap x ox D od) (h : Q (some (.ref D)) { s with toks := s.toks + 1 }) :
    wpAny (model prog w) A (getAttr? (.ref x) "__class__") Q Er s := by
  obtain ⟨cd0, hcD, _⟩ := any_some E.hd
  have hf : findObj K D od "__class__" = some (.bind (.builtin "getset_descriptor.__get__") (.builtin "object.__class__")) := l3_find (by rw [hcD]; rfl) E.ha E.hn E.ht
  obtain ⟨hp, g, d, t, os⟩ := s
  have T0 := I.type (M := model prog w)
  have T1 := looks_findIn (M := model prog w) X E.hg
  have T2 := looks_findIn (M := model prog w) X E.hk
  have T3 := looks_find (M := model prog w) X I hf
  have sub : Looks (model prog w) hp (isInstance (.ref x) (.type "BaseException")) true := T0.andThen (looks_subIn X E.hs)
  have n2 : (Value.builtin "BaseException.__getattribute__" == Value.builtin "object.__getattribute__") = false := by decide +kernel
  have n1 : (onTheHeap (Value.ref D) && Value.builtin "BaseException.__getattribute__" == Value.builtin "object.__getattribute__") = false := by
    rw [n2]
    rfl
  unfold getAttr? getAttrBy? getAttrBy
  refine wpAny_bind (wpAny_mkText (wpAny_bind (wpAny_attempt (wpAny_holding (wpAny_bind (T0.at (wpAny_bind (T1.at ?_))))))))
  show wpAny _ _ (if (onTheHeap (Value.ref D) && Value.builtin "BaseException.__getattribute__" == Value.builtin "object.__getattribute__") = true then _ else _) _ _ _
  rw [n1, if_neg Bool.false_ne_true]
  unfold getAttrByItsOwn hookBefore
  refine wpAny_bind ?_
  rw [if_pos (show onTheHeap (Value.ref D) = true from rfl)]
  refine T2.at (wpAny_bind (wpAny_attempt (wpAny_holding ?_)))
  unfold callGetattribute
  rw [show (false && onTheHeap (Value.builtin "BaseException.__getattribute__")) = false from rfl, if_neg Bool.false_ne_true]
  unfold boundAndCalled
  rw [PySem.F.excAttr_ValueError.ga.bind (.ref x)]
  refine wpAny_bind (wpAny_pure ?_)
  show wpAny _ _ (call (.builtin "BaseException.__getattribute__") [.ref x, .str "__class__" t]) _ _ _
  refine wpAny_call (codeAny_call_builtin PySem.F.excAttr_ValueError.ga.plain PySem.F.entry_bexc_ga ?_)
  refine @check_slot (model prog w) _ _ ⟨hp, g, d, t + 1, os⟩ "BaseException.__getattribute__" "BaseException" "__getattribute__" (.ref x) [.str "__class__" t] [] _ (by decide +kernel) (by decide +kernel) sub (PySem.F.args_bexc_ga (.ref x) (.str "__class__" t)) ?_
  unfold Builtin.«object.__getattribute__»
  refine wpAny_bind (wpAny_of_eq (a := ((Value.ref x : Value), [Value.str "__class__" t])) (by first | rfl | (simp only [slotArgs]; rfl)) ?_)
  refine wpAny_bind (wpAny_pure (wpAny_bind (T0.at (wpAny_bind (T3.at ?_)))))
  show wpAny _ _ (holding [Value.builtin "object.__class__"] (call (.builtin "getset_descriptor.__get__") [.builtin "object.__class__", .ref x, .ref D]) >>= ret) _ _ _
  refine wpAny_bind (wpAny_holding (wpAny_call (class_get (s := ⟨hp, g, d, t + 1, os⟩) (ox := ox) (od := od) X I E.hm ?_)))
  refine wpAny_pure ?_
  show wpAny _ _ (handedOut (.ref D)) _ _ _
  rw [handedOut_of (v := .ref D) rfl]
  first
    | exact wpAny_pure (wpAny_pure h)
    | exact wpAny_pure h
    | exact wpAny_pure (wpAny_bind (wpAny_pure (wpAny_pure h)))
theorem l3_kitx (E : L2.ExcC K D) : KitX K (.ref x) (.ref D) (fun h => ∃ od, InstAt h x ox D od) where
  ty := fun _ _ _ ⟨_, I⟩ => I.type
  it := fun _ _ X _ => by
    obtain ⟨cdD, hcD, _⟩ := any_some E.hd
    unfold clsIn at hcD
    split at hcD
    · rename_i c' d' cd' sl' ho
      intro A' Q' E' s' k q
      unfold isType loadHead
      exact wpAny_bind (wpAny_loadPart (k _ _ (X _ _ ho)) (wpAny_pure q))
    · cases hcD
  ne := fun h tp dd its n sl X htp => by
    obtain ⟨cdD, hcD, _⟩ := any_some E.hd
    refine Bool.eq_false_iff.mpr fun q => ?_
    obtain rfl : D = tp := Value.ref.inj (beq_iff_eq.mp q)
    unfold clsIn at hcD
    split at hcD
    · rename_i c' d' cd' sl' ho
      have z := (X _ _ ho).symm.trans htp
      cases z
    · cases hcD
  ca := fun X ⟨_, I⟩ k => l3_class E X I k
end
end PySem.W
namespace L3
open PySem PySem.Spec PyProof.Rows L2
/-- isinstance(e, c), e the exception that the suite holds -/
def rXi (K : PySem.W.Frag) (C a : Addr) : List V → Hp → VK → Prop := fun xs H Q => ∃ (dd : Addr) (fs : List (Str × V)) (c : V) (cv : Value) (b : Bool), xs = [.ref a, c] ∧ H dd = some (.xd fs) ∧ (∀ u, RelV c u → u = cv) ∧ PySem.W.kitOne K (.ref C) cv = some b ∧ Q (.bl b) H
section
variable {X : Cx} {a : Addr} {oe : Obj} {d : Option Addr} {C : Addr} {pn : List (Addr × Obj)} {W : WX}
theorem call_xi {pins : List (Addr × Obj)} {s : Shared} {σ : L2.St} {H : Hp} {Q : VK} {cv : Value} {b : Bool} {dd : Addr} {fs : List (Str × V)} (E : ExcC X.K C) (hz : Zc (.ref C) (some dd) oe) (hf : ∃ vs, oe.data = .fields vs) (I : Inv (X.suite a ((a, oe) :: pn)) pins σ H s) (ed : H dd = some (.xd fs))
    (e : PySem.W.kitOne X.K (.ref C) cv = some b) (q : Q (.bl b) H) : wpAny (model X.prog X.w) (X.suite a ((a, oe) :: pn)).A (call (.builtin "isinstance") [.ref a, cv]) (EP (X.suite a ((a, oe) :: pn)) pins σ Q) (X.suite a ((a, oe) :: pn)).xe s := by
  obtain ⟨hget, _⟩ := I.pin (a, oe) (List.mem_append.mpr (.inl List.mem_cons_self))
  obtain ⟨vs, hv⟩ := hf
  have hx : ObjOk X.prog X.w H s.heap dd (.xd fs) := I.hok dd _ ed
  obtain ⟨mA, hns, hr⟩ := hx
  obtain ⟨od, _, _, ho, _⟩ := hns
  have J : PySem.W.InstAt s.heap a oe C (some od) := ⟨hget, hz.1, by unfold PySem.W.notCls; rw [hv] <;> rfl, by rw [hz.2]; exact ho⟩
  exact PySem.W.kia_one (PySem.W.l3_kitx (ox := oe) E) I.kIn ⟨_, J⟩ e (fun z => nomatch z) fun tk => ⟨.bl b, H, I.kept (t' := tk) fun _ _ z => z, rfl, q⟩
theorem de_xi {n y : Str} {i : Nat} {p p1 p2 pos : Pos} {cv : Value} {b : Bool} (E : ExcC X.K C) (hz : Zc (.ref C) d oe) (hf : ∃ vs, oe.data = .fields vs) (hi : X.N[i]? = some n) (hv : Vis X.env.scope n)
    (hg : Gl X "isinstance") (hm : X.mg "isinstance" = none) (hc : Names X y cv) (e : PySem.W.kitOne X.K (.ref C) cv = some b)
    (he : starEach [Expr.Name n p1, Expr.Name y p2] X.env = (false, eval (.Name n p1) X.env) :: starEach [Expr.Name y p2] X.env := by rfl) (he2 : starEach [Expr.Name y p2] X.env = (false, eval (.Name y p2) X.env) :: starEach [] X.env := by rfl)
    (hpl : (backTo pos (starEach [Expr.Name y p2] X.env)).any (·.1) = false := by rfl) (hd : (n == ("__debug__" : Str)) = false := by decide) (hcd : (n == ("__classdict__" : Str)) = false := by decide) :
    DE (X.suite a ((a, oe) :: pn)) W (.Call (.Name "isinstance" p) [.Name n p1, .Name y p2] [] pos) (eXi i b) := by
  refine ⟨fun pins s σ H Q I ⟨F, ρ, rs, pp⟩ => ?_⟩
  unfold eXi at pp
  cases q : ρ[i]? with
  | none =>
    rw [q] at pp
    exact pp.elim
  | some sl =>
    rw [q] at pp
    cases sl with
    | ex fs =>
      obtain ⟨a0, d0, vfs, hcur, e1, e2, e3, e4⟩ := rs.exs q
      rw [cur_suite hz] at hcur
      cases hcur
      have hq : Q (.bl b) H := pp (.bl b) F H (Go.refl rs) rfl
      refine wpAny_Call_Name_kw (ld_blt (X := X.suite a ((a, oe) :: pn)) I hg hm (by first | rfl | kernel_rfl) ?_ (by decide) (by decide))
      refine PyProof.Rows.callWith_builtin1 ?_ he hpl
      have v := (pe_var (X := X.suite a ((a, oe) :: pn)) (i := i) (pos := p1) hi hv hd hcd).run pins s σ H (fun x H' => x = .ref a ∧ H' = H) I ⟨_, e1, rfl, rfl⟩
      refine PyProof.Rows.spliced_more (thn v fun u s1 ⟨x, H1, I1, rx, ex, eh⟩ => ?_) he
      subst ex eh
      obtain rfl : u = Value.ref a := rx
      have fin : wpAny (model X.prog X.w) (X.suite a ((a, oe) :: pn)).A (call (.builtin "isinstance") [.ref a, cv]) (EP (X.suite a ((a, oe) :: pn)) pins σ Q) (X.suite a ((a, oe) :: pn)).xe s1 := call_xi E hz hf I1 e3 e hq
      refine PyProof.Rows.spliced_more ?_ he2
      obtain ⟨hgy, hdbg, hm2 | ⟨hm2, hv2, hnn⟩⟩ := hc
      · exact ld_glob (X := X.suite a ((a, oe) :: pn)) I1 hgy hm2 (PyProof.Rows.spliced_none fin) hdbg
      · exact ld_blt (X := X.suite a ((a, oe) :: pn)) I1 hgy hm2 hv2 (PyProof.Rows.spliced_none fin) hnn hdbg
    | _ => exact pp.elim
end
/-! ### globals, unpacking, keywords -/
section
variable {X : Cx} {W : WX} {e tg : Expr} {es : List Expr} {f g : Rho → R Vl} {l lk : Rho → R (List Vl)} {pos p : Pos}
theorem de_gint {x : Str} {i : Int} {t : Tok} (hg : Gl X x) (hm : X.mg x = some (.int i t)) (hd : (x == ("__debug__" : Str)) = false := by decide) : DE X W (.Name x pos) (eC (.int i)) := de_const (pe_glob (v := .int i) hg hm ⟨t, rfl⟩ hd) fun _ => rfl
def ALen (l : Rho → R (List Vl)) (n : Nat) : Prop := ∀ ρ xs ρ', l ρ = .ok xs ρ' → xs.length = n
theorem al_nil : ALen aNil 0 := fun ρ xs ρ' h => by
  cases h
  rfl
theorem bnd_ok {α β : Type} {f : Rho → R α} {k : α → Rho → R β} {ρ ρ' : Rho} {y : β} (h : bnd f k ρ = .ok y ρ') : ∃ x ρ1, f ρ = .ok x ρ1 ∧ k x ρ1 = .ok y ρ' := by
  unfold bnd at h
  cases q : f ρ with
  | ok x ρ1 =>
    rw [q] at h
    exact ⟨x, ρ1, rfl, h⟩
  | ex c fs ρ1 =>
    rw [q] at h
    cases h
  | no =>
    rw [q] at h
    cases h
theorem al_cons {n : Nat} (h : ALen l n) : ALen (aCons f l) (n + 1) := fun ρ xs ρ' e => by
  obtain ⟨x, ρ1, _, e2⟩ := bnd_ok e
  obtain ⟨ys, ρ2, e3, e4⟩ := bnd_ok e2
  cases e4
  rw [List.length_cons, h _ _ _ e3]
def gSq (gs : List Tg) (x : D) (ρ : Rho) : Option Rho := match x with
  | .tup xs => gAll gs xs ρ
  | .lst xs => gAll gs xs ρ
  | _ => none
/-- a, b, .. = e, a tuple or a list that is looked at -/
def sUnp (f : Rho → R Vl) (hs : List Tg) : Rho → SR := sB f fun x ρ => match view ρ x with
  | some a => match gSq hs a ρ with
    | some ρ' => .nx ρ'
    | none => .no
  | none => .no
theorem pg_or {tg : Expr} {t u : TG} (h : PG X tg t) (k : PG X tg u) : PG X tg fun v σ H Q => t v σ H Q ∨ u v σ H Q := ⟨fun pins s σ H v x Q I r w => w.elim (h.run pins s σ H v x Q I r) (k.run pins s σ H v x Q I r)⟩
theorem gAll_len : ∀ {hs : List Tg} {xs : List D} {ρ ρ' : Rho}, gAll hs xs ρ = some ρ' → xs.length = hs.length := by
  intro hs
  induction hs with
  | nil =>
    intro xs ρ ρ' e
    cases xs with
    | nil => rfl
    | cons x xs => cases e
  | cons h hs ih =>
    intro xs ρ ρ' e
    cases xs with
    | nil => cases e
    | cons x xs =>
      unfold gAll at e
      split at e
      · rw [List.length_cons, List.length_cons, ih e]
      · cases e
theorem ds_unp {kk n : Nat} {is : List Nat} {hs : List Tg} {p2 : Pos} (hc : X.calm = true) (ha : DE X W e f) (d : DGs X es is hs) (hn : hs.length = n := by rfl) (hl : (assignEach es X.env).length = n := by rfl) (hst : (assignEach es X.env).findIdx? (·.1) = none := by rfl)
    (hsw : swapsWithSole [.Tuple es kk p2] e pos.line X.env = pure false := by rfl) (hw : swappedStores [.Tuple es kk p2] e X.env = pure none := by rfl) (h1 : (assignEach [.Tuple es kk p2] X.env).map (·.2) = [assign (.Tuple es kk p2) X.env] := by rfl) :
    DS X W (.Assign [.Tuple es kk p2] e pos) (sUnp f hs) := by
  obtain ⟨t, pt, st⟩ := d
  refine PS.weak (ps_asg ha (pg_or (pg_tup hc pt hl hst) (pg_unl hc pt hl hst)) hsw hw h1) fun Dn σ H ⟨F, ρ, rs, p⟩ => ⟨F, ρ, rs, (PostS.bind0 p).mono fun x H1 ⟨F1, ρ1, u, g1, r1, p1⟩ => ?_⟩
  split at p1
  · rename_i a ea
    split at p1
    · rename_i ρ2 e2
      have rw' := view_rep g1.rs r1 ea
      cases a with
      | tup xs =>
        obtain ⟨q, vs, ev, hq, rr⟩ := rw'
        have e2 : gAll hs xs ρ1 = some ρ2 := e2
        exact .inl ⟨q, vs, ev, sub_t g1.rs.sub hq, by rw [rr.length, gAll_len e2, hn], st (Go.refl g1.rs) rr e2 fun σ2 g2 _ _ => p1 σ2 F1 H1 g2⟩
      | lst xs =>
        obtain ⟨q, vs, ev, hq, rr⟩ := rw'
        have e2 : gAll hs xs ρ1 = some ρ2 := e2
        exact .inr ⟨q, vs, ev, .inl (.inl hq), by rw [rr.length, gAll_len e2, hn], st (Go.refl g1.rs) rr e2 fun σ2 g2 _ _ => p1 σ2 F1 H1 g2⟩
      | _ => cases e2
    · exact p1.elim
  · exact p1.elim
/-! calls with keywords, in the parameters' order -/
def tClK (n m : Nat) (sp : Sp) (W : WX) (t tk : TA) : TE := fun σ H Q => t σ H fun vs H1 => tk σ H1 fun zs H2 => vs.length = n ∧ zs.length = m ∧ sp (vs ++ zs) H2 Q fun c d H' => W c d σ H'
def KwIn (K : PySem.W.Frag) (fd : FuncData) (ps : List Str) (n : Nat) (ks : List Str) : Prop := ∀ (s : Shared) (us ws : List Value), K.In s.heap → us.length = n → ws.length = ks.length → BindsTo s fd ⟨us, ks.zip ws⟩ (ps.zip (us ++ ws))
theorem pe_clK {b : Bool} {k n : Nat} {fa : Addr} {fd : FuncData} {ps ks : List Str} {sp : Sp} {x : Str} {kws : List Keyword} {t tk : TA} (F : FnG b X.prog X.w X.K X.mg X.base (L2.CX X.prog X.w) k fa fd ps sp) (hr : Room k X.A) (hgd : Gd b X.A) (hg : Gl X x) (hm : X.mg x = some (.ref fa)) (hk : PySem.W.keepIn X.K (.ref fa) = true)
    (hb : KwIn X.K fd ps n ks) (tks : Takes X W) (ha : PA X (e :: es) t) (hkw : PK X kws tk) (hall : (backToKw pos (keywordEach kws X.env)).all (·.1.isSome) = true := by rfl) (hks : (backToKw pos (keywordEach kws X.env)).filterMap (·.1) = ks := by rfl)
    (hdb : (x == ("__debug__" : Str)) = false := by decide) (he : starEach (e :: es) X.env = (false, eval e X.env) :: starEach es X.env := by rfl)
    (hpl : ((backTo pos (starEach (e :: es) X.env)).any (·.1) || (backToKw pos (keywordEach kws X.env)).any (·.1.isNone)) = false := by rfl) : PE X (.Call (.Name x p) (e :: es) kws pos) (tClK n ks.length sp W t tk) := by
  refine ⟨fun pins s σ H Q I h => wpAny_Call_Name_kw (ld_glob I hg hm ?_ hdb)⟩
  refine PySem.W.callWith_KW (h₀ := X.base) I.ok.mod.kin hk hall (thn (ha.run pos pins s σ H _ I h) fun us s1 ⟨vs, H1, I1, r, q⟩ => ?_) hpl he
  refine thn (hkw.run pos pins s1 σ H1 _ I1 q) fun ws s2 ⟨zs, H2, I2, rz, l1, l2, q2⟩ => ⟨I2.kIn, ?_⟩
  rw [hks]
  exact wpAny_call (run_g F hr hgd (hb s2 us ws I2.kIn (r.length.symm.trans l1) (rz.length.symm.trans l2)) tks I2 (r.append rz) q2)
theorem PK.weak {kws : List Keyword} {t u : TA} (h : PK X kws t) (m : ∀ σ H Q, u σ H Q → t σ H Q) : PK X kws u := ⟨fun pos pins s σ H Q I w => h.run pos pins s σ H Q I (m σ H Q w)⟩
abbrev DK (X : Cx) (W : WX) (kws : List Keyword) (f : Rho → R (List Vl)) : Prop := PK X kws (tA X.K (mgX X) W f)
theorem dk_nil : DK X W [] aNil := PK.weak pk_nil fun σ H Q ⟨F, ρ, rs, p⟩ => p [] F H (Go.refl rs) rfl
theorem dk_cons {nm : Option Str} {kpos : Pos} {kws : List Keyword} (ha : DE X W e f) (hr : DK X W kws l) : DK X W (⟨nm, e, kpos⟩ :: kws) (aCons f l) :=
  PK.weak (pk_cons ha hr) fun σ H Q ⟨F, ρ, rs, p⟩ => ⟨F, ρ, rs, (Post.bind0 p).mono fun x H1 ⟨F1, ρ1, u, g1, r1, p1⟩ => ⟨F1, ρ1, g1.rs, (p1.bind fun b z => g1.live z).mono fun xs H2 ⟨F2, ρ2, w, g2, r2, p2⟩ =>
    p2 (x :: xs) F2 H2 (Go.refl g2.rs) ⟨x, xs, rfl, RepV.go g2 r1, RepVs.base (fun b z => g1.live z) r2⟩⟩⟩
def aApp (l lk : Rho → R (List Vl)) : Rho → R (List Vl) := bnd l fun xs => bnd lk fun ys ρ => .ok (xs ++ ys) ρ
theorem RepVs.append {K : PySem.W.Frag} {mg : Mg} {H0 F H : Hp} {σ : L2.St} {ρ : Rho} : ∀ {xs : List Vl} {vs : List V} {ys : List Vl} {ws : List V}, RepVs K mg H0 F H σ ρ xs vs → RepVs K mg H0 F H σ ρ ys ws → RepVs K mg H0 F H σ ρ (xs ++ ys) (vs ++ ws)
  | [], _, _, _, h, k => by
    cases (show _ = [] from h)
    exact k
  | _ :: _, _, _, _, ⟨v, r, e, h, t⟩, k => ⟨v, _, by rw [e]; rfl, h, RepVs.append t k⟩
theorem de_callK {b : Bool} {k n : Nat} {fa : Addr} {fd : FuncData} {ps ks : List Str} {x : Str} {kws : List Keyword} {gg : Rho → R Vl} (F : FnG b X.prog X.w X.K X.mg X.base (L2.CX X.prog X.w) k fa fd ps (spG X.K (mgX X) ps.length gg)) (hr : Room k X.A) (hgd : Gd b X.A) (hg : Gl X x) (hm : X.mg x = some (.ref fa)) (hk : PySem.W.keepIn X.K (.ref fa) = true)
    (hb : KwIn X.K fd ps n ks) (tks : Takes X W) (ha : DA X W (e :: es) l) (hkw : DK X W kws lk) (n1 : ALen l n) (n2 : ALen lk ks.length) (n3 : n + ks.length = ps.length)
    (hall : (backToKw pos (keywordEach kws X.env)).all (·.1.isSome) = true := by rfl) (hks : (backToKw pos (keywordEach kws X.env)).filterMap (·.1) = ks := by rfl)
    (hdb : (x == ("__debug__" : Str)) = false := by decide) (he : starEach (e :: es) X.env = (false, eval e X.env) :: starEach es X.env := by rfl)
    (hpl : ((backTo pos (starEach (e :: es) X.env)).any (·.1) || (backToKw pos (keywordEach kws X.env)).any (·.1.isNone)) = false := by rfl) : DE X W (.Call (.Name x p) (e :: es) kws pos) (eCall gg [] (aApp l lk)) :=
  PE.weak (pe_clK F hr hgd hg hm hk hb tks ha hkw hall hks hdb he hpl) fun σ H Q ⟨F0, ρ, rs, pp⟩ => by
    unfold eCall aApp at pp
    rw [bnd_assoc] at pp
    have e1 : (fun xs : List Vl => bnd (bnd lk fun ys (ρ : Rho) => R.ok (xs ++ ys) ρ) (callG gg [])) = fun xs => bnd lk fun ys => callG gg [] (xs ++ ys) := by
      funext xs
      rw [bnd_assoc]
    rw [e1] at pp
    refine ⟨F0, ρ, rs, ?_⟩
    cases q : l ρ with
    | no =>
      unfold bnd at pp
      rw [q] at pp
      exact pp
    | ex c fs ρ' =>
      unfold bnd at pp
      rw [q] at pp
      exact pp
    | ok xs ρ1 =>
      unfold bnd at pp
      rw [q] at pp
      dsimp only at pp
      intro vs F1 H1 g1 r1
      have p1 := pp.step g1
      refine ⟨F1, ρ1, g1.rs, ?_⟩
      cases q2 : lk ρ1 with
      | no =>
        rw [q2] at p1
        exact p1
      | ex c fs ρ' =>
        rw [q2] at p1
        exact fun d F' H' vfs go n => p1 d F' H' vfs go (g1.live n)
      | ok ys ρ2 =>
        rw [q2] at p1
        intro zs F2 H2 g2 r2
        refine ⟨by rw [(r1.get).1, n1 _ _ _ q], by rw [(r2.get).1, n2 _ _ _ q2], ?_⟩
        have := call_wish (ds := []) (dvs := []) g2.rs (fun b z => g1.live (g2.live z)) (RepVs.append (RepVs.go g2 r1) (RepVs.base (fun b z => g1.live z) r2)) rfl (n := ps.length) (by rw [List.append_nil, List.length_append, (r1.get).1, (r2.get).1, n1 _ _ _ q, n2 _ _ _ q2]; exact n3) (p1.step g2)
        rw [List.append_nil] at this
        exact this
end
end L3

set_option Elab.async false
set_option linter.all false
set_option maxRecDepth 100000
set_option maxHeartbeats 4000000
namespace L3
open PySem PySem.Spec PyProof.Rows L2
/-! ### facts about exception classes, read off the head -/
def oexB (K : PySem.W.Frag) (C : Addr) : Bool := (match K.lookup C with
  | some ⟨.type "type", _, .cls cd, sl⟩ => (match cd.mro, sl.toList with
    | .ref C' :: bm, [_, _, _, _, some (.builtin n), _] => C' == C && (n == "ValueError.__new__" && (!cd.hasDel && (cd.hasDict && PySem.HandSPX.refsVE bm)))
    | _, _ => false)
  | _ => false) && (He.eqO (PySem.W.findIn K (.ref C) "__setattr__") (some (some (.builtin "object.__setattr__"))) && (decide (PySem.W.subIn K (.ref C) (.type "BaseException") = some true) && (decide (PySem.W.typeIn K (.ref C) = some (.type "type")) && PySem.W.keepIn K (.ref C))))
theorem oexB_ok {K : PySem.W.Frag} {C : Addr} (h : oexB K C = true) : OexC K C := by
  obtain ⟨h1, h⟩ := He.ba h
  obtain ⟨h2, h⟩ := He.ba h
  obtain ⟨h3, h⟩ := He.ba h
  obtain ⟨h4, h5⟩ := He.ba h
  refine ⟨?_, He.eqO_ok h2, of_decide_eq_true h3, of_decide_eq_true h4, h5⟩
  split at h1
  · rename_i dd cd sl ho
    split at h1
    · rename_i C' bm k0 k1 k2 k3 n k5 hm hs
      simp only [Bool.and_eq_true, beq_iff_eq, Bool.not_eq_true'] at h1
      obtain ⟨rfl, rfl, hdel, hdict, ht⟩ := h1
      obtain ⟨nm, bs, mro, ns, qn, hd, sn, sub, ab, col, del⟩ := cd
      dsimp only at hm hdel hdict
      subst hm hdel hdict
      have hsl : sl = #[k0, k1, k2, k3, some (.builtin "ValueError.__new__"), k5] := by
        obtain ⟨l⟩ := sl
        simp only at hs
        rw [hs]
      subst hsl
      exact ⟨nm, qn, ns, bs, bm, sn, sub, ab, col, dd, k0, k1, k2, k3, k5, ho, ht⟩
    · cases h1
  · cases h1
def excUB (K : PySem.W.Frag) (C D : Addr) (nxt : Value) : Bool := oexB K C && (decide (PySem.W.mroIn K C (.ref D) = some true) && (He.eqO (PySem.W.ks_superIn K C D "__init__") (some (some nxt)) && (decide (PySem.W.subIn K (.ref C) (.type "ValueError") = some true) && He.eqO (PySem.W.nsIn K cStatics "thirdparty.any") (some none))))
theorem excUB_ok {K : PySem.W.Frag} {C D : Addr} {nxt : Value} (h : excUB K C D nxt = true) : ExcU K C D nxt := by
  obtain ⟨h1, h⟩ := He.ba h
  obtain ⟨h2, h⟩ := He.ba h
  obtain ⟨h3, h⟩ := He.ba h
  obtain ⟨h4, h5⟩ := He.ba h
  exact ⟨oexB_ok h1, of_decide_eq_true h2, He.eqO_ok h3, of_decide_eq_true h4, He.eqO_ok h5⟩
def excCB (K : PySem.W.Frag) (C : Addr) : Bool := He.eqO (PySem.W.findIn K (.ref C) "__getattribute__") (some (some (.builtin "BaseException.__getattribute__"))) && (He.eqO (PySem.W.findIn K (.ref C) "__getattr__") (some none) && (decide (PySem.W.subIn K (.ref C) (.type "BaseException") = some true) &&
  (PySem.W.hasDictIn K C && (He.eqO (PySem.W.findIn K (.ref C) "__class__") (some (some (.builtin "object.__class__"))) && (He.eqO (PySem.W.specialIn K (.builtin "object.__class__") "__get__") (some (some (.builtin "getset_descriptor.__get__"))) &&
  (decide (PySem.W.takesIn K (.builtin "object.__class__") = some true) && decide (PySem.W.mroIn K C (.type "object") = some true)))))))
theorem excCB_ok {K : PySem.W.Frag} {C : Addr} (h : excCB K C = true) : ExcC K C ∧ XfC K C := by
  obtain ⟨h1, h⟩ := He.ba h
  obtain ⟨h2, h⟩ := He.ba h
  obtain ⟨h3, h⟩ := He.ba h
  obtain ⟨h4, h⟩ := He.ba h
  obtain ⟨h5, h⟩ := He.ba h
  obtain ⟨h6, h⟩ := He.ba h
  obtain ⟨h7, h8⟩ := He.ba h
  exact ⟨⟨He.eqO_ok h1, He.eqO_ok h2, of_decide_eq_true h3, h4, He.eqO_ok h5, He.eqO_ok h6, of_decide_eq_true h7, of_decide_eq_true h8⟩, ⟨He.eqO_ok h1, He.eqO_ok h2, of_decide_eq_true h3, h4⟩⟩
/-- all that is asked of a raised class c below base, with the fields fs -/
structure ExK (K : PySem.W.Frag) (c base : Str) (fs : List Str) : Prop where
  oex : OexC K (He.ga K c)
  ini : PySem.W.findIn K (.ref (He.ga K c)) "__init__" = some (some (.ref (He.ma K (He.ga K c) "__init__")))
  tyI : PySem.W.typeIn K (.ref (He.ma K (He.ga K c) "__init__")) = some (.type "function")
  U : ExcU K (He.ga K c) (He.ga K c) (.ref (He.ma K (He.ga K base) "__init__"))
  UB : ExcU K (He.ga K c) (He.ga K base) (.builtin "ValueError.__init__")
  nn : PySem.W.findIn K (.ref (He.ga K c)) "name" = some none
  nf : ∀ f ∈ fs, PySem.W.findIn K (.ref (He.ga K c)) f = some none
  fnB : PySem.W.fnIn K (He.ma K (He.ga K base) "__init__") = true
  tyB : PySem.W.typeIn K (.ref (He.ma K (He.ga K base) "__init__")) = some (.type "function")
  ec : ExcC K (He.ga K c)
  xf : XfC K (He.ga K c)
  ve : PySem.W.kitOne K (.ref (He.ga K c)) (.type "ValueError") = some true
def exB (K : PySem.W.Frag) (c base : Str) (fs : List Str) : Bool := oexB K (He.ga K c) && (He.eqO (PySem.W.findIn K (.ref (He.ga K c)) "__init__") (some (some (.ref (He.ma K (He.ga K c) "__init__")))) && (decide (PySem.W.typeIn K (.ref (He.ma K (He.ga K c) "__init__")) = some (.type "function")) &&
  (excUB K (He.ga K c) (He.ga K c) (.ref (He.ma K (He.ga K base) "__init__")) && (excUB K (He.ga K c) (He.ga K base) (.builtin "ValueError.__init__") && (He.eqO (PySem.W.findIn K (.ref (He.ga K c)) "name") (some none) && ((fs.all fun f => He.eqO (PySem.W.findIn K (.ref (He.ga K c)) f) (some none)) &&
  (PySem.W.fnIn K (He.ma K (He.ga K base) "__init__") && (decide (PySem.W.typeIn K (.ref (He.ma K (He.ga K base) "__init__")) = some (.type "function")) && (excCB K (He.ga K c) && decide (PySem.W.kitOne K (.ref (He.ga K c)) (.type "ValueError") = some true))))))))))
theorem exB_ok {K : PySem.W.Frag} {c base : Str} {fs : List Str} (h : exB K c base fs = true) : ExK K c base fs := by
  obtain ⟨h1, h⟩ := He.ba h
  obtain ⟨h2, h⟩ := He.ba h
  obtain ⟨h3, h⟩ := He.ba h
  obtain ⟨h4, h⟩ := He.ba h
  obtain ⟨h5, h⟩ := He.ba h
  obtain ⟨h6, h⟩ := He.ba h
  obtain ⟨h7, h⟩ := He.ba h
  obtain ⟨h8, h⟩ := He.ba h
  obtain ⟨h9, h⟩ := He.ba h
  obtain ⟨h10, h11⟩ := He.ba h
  exact ⟨oexB_ok h1, He.eqO_ok h2, of_decide_eq_true h3, excUB_ok h4, excUB_ok h5, He.eqO_ok h6, fun f hf => He.eqO_ok (List.all_eq_true.mp h7 f hf), h8, of_decide_eq_true h9, (excCB_ok h10).1, (excCB_ok h10).2, of_decide_eq_true h11⟩
/-! ### a class's __init__, closed over the class -/
structure SupR where
  c : Str
  qual : Str
  params : Arguments
  body : List Stmt
  scope : Scope
abbrev SupV : Type := Option (Str × Arguments × FuncBody × Scope × Addr × List Str × Addr)
def supW (K : PySem.W.Frag) (c : Str) : SupV := match K.lookup (He.ma K (He.ga K c) "__init__") with
  | some ⟨_, _, .func fd, _⟩ => some (fd.qualname, fd.params, fd.body, fd.scope, fd.globals, fd.closure.map (·.1), fd.builtins)
  | _ => none
def SupR.val (d : SupR) : SupV := some (d.qual, d.params, .stmts d.body, d.scope, mainGlobals, ["__class__"], builtinsNs)
def fileB (K : PySem.W.Frag) (file : Str) (cda : Addr) : Bool := match K.lookup cda with
  | some ⟨_, _, .fields vs, _⟩ => (match (vs[2]? : Option Value) with
    | some (Value.str f _) => file == f
    | _ => false)
  | _ => false
def cellB (K : PySem.W.Frag) (D cc : Addr) : Bool := match K.lookup cc with
  | some ⟨_, _, .cell (some (.ref D')), _⟩ => D' == D
  | _ => false
def supB (file : Str) (K : PySem.W.Frag) (c : Str) (qual : Str) : Bool := (match K.lookup (He.ma K (He.ga K c) "__init__") with
  | some ⟨_, _, .func fd, _⟩ => (match fd.code, fd.closure, fd.defaults with
    | .ref cda, [(_, cc)], .none => PySem.W.codeIn K (.ref cda) qual && (fileB K file cda && cellB K (He.ga K c) cc)
    | _, _, _ => false)
  | _ => false) && (PySem.W.clsIn K (He.ga K c)).isSome
theorem sup_ok {P : Program} {K : PySem.W.Frag} {d : SupR} (top : (P.main.scope.names.lookup ("super" : Str)).isSome = false) (e : supW K d.c = d.val) (h : supB P.main.file K d.c d.qual = true) :
    ∃ fd cda cc, SupD P K (He.ga K d.c) d.qual d.params d.body d.scope (He.ma K (He.ga K d.c) "__init__") fd cda cc ∧
      ∃ (name : Str) (kV doc pm ct : Value) (an : Option Addr), fd = PySem.W.ksFn name d.qual d.params d.body d.scope .none kV doc pm an (.ref cda) ct cc := by
  obtain ⟨h1, h2⟩ := He.ba h
  unfold supW at e
  cases q : K.lookup (He.ma K (He.ga K d.c) "__init__") with
  | none =>
    rw [q] at h1
    cases h1
  | some o =>
    obtain ⟨oc, od, dt, osl⟩ := o
    rw [q] at h1 e
    cases dt with
    | func fd =>
      obtain ⟨n1, n2, n3, n4, n5, n6, n7, n8, n9, n10, n11, n12, n13, n14, n15⟩ := fd
      have e2 : (some (n2, n3, n4, n5, n6, n7.map (·.1), n15) : SupV) = some (d.qual, d.params, FuncBody.stmts d.body, d.scope, mainGlobals, [("__class__" : Str)], builtinsNs) := e
      simp only [Option.some.injEq, Prod.mk.injEq] at e2
      obtain ⟨rfl, rfl, rfl, rfl, rfl, e3, rfl⟩ := e2
      dsimp only at h1
      split at h1
      · rename_i cda nm cc
        obtain ⟨c1, h1⟩ := He.ba h1
        obtain ⟨c2, c3⟩ := He.ba h1
        have e4 : nm = ("__class__" : Str) := by simpa using e3
        subst e4
        refine ⟨_, cda, cc, ⟨⟨oc, .none, n9, n10, n11, n14, od, n12, osl, n1, rfl, q⟩, c1, ?_, ?_, Option.isSome_iff_exists.mp h2, top⟩, ⟨n1, n9, n10, n11, n14, n12, rfl⟩⟩
        · unfold fileB at c2
          split at c2
          · rename_i a1 a2 vs a3 hq
            split at c2
            · rename_i f tk hf
              exact ⟨a1, a2, a3, vs, f, tk, hq, hf, c2⟩
            · cases c2
          · cases c2
        · unfold cellB at c3
          split at c3
          · rename_i a1 a2 D' a3 hq
            have e5 : D' = He.ga K d.c := by simpa using c3
            subst e5
            exact ⟨a1, a2, a3, hq⟩
          · cases c3
      · cases h1
    | _ => cases e
/-! ### the hook -/
abbrev AlX : Type := He.AlD × (List SupV × Bool)
def obsX (file : Str) (fa : List He.Fa) (fn : List He.DefD) (sp : List SupR) (chk : PySem.W.Frag → Bool) (K : PySem.W.Frag) : AlX := (He.obsD fa fn K, (sp.map fun d => supW K d.c, (sp.all fun d => supB file K d.c d.qual) && chk K))
def valX (fn : List He.DefD) (sp : List SupR) : AlX := (He.valD fn, (sp.map SupR.val, true))
def SaysX (file : Str) (fa : List He.Fa) (fn : List He.DefD) (sp : List SupR) (chk : PySem.W.Frag → Bool) (K : PySem.W.Frag) : Prop := obsX file fa fn sp chk K = valX fn sp
def obsXG (file : Str) (n : Nat) (fa : List He.Fa) (fn : List He.DefD) (sp : List SupR) (chk : PySem.W.Frag → Bool) (g : Addr → Option Obj) : AlX := obsX file fa fn sp chk (He.frG g (cStatics :: He.asD g n))
def hookX (file : Str) (n : Nat) (fa : List He.Fa) (fn : List He.DefD) (sp : List SupR) (chk : PySem.W.Frag → Bool) : PySem.W.Hook where
  α := AlX
  obs := fun s => obsXG file n fa fn sp chk s.heap.get?
  val := fun _ => valX fn sp
  says := fun _ h => ∃ K : PySem.W.Frag, K.In h ∧ SaysX file fa fn sp chk K
  of := fun _ _ e => ⟨_, He.frG_in, e⟩
  keeps := fun _ _ _ ⟨K, hK, c⟩ k => ⟨K, PySem.W.Frag.In.keeps hK k, c⟩
theorem obsXG_eq {file : Str} {n : Nat} {fa : List He.Fa} {fn : List He.DefD} {sp : List SupR} {chk : PySem.W.Frag → Bool} {g : Addr → Option Obj} {s : Shared} (h : ∀ a, g a = s.heap.get? a) : obsXG file n fa fn sp chk g = (hookX file n fa fn sp chk).obs s := by
  have e : g = s.heap.get? := funext h
  rw [e] <;> rfl
section
variable {file : Str} {fa : List He.Fa} {fn : List He.DefD} {sp : List SupR} {chk : PySem.W.Frag → Bool} {K : PySem.W.Frag}
theorem SaysX.d (c : SaysX file fa fn sp chk K) : He.SaysD fa fn K := congrArg (fun z : AlX => z.1) c
theorem SaysX.more (c : SaysX file fa fn sp chk K) : chk K = true := (He.ba (show ((sp.all fun d => supB file K d.c d.qual) && chk K) = true from congrArg (fun z : AlX => z.2.2) c)).2
theorem SaysX.sup {P : Program} (top : (P.main.scope.names.lookup ("super" : Str)).isSome = false) (ef : file = P.main.file) (c : SaysX file fa fn sp chk K) (i : Nat) {d : SupR} (h : sp[i]? = some d := by rfl) :
    ∃ fd cda cc, SupD P K (He.ga K d.c) d.qual d.params d.body d.scope (He.ma K (He.ga K d.c) "__init__") fd cda cc ∧
      ∃ (name : Str) (kV doc pm ct : Value) (an : Option Addr), fd = PySem.W.ksFn name d.qual d.params d.body d.scope .none kV doc pm an (.ref cda) ct cc := by
  have c1 := (He.ba (show ((sp.all fun d => supB file K d.c d.qual) && chk K) = true from congrArg (fun z : AlX => z.2.2) c)).1
  have e : (sp.map fun d => supW K d.c) = sp.map SupR.val := congrArg (fun z : AlX => z.2.1) c
  have e2 : (sp.map fun d => supW K d.c)[i]? = (sp.map SupR.val)[i]? := by rw [e]
  rw [List.getElem?_map, List.getElem?_map, h] at e2
  subst ef
  exact sup_ok top (Option.some.inj e2) (List.all_eq_true.mp c1 d (List.mem_of_getElem? h))
end
end L3

set_option Elab.async false
set_option linter.all false
set_option maxRecDepth 100000
set_option maxHeartbeats 4000000
namespace L3
open PySem PySem.Spec PyProof.Rows L2
/-! ### names for the printed derivations -/
section
variable {X : Cx} {W : WX} {e a b c : Expr} {es : List Expr} {f g k : Rho → R Vl} {l : Rho → R (List Vl)} {pos p : Pos}
theorem opAdd : OpR X (binaryOp .Add) (rAdd4 X.K) := op_add.or (op_add_str.or (op_catA.or op_cat))
theorem opMul : OpR X (binaryOp .Mult) (fun x y H Q => (rI CMulW fun i j => .int (i * j)) x y H Q ∨ rRep x y H Q) := op_mulW.or op_rep
theorem x_add (ha : DE X W a f) (hb : DE X W b g) : DE X W (.BinOp a .Add b pos) (eOp addD f g) := de_op opAdd so_add ha hb
theorem x_sub (ha : DE X W a f) (hb : DE X W b g) : DE X W (.BinOp a .Sub b pos) (eOp subD f g) := de_op op_sub so_sub ha hb
theorem x_mul (ha : DE X W a f) (hb : DE X W b g) : DE X W (.BinOp a .Mult b pos) (eOp mulD f g) := de_op opMul so_mul ha hb
theorem x_mod (ha : DE X W a f) (hb : DE X W b g) : DE X W (.BinOp a .Mod b pos) (eOp modD f g) := de_op op_mod so_mod ha hb
theorem x_fdiv (ha : DE X W a f) (hb : DE X W b g) : DE X W (.BinOp a .FloorDiv b pos) (eOp fdivD f g) := de_op op_fdiv so_fdiv ha hb
theorem x_pow (ha : DE X W a f) (hb : DE X W b g) : DE X W (.BinOp a .Pow b pos) (eOp powD f g) := de_op op_pow so_pow ha hb
theorem x_lt (ha : DE X W a f) (hb : DE X W b g) : DE X W (.Compare a [.Lt] [b] pos) (eOp ltD f g) := de_cmp op_lt so_lt (nomark _) ha hb
theorem x_le (ha : DE X W a f) (hb : DE X W b g) : DE X W (.Compare a [.LtE] [b] pos) (eOp leD f g) := de_cmp op_le so_le (nomark _) ha hb
theorem x_gt (ha : DE X W a f) (hb : DE X W b g) : DE X W (.Compare a [.Gt] [b] pos) (eOp gtD f g) := de_cmp op_gt so_gt (nomark _) ha hb
theorem x_ge (ha : DE X W a f) (hb : DE X W b g) : DE X W (.Compare a [.GtE] [b] pos) (eOp geD f g) := de_cmp op_ge so_ge (nomark _) ha hb
theorem x_eq (ha : DE X W a f) (hb : DE X W b g) : DE X W (.Compare a [.Eq] [b] pos) (eOp eqD f g) := de_cmp op_eq so_eq (nomark _) ha hb
theorem x_ne (ha : DE X W a f) (hb : DE X W b g) : DE X W (.Compare a [.NotEq] [b] pos) (eOp neD f g) := de_cmp op_ne so_ne (nomark _) ha hb
theorem x_in (hm : behindInMarks .In b = false) (ha : DE X W a f) (hb : DE X W b g) : DE X W (.Compare a [.In] [b] pos) (eOp inD f g) := de_cmp op_in_seq so_in hm ha hb
theorem x_nin (hm : behindInMarks .NotIn b = false) (ha : DE X W a f) (hb : DE X W b g) : DE X W (.Compare a [.NotIn] [b] pos) (eOp ninD f g) := de_cmp op_notIn_seq so_nin hm ha hb
theorem x_is (ha : DE X W a f) (hb : DE X W b g) : DE X W (.Compare a [.Is] [b] pos) (eOp isnD f g) := de_cmp op_isN so_isn (nomark _) ha hb
theorem x_isnot (ha : DE X W a f) (hb : DE X W b g) : DE X W (.Compare a [.IsNot] [b] pos) (eOp nisnD f g) := de_cmp op_notN so_nisn (nomark _) ha hb
theorem y_lt (ha : DE X W a f) (hb : DE X W b g) : DT X W (.Compare a [.Lt] [b] pos) (tV (eOp ltD f g)) := dt_cmp op_lt so_lt (nomark _) ha hb
theorem y_le (ha : DE X W a f) (hb : DE X W b g) : DT X W (.Compare a [.LtE] [b] pos) (tV (eOp leD f g)) := dt_cmp op_le so_le (nomark _) ha hb
theorem y_gt (ha : DE X W a f) (hb : DE X W b g) : DT X W (.Compare a [.Gt] [b] pos) (tV (eOp gtD f g)) := dt_cmp op_gt so_gt (nomark _) ha hb
theorem y_ge (ha : DE X W a f) (hb : DE X W b g) : DT X W (.Compare a [.GtE] [b] pos) (tV (eOp geD f g)) := dt_cmp op_ge so_ge (nomark _) ha hb
theorem y_eq (ha : DE X W a f) (hb : DE X W b g) : DT X W (.Compare a [.Eq] [b] pos) (tV (eOp eqD f g)) := dt_cmp op_eq so_eq (nomark _) ha hb
theorem y_ne (ha : DE X W a f) (hb : DE X W b g) : DT X W (.Compare a [.NotEq] [b] pos) (tV (eOp neD f g)) := dt_cmp op_ne so_ne (nomark _) ha hb
theorem y_in (hm : behindInMarks .In b = false) (ha : DE X W a f) (hb : DE X W b g) : DT X W (.Compare a [.In] [b] pos) (tV (eOp inD f g)) := dt_cmp op_in_seq so_in hm ha hb
theorem y_nin (hm : behindInMarks .NotIn b = false) (ha : DE X W a f) (hb : DE X W b g) : DT X W (.Compare a [.NotIn] [b] pos) (tV (eOp ninD f g)) := dt_cmp op_notIn_seq so_nin hm ha hb
theorem y_is (ha : DE X W a f) (hb : DE X W b g) : DT X W (.Compare a [.Is] [b] pos) (tV (eOp isnD f g)) := dt_cmp op_isN so_isn (nomark _) ha hb
theorem y_isnot (ha : DE X W a f) (hb : DE X W b g) : DT X W (.Compare a [.IsNot] [b] pos) (tV (eOp nisnD f g)) := dt_cmp op_notN so_nisn (nomark _) ha hb
theorem x_neg (ha : DE X W a f) : DE X W (.UnaryOp .USub a pos) (eUn negD f) := de_un un_neg so_neg ha
theorem dv (i : Nat) {x : Str} (hN : X.N[i]? = some x := by rfl) (hv : Vis X.env.scope x := by first | exact Or.inl rfl | exact Or.inr (Or.inl rfl) | exact Or.inr (Or.inr rfl)) (hd : (x == ("__debug__" : Str)) = false := by decide) (hcd : (x == ("__classdict__" : Str)) = false := by decide) :
    DE X W (.Name x pos) (eVar i) := de_var (pe_var hN hv hd hcd)
/-- a < b < c -/
def eCh (h h' : D → D → Option Vl) (f g k : Rho → R Vl) : Rho → R Vl := bnd f fun x => bnd g fun y => bnd (op2 h x y) fun z ρ => match z with
  | .d (.bl true) => bnd k (fun w => op2 h' y w) ρ
  | .d (.bl false) => .ok (.d (.bl false)) ρ
  | _ => .no
theorem chain_wish {K : PySem.W.Frag} {mg : Mg} {r r' : R2} {h h' : D → D → Option Vl} (hs : So2 K mg r h) (hs' : So2 K mg r' h') {σ : L2.St} {H : Hp} {Q : VK} (p : tE K mg W (eCh h h' f g k) σ H Q) : tChain r r' (tE K mg W f) (tE K mg W g) (tE K mg W k) σ H Q := by
  obtain ⟨F, ρ, rs, p⟩ := p
  refine ⟨F, ρ, rs, (Post.bind0 p).mono fun x H1 ⟨F1, ρ1, u, g1, r1, p1⟩ => ⟨F1, ρ1, g1.rs, (p1.bind fun b z => g1.live z).mono fun y H2 ⟨F2, ρ2, w, g2, r2, p2⟩ => ?_⟩⟩
  have q2 := p2.bind (rel := relV K mg σ) (Hb := H2) fun b z => g1.live (g2.live z)
  refine Post.op2 hs g2.rs (fun b z => z) (RepV.go g2 r1) r2 (q2.mono fun z H3 ⟨F3, ρ3, t, g3, r3, p3⟩ => ?_)
  split at p3
  · cases (show z = V.bl true from r3)
    refine ⟨true, rfl, ?_⟩
    rw [if_pos rfl]
    exact ⟨F3, ρ3, g3.rs, (p3.bind fun b z => g1.live (g2.live (g3.live z))).mono fun v H4 ⟨F4, ρ4, t4, g4, r4, p4⟩ => Post.op2 hs' g4.rs (fun b z => g1.live (g2.live (g3.live (g4.live z)))) (RepV.go g4 (RepV.go g3 r2)) r4 p4⟩
  · cases (show z = V.bl false from r3)
    exact ⟨false, rfl, p3 _ F3 H3 (Go.refl g3.rs) rfl⟩
  · exact p3.elim
theorem de_chain {op op' : CmpOp} {r r' : R2} {h h' : D → D → Option Vl} (ho : OpR X (compareOp op) r) (hs : So2 X.K (mgX X) r h) (ho' : OpR X (compareOp op') r') (hs' : So2 X.K (mgX X) r' h') (ha : DE X W a f) (hb : DE X W b g) (hc : DE X W c k) (hm : lastMarks [op, op'] [b, c] = false := by with_unfolding_all rfl) :
    DE X W (.Compare a [op, op'] [b, c] pos) (eCh h h' f g k) := PE.weak (pe_chain ho ho' ha hb hc hm) fun σ H Q p => chain_wish hs hs' p
theorem dt_chain {op op' : CmpOp} {r r' : R2} {h h' : D → D → Option Vl} (ho : OpR X (compareOp op) r) (hs : So2 X.K (mgX X) r h) (ho' : OpR X (compareOp op') r') (hs' : So2 X.K (mgX X) r' h') (ha : DE X W a f) (hb : DE X W b g) (hc : DE X W c k) (hm : lastMarks [op, op'] [b, c] = false := by with_unfolding_all rfl) :
    DT X W (.Compare a [op, op'] [b, c] pos) (tV (eCh h h' f g k)) := PT.weak (pt_chain ho ho' ha hb hc hm) fun σ H Q ⟨F, ρ, rs, p⟩ => chain_wish hs hs' ⟨F, ρ, rs, (Post.bind0 p).mono fun x H1 ⟨F1, ρ1, u, g1, r1, p1⟩ => asB_wish g1.rs r1 p1⟩
/-- a def that can be called -/
structure Cal (P : Program) (w : World) (K : PySem.W.Frag) (mg : Str → Option Value) (base : Heap) (x : Str) (k : Nat) (f : Addr) (fd : FuncData) (ps kw : List Str) (g : Rho → R Vl) : Prop where
  m : mg x = some (.ref f)
  kp : PySem.W.keepIn K (.ref f) = true
  bd : KwIn K fd ps (ps.length - kw.length) kw
  fn : FnG true P w K mg base (L2.CX P w) k f fd ps (spG K ⟨mg, none⟩ ps.length g)
theorem Cal.zero {P : Program} {w : World} {K : PySem.W.Frag} {mg : Str → Option Value} {base : Heap} {x : Str} {f : Addr} {fd : FuncData} {ps kw : List Str} (m : mg x = some (.ref f)) (kp : PySem.W.keepIn K (.ref f) = true) (bd : KwIn K fd ps (ps.length - kw.length) kw) {k : Nat} : Cal P w K mg base x k f fd ps kw (fun _ => .no) :=
  ⟨m, kp, bd, ⟨fun vs H Q E h => h.1, fun A o s H a us vs Q E r g e b v h => by
    obtain ⟨_, F, ρ, _, p⟩ := h
    exact p.elim⟩⟩
theorem kw_binds {K : PySem.W.Frag} {fd : FuncData} {ps : List Str} (h : KwIn K fd ps (ps.length - ([] : List Str).length) []) : Binds K fd ps [] := fun s us k hl => by
  rw [List.append_nil] at hl ⊢
  have := h s us [] k hl rfl
  rw [List.append_nil] at this
  exact this
theorem kw_of {K : PySem.W.Frag} {x qual : Str} {params : Arguments} {body : List Stmt} {scope : Scope} {kws : List (Str × V)} {f : Addr} {fd : FuncData} {ps ks : List Str} {n : Nat} (F : FunD K x qual params body scope [] kws f fd)
    (h : ∀ (kV doc pm : Value) (an : Option Addr) (cdv ct : Value) (us ws : List Value), us.length = n → ws.length = ks.length → bindArgs (PySem.W.fnOf x qual params body scope .none kV doc pm an cdv ct) ⟨us, ks.zip ws⟩ = pure (ps.zip (us ++ ws))) : KwIn K fd ps n ks := by
  obtain ⟨oc, od, dV, kV, doc, pm, an, cdv, ct, osl, rfl, lk, hcd, hD, hK⟩ := F.ex
  rcases hD with ⟨_, rfl⟩ | ⟨e, _⟩
  · exact fun s us ws _ h1 h2 => .of_eq (h kV doc pm an cdv ct us ws h1 h2)
  · exact absurd rfl e
theorem x_call {x : Str} {j n : Nat} {fa : Addr} {fd : FuncData} {ps : List Str} {gg : Rho → R Vl} (C : Cal X.prog X.w X.K X.mg X.base x j fa fd ps [] gg) (hr : Room n X.A) (hj : j ≤ n) (hgd : Gd true X.A) (hc : (mgX X).cur = none) (tk : Takes X W)
    (hg : Gl X x) (ha : DA X W (e :: es) l) (hl : ALen l (e :: es).length) (hn : (e :: es).length = ps.length) (hdb : (x == ("__debug__" : Str)) = false := by decide) (he : starEach (e :: es) X.env = (false, eval e X.env) :: starEach es X.env := by rfl)
    (hpl : (backTo pos (starEach es X.env)).any (·.1) = false := by rfl) : DE X W (.Call (.Name x p) (e :: es) [] pos) (eCall gg [] l) := by
  have em : (⟨X.mg, none⟩ : Mg) = mgX X := by
    rw [← hc]
    rfl
  have fn := C.fn
  rw [em] at fn
  exact de_call fn (hr.mono hj) hgd hg C.m C.kp (kw_binds C.bd) .nil (fun _ => rfl) (by rw [List.length_nil, Nat.add_zero]; exact hn) tk ha (fun ρ xs ρ' h => hl ρ xs ρ' h) hdb he hpl
theorem x_callK {x : Str} {j n : Nat} {fa : Addr} {fd : FuncData} {ps ks : List Str} {kws : List Keyword} {gg : Rho → R Vl} {lk : Rho → R (List Vl)} (C : Cal X.prog X.w X.K X.mg X.base x j fa fd ps ks gg) (hr : Room n X.A) (hj : j ≤ n) (hgd : Gd true X.A) (hc : (mgX X).cur = none) (tk : Takes X W)
    (hg : Gl X x) (ha : DA X W (e :: es) l) (hkw : DK X W kws lk) (n1 : ALen l (ps.length - ks.length)) (n2 : ALen lk ks.length) (n3 : (ps.length - ks.length) + ks.length = ps.length)
    (hall : (backToKw pos (keywordEach kws X.env)).all (·.1.isSome) = true := by rfl) (hks : (backToKw pos (keywordEach kws X.env)).filterMap (·.1) = ks := by rfl)
    (hdb : (x == ("__debug__" : Str)) = false := by decide) (he : starEach (e :: es) X.env = (false, eval e X.env) :: starEach es X.env := by rfl)
    (hpl : ((backTo pos (starEach (e :: es) X.env)).any (·.1) || (backToKw pos (keywordEach kws X.env)).any (·.1.isNone)) = false := by rfl) : DE X W (.Call (.Name x p) (e :: es) kws pos) (eCall gg [] (aApp l lk)) := by
  have em : (⟨X.mg, none⟩ : Mg) = mgX X := by
    rw [← hc]
    rfl
  have fn := C.fn
  rw [em] at fn
  exact de_callK fn (hr.mono hj) hgd hg C.m C.kp C.bd tk ha hkw n1 n2 n3 hall hks hdb he hpl
end
/-- the rule of a def, with what its body may use -/
theorem ok_c {P : Program} {w : World} {K : PySem.W.Frag} {base : Heap} {k : Nat} {f : Addr} {fd : FuncData} {N ps : List Str} {m : Str → Option Value} {x qual : Str} {params : Arguments} {body : List Stmt} {scope : Scope} {kws : List (Str × V)} {s : Rho → SR}
    (Fd : FunD K x qual params body scope [] kws f fd) {kw : List Str} (hm : m x = some (.ref f)) (bd : KwIn K fd ps (ps.length - kw.length) kw) (S : FnScope N ps scope) (hn : ps.length ≤ N.length)
    (hb : ∀ (cdv : Value) (A : Around) (outer : List Env) (sh : Shared) (H : Hp) (E : XK), Room k (A.deeper (envOfC qual scope sh.heap.objs.size f cdv)) → Gd true (A.deeper (envOfC qual scope sh.heap.objs.size f cdv)) →
      Takes (cxOf (L2.CX P w) P w K m base N qual scope f cdv A outer sh H E) (WE E) →
      PassesOwn (model P w) (A.deeper (envOfC qual scope sh.heap.objs.size f cdv)) (envOfC qual scope sh.heap.objs.size f cdv) (cxOf (L2.CX P w) P w K m base N qual scope f cdv A outer sh H E).xe →
      DSs (cxOf (L2.CX P w) P w K m base N qual scope f cdv A outer sh H E) (WE E) body s) : Cal P w K m base x (k + 1) f fd ps kw (bodyR N.length s) :=
  ⟨hm, Fd.kp, bd, ok_g Fd S hn fun cdv A outer sh H E hr hg => hb cdv A outer sh H E hr (fun z => hg z) (takes_of rfl rfl rfl rfl) (passes_of (X := cxOf (L2.CX P w) P w K m base N qual scope f cdv A outer sh H E) rfl)⟩
/-- a class that can be raised -/
structure Rai (P : Program) (w : World) (K : PySem.W.Frag) (mg : Str → Option Value) (base : Heap) (c : Str) (k : Nat) (fs : List Str) : Prop where
  m : mg c = some (.ref (He.ga K c))
  x : ∃ b, ExK K c b fs
  fn : ∃ fd ps, Binds K fd ps [] ∧ FnOk P w K mg base (L2.CX P w) k (He.ma K (He.ga K c) "__init__") fd ps (spE (He.ga K c) fs c)
theorem x_raise {X : Cx} {W : WX} {c : Str} {j n : Nat} {fs : List Str} {e : Expr} {es : List Expr} {l : Rho → R (List Vl)} {p pos pos2 : Pos} (C : Rai X.prog X.w X.K X.mg X.base c j fs) (hc : X.calm = true) (tk : Takes X W) (hr : Room n X.A) (hj : j + 1 ≤ n) (hg : Gl X c) (ha : DA X W (e :: es) l)
    (hdb : (c == ("__debug__" : Str)) = false := by decide) (he : starEach (e :: es) X.env = (false, eval e X.env) :: starEach es X.env := by rfl) (hpl : (backTo pos (starEach es X.env)).any (·.1) = false := by rfl) (hz : fs.length ≤ 900 := by decide) :
    DS X W (.Raise (some (.Call (.Name c p) (e :: es) [] pos)) none pos2) (sRs c fs l) := by
  obtain ⟨b, x⟩ := C.x
  obtain ⟨fd, ps, bd, fn⟩ := C.fn
  exact ds_raise hc tk x.oex x.ini x.tyI fn (hr.mono hj) bd hg C.m ha hdb he hpl hz
section
variable {X : Cx} {W : WX} {P : Program} {w : World} {K : PySem.W.Frag} {base : Heap}
theorem cad_of {c : Str} {a : Addr} (h : X.mg c = some (.ref a)) : cad (mgX X) c = a := by
  unfold cad
  rw [show (mgX X).mg c = some (.ref a) from h]
theorem x_nm {c : Str} (C : X.mg c = some (.ref (He.ga X.K c))) (hg : Gl X c) (hd : (c == ("__debug__" : Str)) = false := by decide) : Names X c (.ref (cad (mgX X) c)) := ⟨hg, hd, .inl (by rw [cad_of C]; exact C)⟩
def catB (K : PySem.W.Frag) (cl : List Str) : Bool := cl.all fun c => cl.all fun n => decide (PySem.W.exmOne K (.ref (He.ga K c)) (.ref (He.ga K n)) = some (c == n))
theorem cat_one {cl : List Str} {c : Str} (hm : ∀ c ∈ cl, X.mg c = some (.ref (He.ga X.K c))) (hk : catB X.K cl = true) (hc : c ∈ cl) : ∀ {ns : List Str}, (∀ n ∈ ns, n ∈ cl) → PySem.W.exmAny X.K (.ref (cad (mgX X) c)) (ns.map fun n => .ref (cad (mgX X) n)) = some (ns.contains c)
  | [], _ => rfl
  | n :: ns, h => by
    have e := of_decide_eq_true (List.all_eq_true.mp (List.all_eq_true.mp hk c hc) n (h n (List.mem_cons_self ..)))
    rw [List.map_cons, List.contains_cons]
    unfold PySem.W.exmAny
    rw [cat_one hm hk hc fun n hn => h n (List.mem_cons_of_mem _ hn), cad_of (hm c hc), cad_of (hm n (h n (List.mem_cons_self ..))), e]
theorem cat_ok {cl : List Str} (hm : ∀ c ∈ cl, X.mg c = some (.ref (He.ga X.K c))) (hk : catB X.K cl = true) {l : List HC} (hl : (l.all fun h => h.names.all fun n => cl.contains n) = true) :
    ∀ c ∈ cl, ∀ h ∈ l, PySem.W.exmAny X.K (.ref (cad (mgX X) c)) (h.names.map fun n => .ref (cad (mgX X) n)) = some (h.names.contains c) := fun _ hc h hh => cat_one hm hk hc fun n hn => by
  have := List.all_eq_true.mp (List.all_eq_true.mp hl h hh) n hn
  simpa using this
theorem x_xf {a : Addr} {oe : Obj} {d : Option Addr} {pn : List (Addr × Obj)} {c n f : Str} {i j : Nat} {fs : List Str} {p pos : Pos} (R : Rai X.prog X.w X.K X.mg X.base c j fs) (hz : Zc (.ref (cad (mgX X) c)) d oe) (hf : ∃ vs, oe.data = .fields vs) (hfm : f = "name" ∨ f ∈ fs) (hi : X.N[i]? = some n := by rfl)
    (hv : Vis X.env.scope n := by first | exact Or.inl rfl | exact Or.inr (Or.inl rfl) | exact Or.inr (Or.inr rfl))
    (hb : attributeBase (.Name n p) f X.env (eval (.Name n p) X.env) = eval (.Name n p) X.env := by rfl) (hd : (n == ("__debug__" : Str)) = false := by decide) (hcd : (n == ("__classdict__" : Str)) = false := by decide) :
    DE (X.suite a ((a, oe) :: pn)) W (.Attribute (.Name n p) f pos) (eXf i f) := by
  obtain ⟨b, x⟩ := R.x
  rw [cad_of R.m] at hz
  exact de_xf x.xf (hfm.elim (fun e => e ▸ x.nn) (x.nf f)) hz hf hi hv hb hd hcd
theorem x_xi {a : Addr} {oe : Obj} {d : Option Addr} {pn : List (Addr × Obj)} {c n : Str} {i j : Nat} {fs : List Str} {p p1 p2 pos : Pos} (R : Rai X.prog X.w X.K X.mg X.base c j fs) (hz : Zc (.ref (cad (mgX X) c)) d oe) (hf : ∃ vs, oe.data = .fields vs) (hgi : Gl X "isinstance") (hmi : X.mg "isinstance" = none) (hgv : Gl X "ValueError") (hmv : X.mg "ValueError" = none) (hi : X.N[i]? = some n := by rfl)
    (hv : Vis X.env.scope n := by first | exact Or.inl rfl | exact Or.inr (Or.inl rfl) | exact Or.inr (Or.inr rfl))
    (he : starEach [Expr.Name n p1, Expr.Name "ValueError" p2] X.env = (false, eval (.Name n p1) X.env) :: starEach [Expr.Name "ValueError" p2] X.env := by rfl) (he2 : starEach [Expr.Name "ValueError" p2] X.env = (false, eval (.Name "ValueError" p2) X.env) :: starEach [] X.env := by rfl)
    (hpl : (backTo pos (starEach [Expr.Name "ValueError" p2] X.env)).any (·.1) = false := by rfl) (hd : (n == ("__debug__" : Str)) = false := by decide) (hcd : (n == ("__classdict__" : Str)) = false := by decide) :
    DE (X.suite a ((a, oe) :: pn)) W (.Call (.Name "isinstance" p) [.Name n p1, .Name "ValueError" p2] [] pos) (eXi i true) := by
  obtain ⟨b, x⟩ := R.x
  rw [cad_of R.m] at hz
  exact de_xi (cv := .type "ValueError") x.ec hz hf hi hv hgi hmi ⟨hgv, by decide, .inr ⟨hmv, PyProof.Rows.Boot.«ValueError», by decide⟩⟩ x.ve he he2 hpl hd hcd
end
def blkB (N : List Str) (sc scope : Scope) (own : List (Str × Nat)) : Bool := decide (scope.kind = .function) && ((scope.names.all fun y => decide (scope.names.lookup y.1 = some y.2)) && ((own.all fun p => decide (N[p.2]? = some p.1)) &&
  ((scope.names.all fun y => !decide (y.2 = .free) || (decide (sc.names.lookup y.1 = some .cell) || decide (sc.names.lookup y.1 = some .free))) && (scope.names.all fun y => !(decide (y.2 = .local) || decide (y.2 = .cell)) || (decide (y.1 ∈ own.map (·.1)) || !decide (y.1 ∈ N))))))
theorem blk_ok {N : List Str} {sc scope : Scope} {own : List (Str × Nat)} (h : blkB N sc scope own = true) : BlkOk N sc scope own := by
  obtain ⟨h1, h⟩ := He.ba h
  obtain ⟨h2, h⟩ := He.ba h
  obtain ⟨h3, h⟩ := He.ba h
  obtain ⟨h4, h5⟩ := He.ba h
  refine ⟨of_decide_eq_true h1, fun y hy => of_decide_eq_true (List.all_eq_true.mp h2 y hy), fun p hp => of_decide_eq_true (List.all_eq_true.mp h3 p hp), fun y hy e => ?_, fun y hy e => ?_⟩
  · have := List.all_eq_true.mp h4 y hy
    simpa [e] using this
  · have := List.all_eq_true.mp h5 y hy
    rcases e with e | e
    · simpa [e] using this
    · simpa [e] using this
end L3

set_option Elab.async false
set_option linter.all false
set_option maxRecDepth 100000
set_option maxHeartbeats 4000000
namespace L3
open PySem PySem.Spec PyProof.Rows L2
/-! ### what a result must meet: the plain side -/
def W1 {α : Type} (r : R α) (P : α → Rho → Prop) : Prop := match r with
  | .ok a ρ => P a ρ
  | _ => False
def WS (r : SR) (N : Rho → Prop) (T : Vl → Rho → Prop) : Prop := match r with
  | .nx ρ => N ρ
  | .rt x ρ => T x ρ
  | _ => False
def On {α : Type} (o : Option α) (F : α → Prop) : Prop := match o with
  | some a => F a
  | none => False
@[simp] theorem on_some {α : Type} (a : α) (F : α → Prop) : On (some a) F = F a := rfl
@[simp] theorem on_none {α : Type} (F : α → Prop) : On none F = False := rfl
@[simp] theorem on_ite {α : Type} {c : Prop} [Decidable c] (o : Option α) (F : α → Prop) : On (if c then o else none) F = (c ∧ On o F) := by
  by_cases h : c
  · rw [if_pos h]
    exact propext ⟨fun z => ⟨h, z⟩, fun z => z.2⟩
  · rw [if_neg h]
    exact propext ⟨fun z => z.elim, fun z => h z.1⟩
@[simp] theorem on_map {α β : Type} (f : α → β) (o : Option α) (F : β → Prop) : On (o.map f) F = On o fun a => F (f a) := by
  cases o <;> rfl
@[simp] theorem on_bind {α β : Type} (f : α → Option β) (o : Option α) (F : β → Prop) : On (o.bind f) F = On o fun a => On (f a) F := by
  cases o <;> rfl
theorem W1.ex {α : Type} {r : R α} {P : α → Rho → Prop} (h : W1 r P) : ∃ a ρ, r = .ok a ρ ∧ P a ρ := by
  cases r with
  | ok a ρ => exact ⟨a, ρ, rfl, h⟩
  | _ => exact h.elim
theorem W1.mono {α : Type} {r : R α} {P Q : α → Rho → Prop} (h : W1 r P) (m : ∀ a ρ, P a ρ → Q a ρ) : W1 r Q := by
  cases r with
  | ok a ρ => exact m _ _ h
  | _ => exact h.elim
theorem WS.mono {r : SR} {N N' : Rho → Prop} {T T' : Vl → Rho → Prop} (h : WS r N T) (m : ∀ ρ, N ρ → N' ρ) (t : ∀ a ρ, T a ρ → T' a ρ) : WS r N' T' := by
  cases r with
  | nx ρ => exact m _ h
  | rt x ρ => exact t _ _ h
  | _ => exact h.elim
section
variable {α β : Type} {f g : Rho → R Vl} {s t : Rho → SR} {c d : Rho → R Bool} {l lk : Rho → R (List Vl)} {ρ : Rho} {P : Vl → Rho → Prop} {N : Rho → Prop} {T : Vl → Rho → Prop} {i : Nat}
@[simp] theorem w_ok (a : α) (ρ : Rho) (P : α → Rho → Prop) : W1 (.ok a ρ) P = P a ρ := rfl
@[simp] theorem w_no (P : α → Rho → Prop) : W1 (.no : R α) P = False := rfl
@[simp] theorem w_exc (c : Str) (fs : List (Str × D)) (ρ : Rho) (P : α → Rho → Prop) : W1 (.ex c fs ρ : R α) P = False := rfl
@[simp] theorem w_bnd (f : Rho → R α) (k : α → Rho → R β) (P : β → Rho → Prop) : W1 (bnd f k ρ) P = W1 (f ρ) fun a ρ' => W1 (k a ρ') P := by
  unfold bnd
  cases f ρ <;> rfl
@[simp] theorem w_nx : WS (.nx ρ) N T = N ρ := rfl
@[simp] theorem w_rt (x : Vl) : WS (.rt x ρ) N T = T x ρ := rfl
@[simp] theorem w_sno : WS .no N T = False := rfl
@[simp] theorem w_sB (f : Rho → R α) (k : α → Rho → SR) : WS (sB f k ρ) N T = W1 (f ρ) fun a ρ' => WS (k a ρ') N T := by
  unfold sB
  cases f ρ <;> rfl
@[simp] theorem w_seq : WS (sSeq s t ρ) N T = WS (s ρ) (fun ρ' => WS (t ρ') N T) T := by
  unfold sSeq
  cases s ρ <;> rfl
@[simp] theorem w_if : WS (sIf c s t ρ) N T = W1 (c ρ) fun b ρ' => (b = true → WS (s ρ') N T) ∧ (b = false → WS (t ρ') N T) := by
  unfold sIf
  rw [w_sB]
  congr
  funext b ρ'
  cases b <;> simp
@[simp] theorem w_snx : WS (sNx ρ) N T = N ρ := rfl
@[simp] theorem w_srt : WS (sRt f ρ) N T = W1 (f ρ) T := by
  unfold sRt
  rw [w_sB]
  rfl
@[simp] theorem w_sset : WS (sSet i f ρ) N T = W1 (f ρ) fun x ρ' => WS (setSl i x ρ') N T := by
  unfold sSet
  rw [w_sB]
@[simp] theorem w_sex : WS (sEx f ρ) N T = W1 (f ρ) fun _ ρ' => N ρ' := by
  unfold sEx
  rw [w_sB]
  rfl
@[simp] theorem w_ssx (fk fe : Rho → R Vl) : WS (sSx i fk fe ρ) N T = W1 (fe ρ) fun v ρ' => match ρ'[i]? with
    | some (.o _ (.lst _)) => W1 (fk ρ') fun k ρ2 => WS (sx1 i v k ρ2) N T
    | _ => False := by
  unfold sSx
  rw [w_sB]
  congr
  funext v ρ'
  generalize e : ρ'[i]? = o
  cases o with
  | none => rfl
  | some sl => cases sl with
    | o q m =>
      cases m
      exact w_sB _ _
    | _ => rfl
@[simp] theorem w_unp (hs : List Tg) : WS (sUnp f hs ρ) N T = W1 (f ρ) fun x ρ' => match view ρ' x with
    | some a => On (gSq hs a ρ') N
    | none => False := by
  unfold sUnp
  rw [w_sB]
  congr
  funext x ρ'
  generalize view ρ' x = o
  cases o with
  | none => rfl
  | some a =>
    dsimp only
    generalize gSq hs a ρ' = u
    cases u <;> rfl
@[simp] theorem q_setSl (x : Vl) : setSl i x ρ = match ρ[i]? with
  | none => .no
  | some (.o true _) => .no
  | some _ => match x with
    | .d a => .nx (ρ.set i (.d a))
    | .f m => .nx (ρ.set i (.o false m))
    | .s _ => .no := rfl
@[simp] theorem q_var : eVar i ρ = match ρ[i]? with
  | some (.d x) => .ok (.d x) ρ
  | some (.o _ _) => .ok (.s i) ρ
  | _ => .no := rfl
@[simp] theorem q_eC (x : D) : eC x ρ = .ok (.d x) ρ := rfl
@[simp] theorem q_eOp (h : D → D → Option Vl) : eOp h f g ρ = bnd f (fun x => bnd g fun y => op2 h x y) ρ := rfl
@[simp] theorem q_eUn (h : D → Option Vl) : eUn h f ρ = bnd f (fun x => op1 h x) ρ := rfl
@[simp] theorem q_eCB (h : List D → Option Vl) : eCB h l ρ = bnd l (fun xs => opN h xs) ρ := rfl
@[simp] theorem q_eFz : eFz f ρ = bnd f fz ρ := rfl
@[simp] theorem q_fz (x : Vl) : fz x ρ = match x with
  | .d x => .ok (.d x) ρ
  | .f (.lst xs) => .ok (.d (.lst xs)) ρ
  | .s i => match ρ[i]? with
    | some (.o false (.lst xs)) => .ok (.d (.lst xs)) (ρ.set i (.d (.lst xs)))
    | some (.d x) => .ok (.d x) ρ
    | _ => .no := by
  cases x with
  | d x => rfl
  | f m => cases m; rfl
  | s i => rfl
@[simp] theorem q_view (x : Vl) : view ρ x = match x with
  | .d x => some x
  | .f (.lst xs) => some (.lst xs)
  | .s i => match ρ[i]? with
    | some (.o _ (.lst xs)) => some (.lst xs)
    | some (.d x) => some x
    | _ => none := by
  cases x with
  | d x => rfl
  | f m => cases m; rfl
  | s i => rfl
@[simp] theorem q_viewsN : views ρ [] = some [] := rfl
@[simp] theorem q_viewsC (x : Vl) (r : List Vl) : views ρ (x :: r) = match view ρ x, views ρ r with
  | some a, some as => some (a :: as)
  | _, _ => none := rfl
@[simp] theorem w_op2 (h : D → D → Option Vl) (x y : Vl) : W1 (op2 h x y ρ) P = On (view ρ x) fun a => On (view ρ y) fun b => On (h a b) fun v => P v ρ := by
  unfold op2
  generalize view ρ x = a
  generalize view ρ y = b
  cases a with
  | none => rfl
  | some a => cases b with
    | none => rfl
    | some b =>
      dsimp only
      unfold okV
      simp only [on_some]
      generalize h a b = o
      cases o <;> rfl
@[simp] theorem w_op1 (h : D → Option Vl) (x : Vl) : W1 (op1 h x ρ) P = On (view ρ x) fun a => On (h a) fun v => P v ρ := by
  unfold op1
  generalize view ρ x = a
  cases a with
  | none => rfl
  | some a =>
    dsimp only
    unfold okV
    simp only [on_some]
    generalize h a = o
    cases o <;> rfl
@[simp] theorem w_opN (h : List D → Option Vl) (xs : List Vl) : W1 (opN h xs ρ) P = On (views ρ xs) fun a => On (h a) fun v => P v ρ := by
  unfold opN
  generalize views ρ xs = a
  cases a with
  | none => rfl
  | some a =>
    dsimp only
    unfold okV
    simp only [on_some]
    generalize h a = o
    cases o <;> rfl
@[simp] theorem w_ite {α : Type} {c : Prop} [Decidable c] (r : R α) (P : α → Rho → Prop) : W1 (if c then r else .no) P = (c ∧ W1 r P) := by
  by_cases h : c
  · rw [if_pos h]
    exact propext ⟨fun z => ⟨h, z⟩, fun z => z.2⟩
  · rw [if_neg h]
    exact propext ⟨fun z => z.elim, fun z => h z.1⟩
@[simp] theorem q_aNil : aNil ρ = .ok [] ρ := rfl
@[simp] theorem q_aCons : aCons f l ρ = bnd f (fun x => bnd l fun xs ρ => .ok (x :: xs) ρ) ρ := rfl
@[simp] theorem q_aApp : aApp l lk ρ = bnd l (fun xs => bnd lk fun ys ρ => .ok (xs ++ ys) ρ) ρ := rfl
@[simp] theorem q_eTup : eTup l ρ = bnd l (fun xs => onD xs fun ds ρ => if ds.length ≤ 1000 then .ok (.d (.tup ds)) ρ else .no) ρ := rfl
@[simp] theorem q_eLst : eLst l ρ = bnd l (fun xs => onD xs fun ds ρ => if ds.length ≤ 1000 then .ok (.f (.lst ds)) ρ else .no) ρ := rfl
@[simp] theorem q_onD (xs : List Vl) (k : List D → Rho → R Vl) : onD xs k ρ = match dats xs with
  | some ds => k ds ρ
  | none => .no := rfl
@[simp] theorem q_datsN : dats [] = some [] := rfl
@[simp] theorem q_datsC (x : D) (r : List Vl) : dats (.d x :: r) = match dats r with
  | some xs => some (x :: xs)
  | none => none := rfl
@[simp] theorem q_tV : tV f ρ = bnd f asB ρ := rfl
@[simp] theorem q_asB (b : Bool) : asB (.d (.bl b)) ρ = .ok b ρ := rfl
@[simp] theorem w_tAn {P : Bool → Rho → Prop} : W1 (tAn c d ρ) P = W1 (c ρ) fun b ρ' => (b = true → W1 (d ρ') P) ∧ (b = false → P false ρ') := by
  unfold tAn
  rw [w_bnd]
  congr
  funext b ρ'
  cases b <;> simp
@[simp] theorem w_tOr {P : Bool → Rho → Prop} : W1 (tOr' c d ρ) P = W1 (c ρ) fun b ρ' => (b = true → P true ρ') ∧ (b = false → W1 (d ρ') P) := by
  unfold tOr'
  rw [w_bnd]
  congr
  funext b ρ'
  cases b <;> simp
@[simp] theorem w_eIf : W1 (eIf c f g ρ) P = W1 (c ρ) fun b ρ' => (b = true → W1 (f ρ') P) ∧ (b = false → W1 (g ρ') P) := by
  unfold eIf
  rw [w_bnd]
  congr
  funext b ρ'
  cases b <;> simp
@[simp] theorem q_tNo : tNo c ρ = bnd c (fun b ρ => .ok (!b) ρ) ρ := rfl
@[simp] theorem q_tYe : tYe ρ = .ok true ρ := rfl
@[simp] theorem q_eApp : eApp i f ρ = match ρ[i]? with
  | some (.o _ (.lst _)) => bnd f (app1 i) ρ
  | _ => .no := rfl
@[simp] theorem q_view1 (x : D) : view ρ (.d x) = some x := rfl
@[simp] theorem q_app1 (a : D) : app1 i (.d a) ρ = match ρ[i]? with
  | some (.o q (.lst xs)) => if xs.length < 100000 then .ok (.d .non) (ρ.set i (.o q (.lst (xs ++ [a])))) else .no
  | _ => .no := by
  unfold app1
  cases ρ[i]? with
  | none => rfl
  | some sl => cases sl with
    | o q m => cases m; rfl
    | _ => rfl
@[simp] theorem w_sx1 (a : D) (z : Int) : WS (sx1 i (.d a) (.d (.int z)) ρ) N T = match ρ[i]? with
  | some (.o q (.lst xs)) => On (L2.ixN xs.length z) fun j => N (ρ.set i (.o q (.lst (xs.set j a))))
  | _ => False := by
  unfold sx1
  cases ρ[i]? with
  | none => rfl
  | some sl => cases sl with
    | o q m =>
      cases m
      dsimp only
      generalize L2.ixN _ z = o
      cases o <;> rfl
    | _ => rfl
@[simp] theorem q_gNm (x : D) : gNm i x ρ = match ρ[i]? with
  | none => none
  | some (.o true _) => none
  | some _ => some (ρ.set i (.d x)) := rfl
@[simp] theorem q_gAllN : gAll [] [] ρ = some ρ := rfl
@[simp] theorem q_gAllC (g : Tg) (gs : List Tg) (x : D) (xs : List D) : gAll (g :: gs) (x :: xs) ρ = match g x ρ with
  | some ρ' => gAll gs xs ρ'
  | none => none := rfl
@[simp] theorem q_gSqT (gs : List Tg) (xs : List D) : gSq gs (.tup xs) ρ = gAll gs xs ρ := rfl
@[simp] theorem q_gSqL (gs : List Tg) (xs : List D) : gSq gs (.lst xs) ρ = gAll gs xs ρ := rfl
/-! operations on numbers -/
@[simp] theorem o_add (i j : Int) : addD (.int i) (.int j) = some (.d (.int (i + j))) := rfl
@[simp] theorem o_addT (xs ys : List D) : addD (.tup xs) (.tup ys) = if xs.length + ys.length ≤ 100000 then some (.d (.tup (xs ++ ys))) else none := rfl
@[simp] theorem o_addL (xs ys : List D) : addD (.lst xs) (.lst ys) = if xs.length + ys.length ≤ 100000 then some (.f (.lst (xs ++ ys))) else none := rfl
@[simp] theorem o_sub (i j : Int) : subD (.int i) (.int j) = some (.d (.int (i - j))) := rfl
@[simp] theorem o_mul (i j : Int) : mulD (.int i) (.int j) = if sm i = true ∧ sm j = true then some (.d (.int (i * j))) else none := rfl
@[simp] theorem o_mod (i j : Int) : modD (.int i) (.int j) = if 0 < j then some (.d (.int (i % j))) else none := rfl
@[simp] theorem o_fdiv (i j : Int) : fdivD (.int i) (.int j) = if 0 < j ∧ j < 1073741824 then some (.d (.int (i / j))) else none := rfl
@[simp] theorem o_pow (i j : Int) : powD (.int i) (.int j) = if 0 ≤ j ∧ j ≤ 1000 ∧ -1000000 < i ∧ i < 1000000 then some (.d (.int (i ^ j.toNat))) else none := rfl
@[simp] theorem o_lt (i j : Int) : ltD (.int i) (.int j) = some (.d (.bl (decide (i < j)))) := rfl
@[simp] theorem o_le (i j : Int) : leD (.int i) (.int j) = some (.d (.bl (decide (i ≤ j)))) := rfl
@[simp] theorem o_gt (i j : Int) : gtD (.int i) (.int j) = some (.d (.bl (decide (j < i)))) := rfl
@[simp] theorem o_ge (i j : Int) : geD (.int i) (.int j) = some (.d (.bl (decide (j ≤ i)))) := rfl
@[simp] theorem o_eq (i j : Int) : eqD (.int i) (.int j) = some (.d (.bl (decide (i = j)))) := rfl
@[simp] theorem o_ne (i j : Int) : neD (.int i) (.int j) = some (.d (.bl (!decide (i = j)))) := rfl
@[simp] theorem o_neS (x y : Str) : neD (.str x) (.str y) = some (.d (.bl (!decide (x = y)))) := rfl
@[simp] theorem o_neg (i : Int) : negD (.int i) = some (.d (.int (-i))) := rfl
@[simp] theorem o_int (i : Int) : intD [.int i] = some (.d (.int i)) := rfl
@[simp] theorem o_abs (i : Int) : absD [.int i] = some (.d (.int (if i < 0 then -i else i))) := rfl
@[simp] theorem o_lenL (xs : List D) : lenD [.lst xs] = some (.d (.int xs.length)) := rfl
@[simp] theorem o_lenT (xs : List D) : lenD [.tup xs] = some (.d (.int xs.length)) := rfl
@[simp] theorem o_min2 (i j : Int) : minD [.int i, .int j] = some (.d (.int (min i j))) := rfl
@[simp] theorem o_max2 (i j : Int) : maxD [.int i, .int j] = some (.d (.int (max i j))) := rfl
@[simp] theorem o_listL (xs : List D) : listD [.lst xs] = some (.f (.lst xs)) := rfl
@[simp] theorem o_ixL (xs : List D) (i : Int) : ixD (.lst xs) (.int i) = (L2.atI xs i).map .d := rfl
@[simp] theorem o_ixT (xs : List D) (i : Int) : ixD (.tup xs) (.int i) = (L2.atI xs i).map .d := rfl
theorem atI_in {α : Type} {xs : List α} {i : Int} (h0 : 0 ≤ i) (h1 : i < xs.length) : ∃ (h : i.toNat < xs.length), L2.atI xs i = some (xs[i.toNat]'h) := by
  have h : i.toNat < xs.length := by omega
  refine ⟨h, ?_⟩
  unfold L2.atI
  have : L2.ixN xs.length i = some i.toNat := by
    unfold L2.ixN
    rw [if_pos h0, if_pos h1]
  rw [this]
  simp [h]
/-! calls -/
theorem w_call {gg : Rho → R Vl} {xs : List Vl} {as : List Sl} (ha : argsOf ρ xs = some as) (hn : (slotsOf ρ xs).Nodup) (h : W1 (gg as) fun v as' => match v with
    | .s _ => False
    | v => P v (putBack ρ xs as')) : W1 (callG gg [] xs ρ) P := by
  unfold callG
  rw [ha]
  dsimp only
  rw [if_pos hn, List.map_nil, List.append_nil]
  cases q : gg as with
  | no =>
    rw [q] at h
    exact h
  | ex c fs ρ' =>
    rw [q] at h
    exact h
  | ok v as' =>
    rw [q] at h
    cases v with
    | s i => exact h.elim
    | d x => exact h
    | f m => exact h
@[simp] theorem q_eCall (gg : Rho → R Vl) : eCall gg [] l ρ = bnd l (callG gg []) ρ := rfl
/-- a def's body -/
theorem w_body {n : Nat} {as : List Sl} (h : WS (s (argE n as)) (fun ρ => P (.d .non) (merge as ρ)) fun v ρ => match v with
    | .d x => P (.d x) (merge as ρ)
    | .f m => P (.f m) (merge as ρ)
    | .s i => match ρ[i]? with
      | some (.o false m) => P (.f m) (merge as ρ)
      | some (.d x) => P (.d x) (merge as ρ)
      | _ => False) : W1 (bodyR n s as) P := by
  unfold bodyR
  cases q : s (argE n as) with
  | nx ρ =>
    rw [q] at h
    exact h
  | rt v ρ =>
    rw [q] at h
    cases v with
    | d x => exact h
    | f m => exact h
    | s i =>
      have h : (match ρ[i]? with
        | some (.o false m) => P (.f m) (merge as ρ)
        | some (.d x) => P (.d x) (merge as ρ)
        | _ => False) := h
      dsimp only
      cases e : ρ[i]? with
      | none =>
        rw [e] at h
        exact h.elim
      | some sl =>
        rw [e] at h
        cases sl with
        | un => exact h.elim
        | d x => exact h
        | ex _ => exact h.elim
        | o b m => cases b with
          | true => exact h.elim
          | false => exact h
  | bk ρ =>
    rw [q] at h
    exact h.elim
  | ct ρ =>
    rw [q] at h
    exact h.elim
  | ex c fs ρ =>
    rw [q] at h
    exact h.elim
  | no =>
    rw [q] at h
    exact h.elim
/-- a loop: I k ρ holds when k items are done -/
theorem w_for {xs : List D} {g : Tg} (I : Nat → Rho → Prop) (h0 : I 0 ρ) (hs : ∀ k x ρ, xs[k]? = some x → I k ρ → match g x ρ with
    | none => False
    | some ρ1 => WS (s ρ1) (I (k + 1)) T) (hN : ∀ ρ, I xs.length ρ → N ρ) : WS (forL g s xs ρ) N T := by
  have key : ∀ (ys : List D) (k : Nat) (ρ : Rho), xs.drop k = ys → I k ρ → k + ys.length = xs.length → WS (forL g s ys ρ) N T := by
    intro ys
    induction ys with
    | nil =>
      intro k ρ _ hI hl
      have : k = xs.length := by simpa using hl
      subst this
      exact hN _ hI
    | cons y ys ih =>
      intro k ρ hd hI hl
      have hk : xs[k]? = some y := by
        have := congrArg (fun l => l[0]?) hd
        simpa using this
      have st := hs k y ρ hk hI
      unfold forL
      cases e : g y ρ with
      | none =>
        rw [e] at st
        exact st.elim
      | some ρ1 =>
        rw [e] at st
        dsimp only at st ⊢
        cases r : s ρ1 with
        | nx ρ2 =>
          rw [r] at st
          refine ih (k + 1) ρ2 ?_ st (by rw [List.length_cons] at hl; omega)
          rw [← List.drop_drop, hd]
          rfl
        | rt x ρ2 =>
          rw [r] at st
          exact st
        | bk ρ2 =>
          rw [r] at st
          exact st.elim
        | ct ρ2 =>
          rw [r] at st
          exact st.elim
        | ex c fs ρ2 =>
          rw [r] at st
          exact st.elim
        | no =>
          rw [r] at st
          exact st.elim
  exact key xs 0 ρ rfl h0 (by simp)
@[simp] theorem w_sfor (fi : Rho → R (List D)) (g : Tg) : WS (sFor fi g s ρ) N T = W1 (fi ρ) fun xs ρ' => WS (forL g s xs ρ') N T := by
  unfold sFor
  rw [w_sB]
@[simp] theorem w_iR1 {P : List D → Rho → Prop} : W1 (iR1 f ρ) P = W1 (f ρ) fun x ρ' => match asI x with
  | some b => (b < 1000000 ∧ -1000000 < b) ∧ P (rngD 0 b) ρ'
  | none => False := by
  unfold iR1
  rw [w_bnd]
  congr
  funext x ρ'
  generalize asI x = o
  cases o with
  | none => rfl
  | some b =>
    dsimp only
    by_cases h : b < 1000000 ∧ -1000000 < b
    · rw [if_pos h]
      exact propext ⟨fun z => ⟨h, z⟩, fun z => z.2⟩
    · rw [if_neg h]
      exact propext ⟨fun z => z.elim, fun z => h z.1⟩
@[simp] theorem w_iSq {P : List D → Rho → Prop} : W1 (iSq f ρ) P = W1 (f ρ) fun x ρ' => W1 (fz x ρ') fun y ρ2 => match y with
  | .d (.lst xs) => P xs ρ2
  | .d (.tup xs) => P xs ρ2
  | .d (.ro xs) => P xs ρ2
  | _ => False := by
  unfold iSq
  rw [w_bnd, q_eFz, w_bnd]
  congr
  funext x ρ'
  congr
  funext y ρ2
  cases y with
  | d x => cases x <;> rfl
  | _ => rfl
@[simp] theorem q_asI (b : Int) : asI (.d (.int b)) = some b := rfl
@[simp] theorem w_eLr (fi : Rho → R (List D)) : W1 (eLr fi ρ) P = W1 (fi ρ) fun xs ρ' => P (.f (.lst xs)) ρ' := by
  unfold eLr
  rw [w_bnd]
  rfl
theorem rngD_at {b : Int} {k : Nat} {x : D} (h : (rngD 0 b)[k]? = some x) : x = .int k ∧ (k : Int) < b := by
  unfold rngD at h
  rw [List.getElem?_map] at h
  obtain ⟨j, h1, h2⟩ := Option.map_eq_some_iff.mp h
  have h3 := List.getElem?_eq_some_iff.mp h1
  obtain ⟨h4, h5⟩ := h3
  rw [List.getElem_range] at h5
  rw [List.length_range] at h4
  subst h5
  refine ⟨by rw [← h2]; congr 1; omega, by omega⟩
theorem rngD_len (b : Int) : (rngD 0 b).length = b.toNat := by
  unfold rngD
  rw [List.length_map, List.length_range]
  congr 1
  omega
theorem i_seq (h : ∀ NN : Rho → Prop, (∀ ρ', WS (t ρ') N T → NN ρ') → WS (s ρ) NN T) : WS (sSeq s t ρ) N T := by
  rw [w_seq]
  exact h _ fun ρ' z => z
theorem i_keep {r : SR} (h : ∀ NN : Rho → Prop, (∀ ρ', N ρ' → NN ρ') → WS r NN T) : WS r N T := h _ fun _ z => z
theorem i_keep1 {α : Type} {r : R α} {P : α → Rho → Prop} (h : ∀ PP : α → Rho → Prop, (∀ a ρ', P a ρ' → PP a ρ') → W1 r PP) : W1 r P := h _ fun _ _ z => z
theorem i_body {n : Nat} {as : List Sl} (h : ∀ TT : Vl → Rho → Prop, (∀ x ρ, P (.d x) (merge as ρ) → TT (.d x) ρ) → (∀ m ρ, P (.f m) (merge as ρ) → TT (.f m) ρ) → (∀ i ρ m, ρ[i]? = some (.o false m) → P (.f m) (merge as ρ) → TT (.s i) ρ) →
    WS (s (argE n as)) (fun ρ => P (.d .non) (merge as ρ)) TT) : W1 (bodyR n s as) P := by
  refine w_body (h _ (fun x ρ z => z) (fun m ρ z => z) fun i ρ m e z => ?_)
  dsimp only
  rw [e]
  exact z
end
end L3

set_option Elab.async false
set_option linter.all false
set_option maxRecDepth 100000
set_option maxHeartbeats 4000000
namespace L3
open PySem PySem.Spec PyProof.Rows L2
/-! ### comprehensions, on the plain side -/
theorem gNm_un {ρ : Rho} {i : Nat} (h : i < ρ.length) (x : D) : gNm i x (ρ.set i .un) = some (ρ.set i (.d x)) := by
  unfold gNm
  rw [List.getElem?_set_self h]
  dsimp only
  rw [List.set_set]
theorem set_back {ρ ρ2 : Rho} {i : Nat} {s : Sl} (h : ρ2.set i .un = ρ.set i .un) (e : ρ[i]? = some s) : ρ2.set i s = ρ := by
  have : (ρ2.set i .un).set i s = (ρ.set i .un).set i s := by rw [h]
  rw [List.set_set, List.set_set] at this
  rw [this]
  obtain ⟨hl, rfl⟩ := List.getElem?_eq_some_iff.mp e
  exact List.set_getElem_self hl
theorem lcL_eq {ρ : Rho} {i : Nat} {tt : Rho → R Bool} {te : Rho → R Vl} {p : D → Bool} {φ : D → D} (hi : i < ρ.length) : ∀ {xs acc : List D} {ρ' : Rho}, (∀ x ∈ xs, tt (ρ.set i (.d x)) = .ok (p x) (ρ.set i (.d x)) ∧ (p x = true → te (ρ.set i (.d x)) = .ok (.d (φ x)) (ρ.set i (.d x)))) →
    acc.length + xs.length ≤ 100000 → ρ'.set i .un = ρ.set i .un → ∃ ρ2, ρ2.set i .un = ρ.set i .un ∧ lcL (gNm i) tt te [i] xs ρ' acc = .ok (acc ++ (xs.filter p).map φ) ρ2
  | [], acc, ρ', _, _, e => ⟨ρ', e, by unfold lcL; simp⟩
  | x :: xs, acc, ρ', h, hl, e => by
    obtain ⟨h1, h2⟩ := h x (List.mem_cons_self ..)
    have h' : ∀ y ∈ xs, tt (ρ.set i (.d y)) = .ok (p y) (ρ.set i (.d y)) ∧ (p y = true → te (ρ.set i (.d y)) = .ok (.d (φ y)) (ρ.set i (.d y))) := fun y hy => h y (List.mem_cons_of_mem _ hy)
    have lx : acc.length + xs.length + 1 ≤ 100000 := by rw [List.length_cons] at hl; omega
    unfold lcL
    have e1 : wipeR ρ' [i] = ρ.set i .un := e
    rw [e1, gNm_un hi]
    dsimp only
    rw [h1]
    cases hp : p x with
    | false =>
      dsimp only
      obtain ⟨ρ2, a, b⟩ := lcL_eq hi (acc := acc) (ρ' := ρ.set i (.d x)) h' (by omega) (by rw [List.set_set])
      exact ⟨ρ2, a, by rw [b, List.filter_cons_of_neg (by rw [hp]; exact Bool.false_ne_true)]⟩
    | true =>
      dsimp only
      rw [h2 hp]
      dsimp only
      rw [if_pos (by omega)]
      obtain ⟨ρ2, a, b⟩ := lcL_eq hi (acc := acc ++ [φ x]) (ρ' := ρ.set i (.d x)) h' (by rw [List.length_append]; simp; omega) (by rw [List.set_set])
      exact ⟨ρ2, a, by rw [b, List.filter_cons_of_pos hp, List.map_cons, List.append_assoc]; rfl⟩
theorem eLc_eq {fi : Rho → R (List D)} {ρ0 ρ : Rho} {i : Nat} {tt : Rho → R Bool} {te : Rho → R Vl} (p : D → Bool) (φ : D → D) {xs : List D} (hf : fi ρ0 = .ok xs ρ) (hi : i < ρ.length) (hl : xs.length ≤ 100000)
    (h : ∀ x ∈ xs, tt (ρ.set i (.d x)) = .ok (p x) (ρ.set i (.d x)) ∧ (p x = true → te (ρ.set i (.d x)) = .ok (.d (φ x)) (ρ.set i (.d x)))) : eLc fi (gNm i) tt te [i] ρ0 = .ok (.f (.lst ((xs.filter p).map φ))) ρ := by
  unfold eLc bnd
  rw [hf]
  dsimp only
  obtain ⟨ρ2, a, b⟩ := lcL_eq hi (acc := []) (ρ' := ρ) h (by simpa using hl) rfl
  rw [b]
  unfold lcEnd restR
  dsimp only
  have e : ρ[i]? = some ρ[i] := List.getElem?_eq_getElem hi
  rw [e]
  dsimp only
  show R.ok _ ((restR ρ ρ2 []).set i ρ[i]) = _
  rw [show restR ρ ρ2 [] = ρ2 from rfl, set_back a e, List.nil_append]
theorem lc2L_eq {ρ : Rho} {i j : Nat} {fi1 : Rho → R (List D)} {te : Rho → R Vl} {ys : D → List D} {φ : D → D → D} (ne : i ≠ j) (hi : i < ρ.length) (hj : j < ρ.length) : ∀ {xs acc : List D} {ρ' : Rho},
    (∀ x ∈ xs, ∀ ρx, ρx = (ρ.set j .un).set i (.d x) → fi1 ρx = .ok (ys x) ρx ∧ ∀ y ∈ ys x, te (ρx.set j (.d y)) = .ok (.d (φ x y)) (ρx.set j (.d y))) →
    acc.length + (xs.flatMap ys).length ≤ 100000 → (ρ'.set j .un).set i .un = (ρ.set j .un).set i .un → ∃ ρ2, (ρ2.set j .un).set i .un = (ρ.set j .un).set i .un ∧ lc2L (gNm i) tYe fi1 (gNm j) tYe te [i, j] [j] xs ρ' acc = .ok (acc ++ xs.flatMap fun x => (ys x).map (φ x)) ρ2
  | [], acc, ρ', _, _, e => ⟨ρ', e, by unfold lc2L; simp⟩
  | x :: xs, acc, ρ', h, hl, e => by
    obtain ⟨h1, h2⟩ := h x (List.mem_cons_self ..) _ rfl
    rw [List.flatMap_cons, List.length_append] at hl
    unfold lc2L
    have e1 : wipeR ρ' [i, j] = (ρ.set j .un).set i .un := e
    rw [e1, gNm_un (by rw [List.length_set]; exact hi)]
    dsimp only [tYe]
    rw [h1]
    dsimp only
    have hjx : j < ((ρ.set j .un).set i (.d x)).length := by rw [List.length_set, List.length_set]; exact hj
    obtain ⟨ρ2, a, b⟩ := lcL_eq (ρ := (ρ.set j .un).set i (.d x)) (i := j) (tt := tYe) (te := te) (p := fun _ => true) (φ := φ x) hjx (xs := ys x) (acc := acc) (ρ' := (ρ.set j .un).set i (.d x)) (fun y hy => ⟨rfl, fun _ => h2 y hy⟩) (by omega) rfl
    rw [List.filter_eq_self.mpr (fun _ _ => rfl)] at b
    rw [b]
    dsimp only
    have a' : (ρ2.set j .un).set i .un = (ρ.set j .un).set i .un := by
      rw [a, List.set_comm _ _ ne, List.set_set, List.set_set, ← List.set_comm _ _ ne]
    obtain ⟨ρ3, c, d⟩ := lc2L_eq ne hi hj (fi1 := fi1) (te := te) (ys := ys) (φ := φ) (xs := xs) (acc := acc ++ (ys x).map (φ x)) (ρ' := ρ2) (fun y hy => h y (List.mem_cons_of_mem _ hy)) (by rw [List.length_append, List.length_map]; omega) a'
    exact ⟨ρ3, c, by rw [d, List.flatMap_cons, List.append_assoc]⟩
theorem eLc2_eq {fi fi1 : Rho → R (List D)} {ρ0 ρ : Rho} {i j : Nat} {te : Rho → R Vl} (ys : D → List D) (φ : D → D → D) {xs : List D} (hf : fi ρ0 = .ok xs ρ) (ne : i ≠ j) (hi : i < ρ.length) (hj : j < ρ.length) (hl : (xs.flatMap ys).length ≤ 100000)
    (h : ∀ x ∈ xs, ∀ ρx, ρx = (ρ.set j .un).set i (.d x) → fi1 ρx = .ok (ys x) ρx ∧ ∀ y ∈ ys x, te (ρx.set j (.d y)) = .ok (.d (φ x y)) (ρx.set j (.d y))) :
    eLc2 fi (gNm i) tYe fi1 (gNm j) tYe te [i, j] [j] ρ0 = .ok (.f (.lst (xs.flatMap fun x => (ys x).map (φ x)))) ρ := by
  unfold eLc2 bnd
  rw [hf]
  dsimp only
  obtain ⟨ρ2, a, b⟩ := lc2L_eq ne hi hj (fi1 := fi1) (te := te) (ys := ys) (φ := φ) (xs := xs) (acc := []) (ρ' := ρ) h (by simpa using hl) rfl
  rw [b]
  unfold lcEnd
  dsimp only
  have ei : ρ[i]? = some ρ[i] := List.getElem?_eq_getElem hi
  have ej : ρ[j]? = some ρ[j] := List.getElem?_eq_getElem hj
  have r : restR ρ ρ2 [i, j] = (ρ2.set j ρ[j]).set i ρ[i] := by
    unfold restR
    rw [ei]
    dsimp only
    unfold restR
    rw [ej]
    rfl
  rw [r, List.nil_append]
  have q : (ρ2.set j ρ[j]).set i ρ[i] = ρ := by
    have z : (((ρ2.set j .un).set i .un).set j ρ[j]).set i ρ[i] = (((ρ.set j .un).set i .un).set j ρ[j]).set i ρ[i] := by rw [a]
    rw [List.set_comm .un ρ[j] ne, List.set_set, List.set_set, List.set_comm .un ρ[j] ne, List.set_set, List.set_set, List.set_getElem_self hj, List.set_getElem_self hi] at z
    exact z
  rw [q]
end L3

set_option Elab.async false
set_option linter.all false
set_option maxRecDepth 100000
set_option maxHeartbeats 4000000
namespace K
open PySem PySem.Spec PyProof.Rows L2 L3
def top (i : Nat) : Stmt := PySem.Challenge.pw_onehearing_k79_levels_and_formulas.main.body.getD i (.Pass ⟨0, 0, 0, 0⟩)
def CL : List Str := ["BadRow", "BadLot", "BadFamily", "BadValue", "BadHand", "BadFormula", "BadHouse", "BadText", "BadView", "BadWorld", "BadGroup", "BadTables", "BadPaper", "BadEars", "BadRenaming", "BadGreat", "BadNight", "NotFit", "TooMany", "Unborne"]

theorem sc_compares : FnScope ["number", "comparison", "bound"] ["number", "comparison", "bound"] (defScope (top 23)) := ⟨rfl, rfl, rfl, by decide +kernel, rfl, by decide +kernel, by decide +kernel⟩
def s_compares : Rho → SR := sSeq (sIf (tV (eOp eqD (eVar 1) (eC (.str ">=")))) (sRt (eOp geD (eVar 0) (eVar 2))) (sNx)) (sSeq (sIf (tV (eOp eqD (eVar 1) (eC (.str "<=")))) (sRt (eOp leD (eVar 0) (eVar 2))) (sNx)) (sRt (eOp eqD (eVar 0) (eVar 2))))
def g_compares : Rho → R Vl := bodyR 3 s_compares
theorem ok_compares {P : Program} {w : World} {K : PySem.W.Frag} {mg : Str → Option Value} {base : Heap} {f : Addr} {fd : FuncData} (F : FunD K "compares" "compares" (defArgs (top 23)) (defBody (top 23)) (defScope (top 23)) [] [] f fd) (m : mg "compares" = some (.ref f))
     :
    Cal P w K mg base "compares" (0 + 1) f fd ["number", "comparison", "bound"] [] (g_compares) := by
  refine ok_c F m (kw_of F fun _ _ _ _ _ _ us ws h1 h2 => match us, ws, h1, h2 with | [_, _, _], [], _, _ => rfl) sc_compares (by decide) fun cdv A outer sh H E hr hg tk hp => ?_
  exact ds_cons (ds_if (y_eq (dv 1) (de_str)) (ds_one (ds_ret (x_ge (dv 0) (dv 2)))) (ds_nil)) (ds_cons (ds_if (y_eq (dv 1) (de_str)) (ds_one (ds_ret (x_le (dv 0) (dv 2)))) (ds_nil)) (ds_one (ds_ret (x_eq (dv 0) (dv 2)))))
theorem sc_measure : FnScope ["leaf", "counts", "count", "value"] ["leaf", "counts"] (defScope (top 24)) := ⟨rfl, rfl, rfl, by decide +kernel, rfl, by decide +kernel, by decide +kernel⟩
def s_measure : Rho → SR := sSeq (sIf (tV (eOp eqD (eOp ixD (eVar 0) (eC (.int 0))) (eC (.str "count")))) (sRt (eIf (tV (eCh leD ltD (eC (.int 0)) (eOp ixD (eVar 0) (eC (.int 1))) (eCB lenD (aCons (eVar 1) (aNil))))) (eOp ixD (eVar 1) (eOp ixD (eVar 0) (eC (.int 1)))) (eC (.int 0)))) (sNx)) (sSeq (sIf (tV (eOp eqD (eOp ixD (eVar 0) (eC (.int 0))) (eC (.str "most")))) (sRt (eCB maxD (aCons (eVar 1) (aNil)))) (sNx)) (sSeq (sIf (tV (eOp eqD (eOp ixD (eVar 0) (eC (.int 0))) (eC (.str "kinds")))) (sRt (eCB lenD (aCons (eLc (iSq (eVar 1)) (gNm 2) (tV (eOp gtD (eVar 2) (eC (.int 0)))) (eFz (eVar 2)) [2]) (aNil)))) (sNx)) (sRt (eCB sumD (aCons (eLc (iR1 (eCB lenD (aCons (eVar 1) (aNil)))) (gNm 3) (tYe) (eOp mulD (eVar 3) (eOp ixD (eVar 1) (eVar 3))) [3]) (aNil))))))
def g_measure : Rho → R Vl := bodyR 4 s_measure
theorem ok_measure {P : Program} {w : World} {K : PySem.W.Frag} {mg : Str → Option Value} {base : Heap} {f : Addr} {fd : FuncData} (F : FunD K "measure" "measure" (defArgs (top 24)) (defBody (top 24)) (defScope (top 24)) [] [] f fd) (m : mg "measure" = some (.ref f))
    (h_len : mg "len" = none)
    (h_max : mg "max" = none)
    (h_range : mg "range" = none)
    (h_sum : mg "sum" = none) :
    Cal P w K mg base "measure" (0 + 1) f fd ["leaf", "counts"] [] (g_measure) := by
  refine ok_c F m (kw_of F fun _ _ _ _ _ _ us ws h1 h2 => match us, ws, h1, h2 with | [_, _], [], _, _ => rfl) sc_measure (by decide) fun cdv A outer sh H E hr hg tk hp => ?_
  exact ds_cons (ds_if (y_eq (de_ix (dv 0) (de_int)) (de_str)) (ds_one (ds_ret (de_if (dt_chain op_le so_le op_lt so_lt (de_int) (de_ix (dv 0) (de_int)) (de_cb cr_lenQ so_len rfl h_len (by first | rfl | kernel_rfl) (da_cons (dv 1) (da_nil)))) (de_ix (dv 1) (de_ix (dv 0) (de_int))) (de_int)))) (ds_nil)) (ds_cons (ds_if (y_eq (de_ix (dv 0) (de_int)) (de_str)) (ds_one (ds_ret (de_cb (cr_maxQ rfl) so_max rfl h_max (by first | rfl | kernel_rfl) (da_cons (dv 1) (da_nil))))) (ds_nil)) (ds_cons (ds_if (y_eq (de_ix (dv 0) (de_int)) (de_str)) (ds_one (ds_ret (de_cb cr_lenQ so_len rfl h_len (by first | rfl | kernel_rfl) (da_cons (de_lc rfl sc_measure.nd (own := [("count", 2)]) (is := [2]) (di_sq (dv 1)) (blk_ok (by first | rfl | kernel_rfl)) (gName 2) sto_name (by decide) (fun _ _ _ _ _ => pg_name (i := 2) sc_measure.nd rfl (by first | exact Or.inl rfl | exact Or.inr rfl) (by first | exact Or.inl rfl | exact Or.inr rfl)) (fun _ _ _ _ _ => dts_one (y_gt (dv 2) (de_int))) (fun _ _ _ _ _ => de_fz (dv 2))) (da_nil))))) (ds_nil)) (ds_one (ds_ret (de_cb (cr_sumQ rfl) so_sum rfl h_sum (by first | rfl | kernel_rfl) (da_cons (de_lc rfl sc_measure.nd (own := [("value", 3)]) (is := [3]) (di_r1 rfl h_range (de_cb cr_lenQ so_len rfl h_len (by first | rfl | kernel_rfl) (da_cons (dv 1) (da_nil)))) (blk_ok (by first | rfl | kernel_rfl)) (gName 3) sto_name (by decide) (fun _ _ _ _ _ => pg_name (i := 3) sc_measure.nd rfl (by first | exact Or.inl rfl | exact Or.inr rfl) (by first | exact Or.inl rfl | exact Or.inr rfl)) (fun _ _ _ _ _ => dts_nil) (fun _ _ _ _ _ => x_mul (dv 3) (de_ix (dv 1) (dv 3)))) (da_nil)))))))
theorem sc_is_true : FnScope ["formula", "counts", "row", "word"] ["formula", "counts", "row"] (defScope (top 25)) := ⟨rfl, rfl, rfl, by decide +kernel, rfl, by decide +kernel, by decide +kernel⟩
def s_is_true (gs : Rho → R Vl) : Rho → SR := sSeq (sSet 3 (eOp ixD (eVar 0) (eC (.int 0)))) (sSeq (sIf (tV (eOp eqD (eVar 3) (eC (.str "not")))) (sRt (eUn notD (eCall gs [] (aCons (eOp ixD (eVar 0) (eC (.int 1))) (aCons (eVar 1) (aCons (eVar 2) (aNil))))))) (sNx)) (sSeq (sIf (tV (eOp eqD (eVar 3) (eC (.str "and")))) (sRt (eAn (eCall gs [] (aCons (eOp ixD (eVar 0) (eC (.int 1))) (aCons (eVar 1) (aCons (eVar 2) (aNil))))) (eCall gs [] (aCons (eOp ixD (eVar 0) (eC (.int 2))) (aCons (eVar 1) (aCons (eVar 2) (aNil))))))) (sNx)) (sSeq (sIf (tV (eOp eqD (eVar 3) (eC (.str "or")))) (sRt (eOr (eCall gs [] (aCons (eOp ixD (eVar 0) (eC (.int 1))) (aCons (eVar 1) (aCons (eVar 2) (aNil))))) (eCall gs [] (aCons (eOp ixD (eVar 0) (eC (.int 2))) (aCons (eVar 1) (aCons (eVar 2) (aNil))))))) (sNx)) (sSeq (sIf (tV (eOp eqD (eVar 3) (eC (.str "hand")))) (sRt (eOp eqD (eOp ixD (eVar 2) (eOp ixD (eVar 0) (eC (.int 1)))) (eOp ixD (eVar 0) (eC (.int 2))))) (sNx)) (sSeq (sIf (tV (eOp eqD (eVar 3) (eC (.str "same")))) (sRt (eOp eqD (eOp ixD (eVar 2) (eOp ixD (eVar 0) (eC (.int 1)))) (eOp ixD (eVar 2) (eOp ixD (eVar 0) (eC (.int 2)))))) (sNx)) (sSeq (sIf (tV (eOp inD (eVar 3) (eTup (aCons (eC (.str "all")) (aCons (eC (.str "none")) (aNil)))))) (sRt (eOp eqD (eVar 3) (eC (.str "all")))) (sNx)) (sRt (eCall g_compares [] (aCons (eFz (eCall g_measure [] (aCons (eVar 0) (aCons (eVar 1) (aNil))))) (aCons (eOp ixD (eVar 0) (eUn negD (eC (.int 2)))) (aCons (eOp ixD (eVar 0) (eUn negD (eC (.int 1)))) (aNil))))))))))))
def f_is_true : Nat → Rho → R Vl
  | 0 => fun _ => .no
  | n + 1 => bodyR 4 (s_is_true (f_is_true n))
def g_is_true : Rho → R Vl := f_is_true 7
theorem ok_is_true {P : Program} {w : World} {K : PySem.W.Frag} {mg : Str → Option Value} {base : Heap} {f : Addr} {fd : FuncData} (F : FunD K "is_true" "is_true" (defArgs (top 25)) (defBody (top 25)) (defScope (top 25)) [] [] f fd) (m : mg "is_true" = some (.ref f))
    {f_compares : Addr} {fd_compares : FuncData} (c_compares : Cal P w K mg base "compares" 1 f_compares fd_compares ["number", "comparison", "bound"] [] g_compares)
    {gs : Rho → R Vl} {j : Nat} (c_is_true : Cal P w K mg base "is_true" (1 + j) f fd ["formula", "counts", "row"] [] gs)
    {f_measure : Addr} {fd_measure : FuncData} (c_measure : Cal P w K mg base "measure" 1 f_measure fd_measure ["leaf", "counts"] [] g_measure) :
    Cal P w K mg base "is_true" (1 + j + 1) f fd ["formula", "counts", "row"] [] (bodyR 4 (s_is_true gs)) := by
  refine ok_c F m (kw_of F fun _ _ _ _ _ _ us ws h1 h2 => match us, ws, h1, h2 with | [_, _, _], [], _, _ => rfl) sc_is_true (by decide) fun cdv A outer sh H E hr hg tk hp => ?_
  exact ds_cons (ds_set (i := 3) sc_is_true.nd rfl (by first | exact Or.inl rfl | exact Or.inr rfl) (de_ix (dv 0) (de_int))) (ds_cons (ds_if (y_eq (dv 3) (de_str)) (ds_one (ds_ret (de_not (x_call c_is_true hr (Nat.le_refl _) hg rfl tk rfl (da_cons (de_ix (dv 0) (de_int)) (da_cons (dv 1) (da_cons (dv 2) (da_nil)))) (al_cons (al_cons (al_cons (al_nil)))) rfl)))) (ds_nil)) (ds_cons (ds_if (y_eq (dv 3) (de_str)) (ds_one (ds_ret (de_and (x_call c_is_true hr (Nat.le_refl _) hg rfl tk rfl (da_cons (de_ix (dv 0) (de_int)) (da_cons (dv 1) (da_cons (dv 2) (da_nil)))) (al_cons (al_cons (al_cons (al_nil)))) rfl) (de_one (x_call c_is_true hr (Nat.le_refl _) hg rfl tk rfl (da_cons (de_ix (dv 0) (de_int)) (da_cons (dv 1) (da_cons (dv 2) (da_nil)))) (al_cons (al_cons (al_cons (al_nil)))) rfl))))) (ds_nil)) (ds_cons (ds_if (y_eq (dv 3) (de_str)) (ds_one (ds_ret (de_or (x_call c_is_true hr (Nat.le_refl _) hg rfl tk rfl (da_cons (de_ix (dv 0) (de_int)) (da_cons (dv 1) (da_cons (dv 2) (da_nil)))) (al_cons (al_cons (al_cons (al_nil)))) rfl) (de_one (x_call c_is_true hr (Nat.le_refl _) hg rfl tk rfl (da_cons (de_ix (dv 0) (de_int)) (da_cons (dv 1) (da_cons (dv 2) (da_nil)))) (al_cons (al_cons (al_cons (al_nil)))) rfl))))) (ds_nil)) (ds_cons (ds_if (y_eq (dv 3) (de_str)) (ds_one (ds_ret (x_eq (de_ix (dv 2) (de_ix (dv 0) (de_int))) (de_ix (dv 0) (de_int))))) (ds_nil)) (ds_cons (ds_if (y_eq (dv 3) (de_str)) (ds_one (ds_ret (x_eq (de_ix (dv 2) (de_ix (dv 0) (de_int))) (de_ix (dv 2) (de_ix (dv 0) (de_int)))))) (ds_nil)) (ds_cons (ds_if (y_in (by with_unfolding_all rfl) (dv 3) (de_tup (da_cons (de_str) (da_cons (de_str) (da_nil))))) (ds_one (ds_ret (x_eq (dv 3) (de_str)))) (ds_nil)) (ds_one (ds_ret (x_call c_compares hr (Nat.le_trans (by decide) (Nat.le_add_right 1 _)) hg rfl tk rfl (da_cons (de_fz (x_call c_measure hr (Nat.le_trans (by decide) (Nat.le_add_right 1 _)) hg rfl tk rfl (da_cons (dv 0) (da_cons (dv 1) (da_nil))) (al_cons (al_cons (al_nil))) rfl)) (da_cons (de_ix (dv 0) (x_neg (de_int))) (da_cons (de_ix (dv 0) (x_neg (de_int))) (da_nil)))) (al_cons (al_cons (al_cons (al_nil)))) rfl)))))))))
theorem sc_is_counted : FnScope ["formula"] ["formula"] (defScope (top 26)) := ⟨rfl, rfl, rfl, by decide +kernel, rfl, by decide +kernel, by decide +kernel⟩
def s_is_counted (gs : Rho → R Vl) : Rho → SR := sSeq (sIf (tV (eOp eqD (eOp ixD (eVar 0) (eC (.int 0))) (eC (.str "not")))) (sRt (eCall gs [] (aCons (eOp ixD (eVar 0) (eC (.int 1))) (aNil)))) (sNx)) (sSeq (sIf (tV (eOp inD (eOp ixD (eVar 0) (eC (.int 0))) (eTup (aCons (eC (.str "and")) (aCons (eC (.str "or")) (aNil)))))) (sRt (eAn (eCall gs [] (aCons (eOp ixD (eVar 0) (eC (.int 1))) (aNil))) (eCall gs [] (aCons (eOp ixD (eVar 0) (eC (.int 2))) (aNil))))) (sNx)) (sRt (eOp ninD (eOp ixD (eVar 0) (eC (.int 0))) (eTup (aCons (eC (.str "hand")) (aCons (eC (.str "same")) (aNil)))))))
def f_is_counted : Nat → Rho → R Vl
  | 0 => fun _ => .no
  | n + 1 => bodyR 1 (s_is_counted (f_is_counted n))
def g_is_counted : Rho → R Vl := f_is_counted 7
theorem ok_is_counted {P : Program} {w : World} {K : PySem.W.Frag} {mg : Str → Option Value} {base : Heap} {f : Addr} {fd : FuncData} (F : FunD K "is_counted" "is_counted" (defArgs (top 26)) (defBody (top 26)) (defScope (top 26)) [] [] f fd) (m : mg "is_counted" = some (.ref f))
    {gs : Rho → R Vl} {j : Nat} (c_is_counted : Cal P w K mg base "is_counted" (0 + j) f fd ["formula"] [] gs) :
    Cal P w K mg base "is_counted" (0 + j + 1) f fd ["formula"] [] (bodyR 1 (s_is_counted gs)) := by
  refine ok_c F m (kw_of F fun _ _ _ _ _ _ us ws h1 h2 => match us, ws, h1, h2 with | [_], [], _, _ => rfl) sc_is_counted (by decide) fun cdv A outer sh H E hr hg tk hp => ?_
  exact ds_cons (ds_if (y_eq (de_ix (dv 0) (de_int)) (de_str)) (ds_one (ds_ret (x_call c_is_counted hr (Nat.le_refl _) hg rfl tk rfl (da_cons (de_ix (dv 0) (de_int)) (da_nil)) (al_cons (al_nil)) rfl))) (ds_nil)) (ds_cons (ds_if (y_in (by with_unfolding_all rfl) (de_ix (dv 0) (de_int)) (de_tup (da_cons (de_str) (da_cons (de_str) (da_nil))))) (ds_one (ds_ret (de_and (x_call c_is_counted hr (Nat.le_refl _) hg rfl tk rfl (da_cons (de_ix (dv 0) (de_int)) (da_nil)) (al_cons (al_nil)) rfl) (de_one (x_call c_is_counted hr (Nat.le_refl _) hg rfl tk rfl (da_cons (de_ix (dv 0) (de_int)) (da_nil)) (al_cons (al_nil)) rfl))))) (ds_nil)) (ds_one (ds_ret (x_nin (by with_unfolding_all rfl) (de_ix (dv 0) (de_int)) (de_tup (da_cons (de_str) (da_cons (de_str) (da_nil))))))))
theorem sc_check_counted : FnScope ["formula"] ["formula"] (defScope (top 29)) := ⟨rfl, rfl, rfl, by decide +kernel, rfl, by decide +kernel, by decide +kernel⟩
def s_check_counted : Rho → SR := sIf (tNo (tV (eCall g_is_counted [] (aCons (eVar 0) (aNil))))) (sRs "BadFormula" ["at"] (aCons (eUn negD (eC (.int 1))) (aNil))) (sNx)
def g_check_counted : Rho → R Vl := bodyR 1 s_check_counted
theorem ok_check_counted {P : Program} {w : World} {K : PySem.W.Frag} {mg : Str → Option Value} {base : Heap} {f : Addr} {fd : FuncData} (F : FunD K "check_counted" "check_counted" (defArgs (top 29)) (defBody (top 29)) (defScope (top 29)) [] [] f fd) (m : mg "check_counted" = some (.ref f))
    {f_is_counted : Addr} {fd_is_counted : FuncData} (c_is_counted : Cal P w K mg base "is_counted" 7 f_is_counted fd_is_counted ["formula"] [] g_is_counted)
    (r_BadFormula : Rai P w K mg base "BadFormula" 2 ["at"]) :
    Cal P w K mg base "check_counted" (7 + 1) f fd ["formula"] [] (g_check_counted) := by
  refine ok_c F m (kw_of F fun _ _ _ _ _ _ us ws h1 h2 => match us, ws, h1, h2 with | [_], [], _, _ => rfl) sc_check_counted (by decide) fun cdv A outer sh H E hr hg tk hp => ?_
  exact ds_one (ds_if (dt_not (dt_val (x_call c_is_counted hr (by decide) hg rfl tk rfl (da_cons (dv 0) (da_nil)) (al_cons (al_nil)) rfl))) (ds_one (x_raise r_BadFormula rfl tk hr (by decide) rfl (da_cons (x_neg (de_int)) (da_nil)))) (ds_nil))
theorem sc_choices : FnScope ["count", "size", "found", "at"] ["count", "size"] (defScope (top 30)) := ⟨rfl, rfl, rfl, by decide +kernel, rfl, by decide +kernel, by decide +kernel⟩
def s_choices : Rho → SR := sSeq (sSet 2 (eC (.int 1))) (sSeq (sFor (iR1 (eVar 1)) (gNm 3) (sSet 2 (eOp fdivD (eOp mulD (eVar 2) (eOp subD (eVar 0) (eVar 3))) (eOp addD (eVar 3) (eC (.int 1)))))) (sRt (eVar 2)))
def g_choices : Rho → R Vl := bodyR 4 s_choices
theorem ok_choices {P : Program} {w : World} {K : PySem.W.Frag} {mg : Str → Option Value} {base : Heap} {f : Addr} {fd : FuncData} (F : FunD K "choices" "choices" (defArgs (top 30)) (defBody (top 30)) (defScope (top 30)) [] [] f fd) (m : mg "choices" = some (.ref f))
    (h_range : mg "range" = none) :
    Cal P w K mg base "choices" (0 + 1) f fd ["count", "size"] [] (g_choices) := by
  refine ok_c F m (kw_of F fun _ _ _ _ _ _ us ws h1 h2 => match us, ws, h1, h2 with | [_, _], [], _, _ => rfl) sc_choices (by decide) fun cdv A outer sh H E hr hg tk hp => ?_
  exact ds_cons (ds_set (i := 2) sc_choices.nd rfl (by first | exact Or.inl rfl | exact Or.inr rfl) (de_int)) (ds_cons (ds_for hp rfl (di_r1 rfl h_range (dv 1)) (dg_name (i := 3) sc_choices.nd rfl (by first | exact Or.inl rfl | exact Or.inr rfl)) (ds_one (ds_set (i := 2) sc_choices.nd rfl (by first | exact Or.inl rfl | exact Or.inr rfl) (x_fdiv (x_mul (dv 2) (x_sub (dv 0) (dv 3))) (x_add (dv 3) (de_int)))))) (ds_one (ds_ret (dv 2))))
theorem sc_all_profiles : FnScope ["n", "k", "heads", "spare", "head", "count"] ["n", "k"] (defScope (top 31)) := ⟨rfl, rfl, rfl, by decide +kernel, rfl, by decide +kernel, by decide +kernel⟩
def s_all_profiles : Rho → SR := sSeq (sIf (tV (eOp gtD (eCall g_choices [] (aCons (eOp subD (eOp addD (eVar 0) (eVar 1)) (eC (.int 1))) (aCons (eOp subD (eVar 1) (eC (.int 1))) (aNil)))) (eC (.int 400)))) (sRs "TooMany" ["what", "limit"] (aCons (eC (.str "profiles")) (aCons (eFz (eC (.int 400))) (aNil)))) (sNx)) (sSeq (sSet 2 (eLst (aCons (eTup (aNil)) (aNil)))) (sSeq (sFor (iR1 (eOp subD (eVar 1) (eC (.int 1)))) (gNm 3) (sSet 2 (eLc2 (iSq (eVar 2)) (gNm 4) (tYe) (iR1 (eOp addD (eOp subD (eVar 0) (eCB sumD (aCons (eVar 4) (aNil)))) (eC (.int 1)))) (gNm 5) (tYe) (eOp addD (eVar 4) (eTup (aCons (eFz (eVar 5)) (aNil)))) [4, 5] [5]))) (sRt (eLc (iSq (eVar 2)) (gNm 4) (tYe) (eOp addD (eVar 4) (eTup (aCons (eOp subD (eVar 0) (eCB sumD (aCons (eVar 4) (aNil)))) (aNil)))) [4]))))
def g_all_profiles : Rho → R Vl := bodyR 6 s_all_profiles
theorem ok_all_profiles {P : Program} {w : World} {K : PySem.W.Frag} {mg : Str → Option Value} {base : Heap} {f : Addr} {fd : FuncData} (F : FunD K "all_profiles" "all_profiles" (defArgs (top 31)) (defBody (top 31)) (defScope (top 31)) [] [] f fd) (m : mg "all_profiles" = some (.ref f))
    {f_choices : Addr} {fd_choices : FuncData} (c_choices : Cal P w K mg base "choices" 1 f_choices fd_choices ["count", "size"] [] g_choices)
    (h_range : mg "range" = none)
    (h_sum : mg "sum" = none)
    {t_MOST_PROFILES : Tok} (h_MOST_PROFILES : mg "MOST_PROFILES" = some (.int 400 t_MOST_PROFILES))
    (r_TooMany : Rai P w K mg base "TooMany" 2 ["what", "limit"]) :
    Cal P w K mg base "all_profiles" (3 + 1) f fd ["n", "k"] [] (g_all_profiles) := by
  refine ok_c F m (kw_of F fun _ _ _ _ _ _ us ws h1 h2 => match us, ws, h1, h2 with | [_, _], [], _, _ => rfl) sc_all_profiles (by decide) fun cdv A outer sh H E hr hg tk hp => ?_
  exact ds_cons (ds_if (y_gt (x_call c_choices hr (by decide) hg rfl tk rfl (da_cons (x_sub (x_add (dv 0) (dv 1)) (de_int)) (da_cons (x_sub (dv 1) (de_int)) (da_nil))) (al_cons (al_cons (al_nil))) rfl) (de_gint rfl h_MOST_PROFILES)) (ds_one (x_raise r_TooMany rfl tk hr (by decide) rfl (da_cons (de_str) (da_cons (de_fz (de_gint rfl h_MOST_PROFILES)) (da_nil))))) (ds_nil)) (ds_cons (ds_set (i := 2) sc_all_profiles.nd rfl (by first | exact Or.inl rfl | exact Or.inr rfl) (de_lst (da_cons (de_tup (da_nil)) (da_nil)))) (ds_cons (ds_for hp rfl (di_r1 rfl h_range (x_sub (dv 1) (de_int))) (dg_name (i := 3) sc_all_profiles.nd rfl (by first | exact Or.inl rfl | exact Or.inr rfl)) (ds_one (ds_setLc2 (i := 2) rfl sc_all_profiles.nd rfl rfl rfl (own := [("head", 4), ("count", 5)]) (vs1 := [5]) (is := [4]) (is1 := [5]) (di_sq (dv 2)) (blk_ok (by first | rfl | kernel_rfl)) (by decide) (gName 4) (gName 5) sto_name (by decide) sto_name (by decide) (fun _ _ _ _ _ => pg_name (i := 4) sc_all_profiles.nd rfl (by first | exact Or.inl rfl | exact Or.inr rfl) (by first | exact Or.inl rfl | exact Or.inr rfl)) (fun _ _ _ _ _ => dts_nil) (fun _ _ _ _ _ => di_r1 rfl h_range (x_add (x_sub (dv 0) (de_cb (cr_sumQ rfl) so_sum rfl h_sum (by first | rfl | kernel_rfl) (da_cons (dv 4) (da_nil)))) (de_int))) (fun _ _ _ _ _ => pg_name (i := 5) sc_all_profiles.nd rfl (by first | exact Or.inl rfl | exact Or.inr rfl) (by first | exact Or.inl rfl | exact Or.inr rfl)) (fun _ _ _ _ _ => dts_nil) (fun _ _ _ _ _ => x_add (dv 4) (de_tup (da_cons (de_fz (dv 5)) (da_nil))))))) (ds_one (ds_ret (de_lc rfl sc_all_profiles.nd (own := [("head", 4)]) (is := [4]) (di_sq (dv 2)) (blk_ok (by first | rfl | kernel_rfl)) (gName 4) sto_name (by decide) (fun _ _ _ _ _ => pg_name (i := 4) sc_all_profiles.nd rfl (by first | exact Or.inl rfl | exact Or.inr rfl) (by first | exact Or.inl rfl | exact Or.inr rfl)) (fun _ _ _ _ _ => dts_nil) (fun _ _ _ _ _ => x_add (dv 4) (de_tup (da_cons (x_sub (dv 0) (de_cb (cr_sumQ rfl) so_sum rfl h_sum (by first | rfl | kernel_rfl) (da_cons (dv 4) (da_nil)))) (da_nil)))))))))
theorem sc_profiles_where : FnScope ["formula", "n", "k", "profile"] ["formula", "n", "k"] (defScope (top 32)) := ⟨rfl, rfl, rfl, by decide +kernel, rfl, by decide +kernel, by decide +kernel⟩
def s_profiles_where : Rho → SR := sSeq (sEx (eCall g_check_counted [] (aCons (eVar 0) (aNil)))) (sRt (eLc (iSq (eCall g_all_profiles [] (aCons (eVar 1) (aCons (eVar 2) (aNil))))) (gNm 3) (tV (eCall g_is_true [] (aCons (eVar 0) (aCons (eVar 3) (aCons (eTup (aNil)) (aNil)))))) (eFz (eVar 3)) [3]))
def g_profiles_where : Rho → R Vl := bodyR 4 s_profiles_where
theorem ok_profiles_where {P : Program} {w : World} {K : PySem.W.Frag} {mg : Str → Option Value} {base : Heap} {f : Addr} {fd : FuncData} (F : FunD K "profiles_where" "profiles_where" (defArgs (top 32)) (defBody (top 32)) (defScope (top 32)) [] [] f fd) (m : mg "profiles_where" = some (.ref f))
    {f_all_profiles : Addr} {fd_all_profiles : FuncData} (c_all_profiles : Cal P w K mg base "all_profiles" 4 f_all_profiles fd_all_profiles ["n", "k"] [] g_all_profiles)
    {f_check_counted : Addr} {fd_check_counted : FuncData} (c_check_counted : Cal P w K mg base "check_counted" 8 f_check_counted fd_check_counted ["formula"] [] g_check_counted)
    {f_is_true : Addr} {fd_is_true : FuncData} (c_is_true : Cal P w K mg base "is_true" 8 f_is_true fd_is_true ["formula", "counts", "row"] [] g_is_true) :
    Cal P w K mg base "profiles_where" (8 + 1) f fd ["formula", "n", "k"] [] (g_profiles_where) := by
  refine ok_c F m (kw_of F fun _ _ _ _ _ _ us ws h1 h2 => match us, ws, h1, h2 with | [_, _, _], [], _, _ => rfl) sc_profiles_where (by decide) fun cdv A outer sh H E hr hg tk hp => ?_
  exact ds_cons (ds_expr (x_call c_check_counted hr (by decide) hg rfl tk rfl (da_cons (dv 0) (da_nil)) (al_cons (al_nil)) rfl)) (ds_one (ds_ret (de_lc rfl sc_profiles_where.nd (own := [("profile", 3)]) (is := [3]) (di_sq (x_call c_all_profiles hr (by decide) hg rfl tk rfl (da_cons (dv 1) (da_cons (dv 2) (da_nil))) (al_cons (al_cons (al_nil))) rfl)) (blk_ok (by first | rfl | kernel_rfl)) (gName 3) sto_name (by decide) (fun _ _ _ _ _ => pg_name (i := 3) sc_profiles_where.nd rfl (by first | exact Or.inl rfl | exact Or.inr rfl) (by first | exact Or.inl rfl | exact Or.inr rfl)) (fun _ _ _ _ _ => dts_one (dt_val (x_call c_is_true hr (by decide) hg rfl takes_none5 rfl (da_cons (dv 0) (da_cons (dv 3) (da_cons (de_tup (da_nil)) (da_nil)))) (al_cons (al_cons (al_cons (al_nil)))) rfl))) (fun _ _ _ _ _ => de_fz (dv 3)))))
theorem sc_spans_of : FnScope ["n", "k", "silent", "liars", "easy_silent", "easy_liars", "span", "need"] ["n", "k", "silent", "liars", "easy_silent", "easy_liars"] (defScope (top 34)) := ⟨rfl, rfl, rfl, by decide +kernel, rfl, by decide +kernel, by decide +kernel⟩
def s_spans_of : Rho → SR := sSeq (sIf (tOr' (tV (eOp ltD (eVar 0) (eC (.int 2)))) (tV (eOp gtD (eVar 0) (eC (.int 60))))) (sRs "BadGreat" ["field"] (aCons (eC (.str "n")) (aNil))) (sNx)) (sSeq (sIf (tOr' (tV (eOp ltD (eVar 1) (eC (.int 2)))) (tV (eOp gtD (eVar 1) (eC (.int 4))))) (sRs "BadGreat" ["field"] (aCons (eC (.str "k")) (aNil))) (sNx)) (sSeq (sIf (tOr' (tV (eOp ltD (eVar 2) (eC (.int 0)))) (tV (eOp ltD (eVar 0) (eOp addD (eVar 2) (eC (.int 2)))))) (sRs "BadGreat" ["field"] (aCons (eC (.str "silent")) (aNil))) (sNx)) (sSeq (sIf (tOr' (tV (eOp ltD (eVar 3) (eC (.int 0)))) (tV (eOp ltD (eVar 0) (eOp addD (eOp addD (eVar 2) (eOp mulD (eC (.int 2)) (eVar 3))) (eC (.int 2)))))) (sRs "BadGreat" ["field"] (aCons (eC (.str "liars")) (aNil))) (sNx)) (sSeq (sIf (tOr' (tV (eOp ltD (eVar 4) (eC (.int 0)))) (tV (eOp gtD (eVar 4) (eVar 2)))) (sRs "BadGreat" ["field"] (aCons (eC (.str "easy_silent")) (aNil))) (sNx)) (sSeq (sIf (tOr' (tV (eOp ltD (eVar 5) (eC (.int 0)))) (tV (eOp gtD (eVar 5) (eVar 3)))) (sRs "BadGreat" ["field"] (aCons (eC (.str "easy_liars")) (aNil))) (sNx)) (sSeq (sSet 6 (eOp addD (eOp addD (eOp addD (eOp mulD (eC (.int 2)) (eVar 4)) (eVar 2)) (eOp mulD (eC (.int 2)) (eVar 3))) (eOp mulD (eC (.int 2)) (eVar 5)))) (sSeq (sSet 7 (eOp addD (eOp addD (eOp addD (eVar 4) (eVar 2)) (eOp mulD (eC (.int 2)) (eVar 3))) (eVar 5))) (sRt (eTup (aCons (eFz (eVar 6)) (aCons (eFz (eVar 7)) (aNil))))))))))))
def g_spans_of : Rho → R Vl := bodyR 8 s_spans_of
theorem ok_spans_of {P : Program} {w : World} {K : PySem.W.Frag} {mg : Str → Option Value} {base : Heap} {f : Addr} {fd : FuncData} (F : FunD K "spans_of" "spans_of" (defArgs (top 34)) (defBody (top 34)) (defScope (top 34)) [] [] f fd) (m : mg "spans_of" = some (.ref f))
    (r_BadGreat : Rai P w K mg base "BadGreat" 2 ["field"]) :
    Cal P w K mg base "spans_of" (3 + 1) f fd ["n", "k", "silent", "liars", "easy_silent", "easy_liars"] ["silent", "liars", "easy_silent", "easy_liars"] (g_spans_of) := by
  refine ok_c F m (kw_of F fun _ _ _ _ _ _ us ws h1 h2 => match us, ws, h1, h2 with | [_, _], [_, _, _, _], _, _ => rfl) sc_spans_of (by decide) fun cdv A outer sh H E hr hg tk hp => ?_
  exact ds_cons (ds_if (dw_pt (dw_or (y_lt (dv 0) (de_int)) (dw_or1 (y_gt (dv 0) (de_int))))) (ds_one (x_raise r_BadGreat rfl tk hr (by decide) rfl (da_cons (de_str) (da_nil)))) (ds_nil)) (ds_cons (ds_if (dw_pt (dw_or (y_lt (dv 1) (de_int)) (dw_or1 (y_gt (dv 1) (de_int))))) (ds_one (x_raise r_BadGreat rfl tk hr (by decide) rfl (da_cons (de_str) (da_nil)))) (ds_nil)) (ds_cons (ds_if (dw_pt (dw_or (y_lt (dv 2) (de_int)) (dw_or1 (y_lt (dv 0) (x_add (dv 2) (de_int)))))) (ds_one (x_raise r_BadGreat rfl tk hr (by decide) rfl (da_cons (de_str) (da_nil)))) (ds_nil)) (ds_cons (ds_if (dw_pt (dw_or (y_lt (dv 3) (de_int)) (dw_or1 (y_lt (dv 0) (x_add (x_add (dv 2) (x_mul (de_int) (dv 3))) (de_int)))))) (ds_one (x_raise r_BadGreat rfl tk hr (by decide) rfl (da_cons (de_str) (da_nil)))) (ds_nil)) (ds_cons (ds_if (dw_pt (dw_or (y_lt (dv 4) (de_int)) (dw_or1 (y_gt (dv 4) (dv 2))))) (ds_one (x_raise r_BadGreat rfl tk hr (by decide) rfl (da_cons (de_str) (da_nil)))) (ds_nil)) (ds_cons (ds_if (dw_pt (dw_or (y_lt (dv 5) (de_int)) (dw_or1 (y_gt (dv 5) (dv 3))))) (ds_one (x_raise r_BadGreat rfl tk hr (by decide) rfl (da_cons (de_str) (da_nil)))) (ds_nil)) (ds_cons (ds_set (i := 6) sc_spans_of.nd rfl (by first | exact Or.inl rfl | exact Or.inr rfl) (x_add (x_add (x_add (x_mul (de_int) (dv 4)) (dv 2)) (x_mul (de_int) (dv 3))) (x_mul (de_int) (dv 5)))) (ds_cons (ds_set (i := 7) sc_spans_of.nd rfl (by first | exact Or.inl rfl | exact Or.inr rfl) (x_add (x_add (x_add (dv 4) (dv 2)) (x_mul (de_int) (dv 3))) (dv 5))) (ds_one (ds_ret (de_tup (da_cons (de_fz (dv 6)) (da_cons (de_fz (dv 7)) (da_nil)))))))))))))
theorem sc_at_least : FnScope ["n", "k", "level", "profile"] ["n", "k", "level"] (defScope (top 36)) := ⟨rfl, rfl, rfl, by decide +kernel, rfl, by decide +kernel, by decide +kernel⟩
def s_at_least : Rho → SR := sRt (eLc (iSq (eCall g_all_profiles [] (aCons (eVar 0) (aCons (eVar 1) (aNil))))) (gNm 3) (tV (eOp geD (eCB maxD (aCons (eVar 3) (aNil))) (eVar 2))) (eFz (eVar 3)) [3])
def g_at_least : Rho → R Vl := bodyR 4 s_at_least
theorem ok_at_least {P : Program} {w : World} {K : PySem.W.Frag} {mg : Str → Option Value} {base : Heap} {f : Addr} {fd : FuncData} (F : FunD K "at_least" "at_least" (defArgs (top 36)) (defBody (top 36)) (defScope (top 36)) [] [] f fd) (m : mg "at_least" = some (.ref f))
    {f_all_profiles : Addr} {fd_all_profiles : FuncData} (c_all_profiles : Cal P w K mg base "all_profiles" 4 f_all_profiles fd_all_profiles ["n", "k"] [] g_all_profiles)
    (h_max : mg "max" = none) :
    Cal P w K mg base "at_least" (4 + 1) f fd ["n", "k", "level"] [] (g_at_least) := by
  refine ok_c F m (kw_of F fun _ _ _ _ _ _ us ws h1 h2 => match us, ws, h1, h2 with | [_, _, _], [], _, _ => rfl) sc_at_least (by decide) fun cdv A outer sh H E hr hg tk hp => ?_
  exact ds_one (ds_ret (de_lc rfl sc_at_least.nd (own := [("profile", 3)]) (is := [3]) (di_sq (x_call c_all_profiles hr (by decide) hg rfl tk rfl (da_cons (dv 0) (da_cons (dv 1) (da_nil))) (al_cons (al_cons (al_nil))) rfl)) (blk_ok (by first | rfl | kernel_rfl)) (gName 3) sto_name (by decide) (fun _ _ _ _ _ => pg_name (i := 3) sc_at_least.nd rfl (by first | exact Or.inl rfl | exact Or.inr rfl) (by first | exact Or.inl rfl | exact Or.inr rfl)) (fun _ _ _ _ _ => dts_one (y_ge (de_cb (cr_maxQ rfl) so_max rfl h_max (by first | rfl | kernel_rfl) (da_cons (dv 3) (da_nil))) (dv 2))) (fun _ _ _ _ _ => de_fz (dv 3))))
theorem sc_preferred : FnScope ["n", "k", "value", "level", "profile"] ["n", "k", "value", "level"] (defScope (top 37)) := ⟨rfl, rfl, rfl, by decide +kernel, rfl, by decide +kernel, by decide +kernel⟩
def s_preferred : Rho → SR := sRt (eLc (iSq (eCall g_all_profiles [] (aCons (eVar 0) (aCons (eVar 1) (aNil))))) (gNm 4) (tV (eOp geD (eOp ixD (eVar 4) (eVar 2)) (eVar 3))) (eFz (eVar 4)) [4])
def g_preferred : Rho → R Vl := bodyR 5 s_preferred
theorem ok_preferred {P : Program} {w : World} {K : PySem.W.Frag} {mg : Str → Option Value} {base : Heap} {f : Addr} {fd : FuncData} (F : FunD K "preferred" "preferred" (defArgs (top 37)) (defBody (top 37)) (defScope (top 37)) [] [] f fd) (m : mg "preferred" = some (.ref f))
    {f_all_profiles : Addr} {fd_all_profiles : FuncData} (c_all_profiles : Cal P w K mg base "all_profiles" 4 f_all_profiles fd_all_profiles ["n", "k"] [] g_all_profiles) :
    Cal P w K mg base "preferred" (4 + 1) f fd ["n", "k", "value", "level"] [] (g_preferred) := by
  refine ok_c F m (kw_of F fun _ _ _ _ _ _ us ws h1 h2 => match us, ws, h1, h2 with | [_, _, _, _], [], _, _ => rfl) sc_preferred (by decide) fun cdv A outer sh H E hr hg tk hp => ?_
  exact ds_one (ds_ret (de_lc rfl sc_preferred.nd (own := [("profile", 4)]) (is := [4]) (di_sq (x_call c_all_profiles hr (by decide) hg rfl tk rfl (da_cons (dv 0) (da_cons (dv 1) (da_nil))) (al_cons (al_cons (al_nil))) rfl)) (blk_ok (by first | rfl | kernel_rfl)) (gName 4) sto_name (by decide) (fun _ _ _ _ _ => pg_name (i := 4) sc_preferred.nd rfl (by first | exact Or.inl rfl | exact Or.inr rfl) (by first | exact Or.inl rfl | exact Or.inr rfl)) (fun _ _ _ _ _ => dts_one (y_ge (de_ix (dv 4) (dv 2)) (dv 3))) (fun _ _ _ _ _ => de_fz (dv 4))))
theorem sc_least_level : FnScope ["n", "silent", "liars", "easy_silent", "easy_liars", "told", "level"] ["n", "silent", "liars", "easy_silent", "easy_liars"] (defScope (top 38)) := ⟨rfl, rfl, rfl, by decide +kernel, rfl, by decide +kernel, by decide +kernel⟩
def s_least_level : Rho → SR := sSeq (sSet 5 (eCall g_spans_of [] (aApp (aCons (eVar 0) (aCons (eC (.int 2)) (aNil))) (aCons (eVar 1) (aCons (eVar 2) (aCons (eVar 3) (aCons (eVar 4) (aNil)))))))) (sSeq (sSet 6 (eOp addD (eOp fdivD (eOp addD (eVar 0) (eOp ixD (eVar 5) (eC (.int 0)))) (eC (.int 2))) (eC (.int 1)))) (sSeq (sIf (tV (eOp gtD (eVar 6) (eVar 0))) (sRt (eC .non)) (sNx)) (sRt (eVar 6))))
def g_least_level : Rho → R Vl := bodyR 7 s_least_level
theorem ok_least_level {P : Program} {w : World} {K : PySem.W.Frag} {mg : Str → Option Value} {base : Heap} {f : Addr} {fd : FuncData} (F : FunD K "least_level" "least_level" (defArgs (top 38)) (defBody (top 38)) (defScope (top 38)) [] [] f fd) (m : mg "least_level" = some (.ref f))
    {f_spans_of : Addr} {fd_spans_of : FuncData} (c_spans_of : Cal P w K mg base "spans_of" 4 f_spans_of fd_spans_of ["n", "k", "silent", "liars", "easy_silent", "easy_liars"] ["silent", "liars", "easy_silent", "easy_liars"] g_spans_of) :
    Cal P w K mg base "least_level" (4 + 1) f fd ["n", "silent", "liars", "easy_silent", "easy_liars"] ["silent", "liars", "easy_silent", "easy_liars"] (g_least_level) := by
  refine ok_c F m (kw_of F fun _ _ _ _ _ _ us ws h1 h2 => match us, ws, h1, h2 with | [_], [_, _, _, _], _, _ => rfl) sc_least_level (by decide) fun cdv A outer sh H E hr hg tk hp => ?_
  exact ds_cons (ds_set (i := 5) sc_least_level.nd rfl (by first | exact Or.inl rfl | exact Or.inr rfl) (x_callK c_spans_of hr (by decide) hg rfl tk rfl (da_cons (dv 0) (da_cons (de_int) (da_nil))) (dk_cons (dv 1) (dk_cons (dv 2) (dk_cons (dv 3) (dk_cons (dv 4) (dk_nil))))) (al_cons (al_cons (al_nil))) (al_cons (al_cons (al_cons (al_cons (al_nil))))) rfl)) (ds_cons (ds_set (i := 6) sc_least_level.nd rfl (by first | exact Or.inl rfl | exact Or.inr rfl) (x_add (x_fdiv (x_add (dv 0) (de_ix (dv 5) (de_int))) (de_int)) (de_int))) (ds_cons (ds_if (y_gt (dv 6) (dv 0)) (ds_one (ds_ret (de_non))) (ds_nil)) (ds_one (ds_ret (dv 6)))))
theorem sc_u_law_mixed : FnScope ["number", "turn", "first", "second"] ["number", "turn"] (defScope (top 40)) := ⟨rfl, rfl, rfl, by decide +kernel, rfl, by decide +kernel, by decide +kernel⟩
def s_u_law_mixed : Rho → SR := sSeq (sSet 2 (eOp modD (eCB intD (aCons (eOp addD (eOp addD (eOp mulD (eOp modD (eCB intD (aCons (eVar 0) (aNil))) (eC (.int 2147483647))) (eC (.int 48271))) (eOp mulD (eVar 1) (eC (.int 69621)))) (eC (.int 12345))) (aNil))) (eC (.int 2147483647)))) (sSeq (sSet 3 (eOp modD (eCB intD (aCons (eOp addD (eOp addD (eOp addD (eOp mulD (eVar 2) (eVar 2)) (eOp mulD (eVar 2) (eC (.int 40692)))) (eOp mulD (eVar 1) (eC (.int 7919)))) (eC (.int 977))) (aNil))) (eC (.int 2147483629)))) (sRt (eOp modD (eCB intD (aCons (eOp addD (eOp addD (eOp addD (eOp mulD (eVar 3) (eVar 3)) (eOp mulD (eVar 3) (eC (.int 16807)))) (eOp fdivD (eVar 2) (eC (.int 31)))) (eVar 1)) (aNil))) (eC (.int 2147483587)))))
def g_u_law_mixed : Rho → R Vl := bodyR 4 s_u_law_mixed
theorem ok_u_law_mixed {P : Program} {w : World} {K : PySem.W.Frag} {mg : Str → Option Value} {base : Heap} {f : Addr} {fd : FuncData} (F : FunD K "_law_mixed" "_law_mixed" (defArgs (top 40)) (defBody (top 40)) (defScope (top 40)) [] [] f fd) (m : mg "_law_mixed" = some (.ref f))
    (h_int : mg "int" = none) :
    Cal P w K mg base "_law_mixed" (0 + 1) f fd ["number", "turn"] [] (g_u_law_mixed) := by
  refine ok_c F m (kw_of F fun _ _ _ _ _ _ us ws h1 h2 => match us, ws, h1, h2 with | [_, _], [], _, _ => rfl) sc_u_law_mixed (by decide) fun cdv A outer sh H E hr hg tk hp => ?_
  exact ds_cons (ds_set (i := 2) sc_u_law_mixed.nd rfl (by first | exact Or.inl rfl | exact Or.inr rfl) (x_mod (de_ct call_int1 so_int rfl h_int (by first | rfl | kernel_rfl) (da_cons (x_add (x_add (x_mul (x_mod (de_ct call_int1 so_int rfl h_int (by first | rfl | kernel_rfl) (da_cons (dv 0) (da_nil))) (de_int)) (de_int)) (x_mul (dv 1) (de_int))) (de_int)) (da_nil))) (de_int))) (ds_cons (ds_set (i := 3) sc_u_law_mixed.nd rfl (by first | exact Or.inl rfl | exact Or.inr rfl) (x_mod (de_ct call_int1 so_int rfl h_int (by first | rfl | kernel_rfl) (da_cons (x_add (x_add (x_add (x_mul (dv 2) (dv 2)) (x_mul (dv 2) (de_int))) (x_mul (dv 1) (de_int))) (de_int)) (da_nil))) (de_int))) (ds_one (ds_ret (x_mod (de_ct call_int1 so_int rfl h_int (by first | rfl | kernel_rfl) (da_cons (x_add (x_add (x_add (x_mul (dv 3) (dv 3)) (x_mul (dv 3) (de_int))) (x_fdiv (dv 2) (de_int))) (dv 1)) (da_nil))) (de_int)))))
theorem sc_u_law_store : FnScope ["script", "cells", "whole", "cell", "small"] ["script"] (defScope (top 41)) := ⟨rfl, rfl, rfl, by decide +kernel, rfl, by decide +kernel, by decide +kernel⟩
def s_u_law_store : Rho → SR := sSeq (sSet 1 (eLst (aNil))) (sSeq (sSet 2 (eC (.int 19743))) (sSeq (sFor (iSq (eVar 0)) (gNm 3) (sSeq (sSet 4 (eOp modD (eCB intD (aCons (eCB absD (aCons (eVar 3) (aNil))) (aNil))) (eOp mulD (eOp mulD (eOp mulD (eOp powD (eC (.int 10)) (eC (.int 60))) (eOp powD (eC (.int 10)) (eC (.int 60)))) (eOp powD (eC (.int 10)) (eC (.int 60)))) (eOp powD (eC (.int 10)) (eC (.int 60)))))) (sSeq (sIf (tV (eOp ltD (eVar 3) (eC (.int 0)))) (sSet 4 (eUn negD (eVar 4))) (sNx)) (sSeq (sEx (eApp 1 (eFz (eVar 4)))) (sSet 2 (eOp modD (eCB intD (aCons (eOp addD (eOp addD (eOp mulD (eVar 2) (eC (.int 48271))) (eVar 4)) (eC (.int 7))) (aNil))) (eC (.int 2147483647)))))))) (sRt (eLst (aCons (eFz (eVar 1)) (aCons (eC (.int 0)) (aCons (eC (.int 0)) (aCons (eC (.int 0)) (aCons (eC (.int 0)) (aCons (eC (.int 0)) (aCons (eFz (eVar 2)) (aNil))))))))))))
def g_u_law_store : Rho → R Vl := bodyR 5 s_u_law_store
theorem ok_u_law_store {P : Program} {w : World} {K : PySem.W.Frag} {mg : Str → Option Value} {base : Heap} {f : Addr} {fd : FuncData} (F : FunD K "_law_store" "_law_store" (defArgs (top 41)) (defBody (top 41)) (defScope (top 41)) [] [] f fd) (m : mg "_law_store" = some (.ref f))
    (h_abs : mg "abs" = none)
    (h_int : mg "int" = none) :
    Cal P w K mg base "_law_store" (0 + 1) f fd ["script"] [] (g_u_law_store) := by
  refine ok_c F m (kw_of F fun _ _ _ _ _ _ us ws h1 h2 => match us, ws, h1, h2 with | [_], [], _, _ => rfl) sc_u_law_store (by decide) fun cdv A outer sh H E hr hg tk hp => ?_
  exact ds_cons (ds_set (i := 1) sc_u_law_store.nd rfl (by first | exact Or.inl rfl | exact Or.inr rfl) (de_lst (da_nil))) (ds_cons (ds_set (i := 2) sc_u_law_store.nd rfl (by first | exact Or.inl rfl | exact Or.inr rfl) (de_int)) (ds_cons (ds_for hp rfl (di_sq (dv 0)) (dg_name (i := 3) sc_u_law_store.nd rfl (by first | exact Or.inl rfl | exact Or.inr rfl)) (ds_cons (ds_set (i := 4) sc_u_law_store.nd rfl (by first | exact Or.inl rfl | exact Or.inr rfl) (x_mod (de_ct call_int1 so_int rfl h_int (by first | rfl | kernel_rfl) (da_cons (de_cb call_abs so_abs rfl h_abs (by first | rfl | kernel_rfl) (da_cons (dv 3) (da_nil))) (da_nil))) (x_mul (x_mul (x_mul (x_pow (de_int) (de_int)) (x_pow (de_int) (de_int))) (x_pow (de_int) (de_int))) (x_pow (de_int) (de_int))))) (ds_cons (ds_if (y_lt (dv 3) (de_int)) (ds_one (ds_set (i := 4) sc_u_law_store.nd rfl (by first | exact Or.inl rfl | exact Or.inr rfl) (x_neg (dv 4)))) (ds_nil)) (ds_cons (ds_expr (de_app (pe_var (i := 1) rfl (by first | exact Or.inl rfl | exact Or.inr (Or.inl rfl) | exact Or.inr (Or.inr rfl))) (de_fz (dv 4)))) (ds_one (ds_set (i := 2) sc_u_law_store.nd rfl (by first | exact Or.inl rfl | exact Or.inr rfl) (x_mod (de_ct call_int1 so_int rfl h_int (by first | rfl | kernel_rfl) (da_cons (x_add (x_add (x_mul (dv 2) (de_int)) (dv 4)) (de_int)) (da_nil))) (de_int)))))))) (ds_one (ds_ret (de_lst (da_cons (de_fz (dv 1)) (da_cons (de_int) (da_cons (de_int) (da_cons (de_int) (da_cons (de_int) (da_cons (de_int) (da_cons (de_fz (dv 2)) (da_nil)))))))))))))
theorem sc_u_law_take : FnScope ["store", "many", "cell", "digit", "number"] ["store", "many"] (defScope (top 42)) := ⟨rfl, rfl, rfl, by decide +kernel, rfl, by decide +kernel, by decide +kernel⟩
def s_u_law_take : Rho → SR := sSeq (sIf (tV (eOp ltD (eVar 1) (eC (.int 2)))) (sRt (eC (.int 0))) (sNx)) (sSeq (sIf (tAn (tV (eOp eqD (eOp ixD (eVar 0) (eC (.int 2))) (eC (.int 0)))) (tAn (tV (eOp eqD (eOp ixD (eVar 0) (eC (.int 3))) (eC (.int 0)))) (tV (eOp ltD (eOp ixD (eVar 0) (eC (.int 1))) (eCB lenD (aCons (eOp ixD (eVar 0) (eC (.int 0))) (aNil))))))) (sSeq (sSet 2 (eOp ixD (eOp ixD (eVar 0) (eC (.int 0))) (eOp ixD (eVar 0) (eC (.int 1))))) (sSeq (sSx 0 (eC (.int 1)) (eOp addD (eOp ixD (eVar 0) (eC (.int 1))) (eC (.int 1)))) (sIf (tV (eOp geD (eCB absD (aCons (eVar 2) (aNil))) (eOp powD (eC (.int 10)) (eC (.int 18))))) (sSx 0 (eC (.int 2)) (eFz (eCB absD (aCons (eVar 2) (aNil))))) (sSeq (sSx 0 (eC (.int 3)) (eC (.int 3))) (sSx 0 (eC (.int 4)) (eFz (eCall g_u_law_mixed [] (aCons (eVar 2) (aCons (eOp ixD (eVar 0) (eC (.int 1))) (aNil)))))))))) (sNx)) (sSeq (sIf (tV (eOp gtD (eOp ixD (eVar 0) (eC (.int 2))) (eC (.int 0)))) (sSeq (sSet 3 (eOp modD (eCB intD (aCons (eOp ixD (eVar 0) (eC (.int 2))) (aNil))) (eVar 1))) (sSeq (sSx 0 (eC (.int 2)) (eOp fdivD (eOp ixD (eVar 0) (eC (.int 2))) (eVar 1))) (sRt (eVar 3)))) (sNx)) (sSeq (sSet 4 (eOp ixD (eVar 0) (eC (.int 6)))) (sSeq (sIf (tV (eOp gtD (eOp ixD (eVar 0) (eC (.int 3))) (eC (.int 0)))) (sSeq (sSx 0 (eC (.int 3)) (eOp subD (eOp ixD (eVar 0) (eC (.int 3))) (eC (.int 1)))) (sSet 4 (eOp ixD (eVar 0) (eC (.int 4))))) (sNx)) (sSeq (sSx 0 (eC (.int 5)) (eOp addD (eOp ixD (eVar 0) (eC (.int 5))) (eC (.int 1)))) (sRt (eOp modD (eCB intD (aCons (eOp fdivD (eCall g_u_law_mixed [] (aCons (eVar 4) (aCons (eOp ixD (eVar 0) (eC (.int 5))) (aNil)))) (eC (.int 64))) (aNil))) (eVar 1))))))))
def g_u_law_take : Rho → R Vl := bodyR 5 s_u_law_take
theorem ok_u_law_take {P : Program} {w : World} {K : PySem.W.Frag} {mg : Str → Option Value} {base : Heap} {f : Addr} {fd : FuncData} (F : FunD K "_law_take" "_law_take" (defArgs (top 42)) (defBody (top 42)) (defScope (top 42)) [] [] f fd) (m : mg "_law_take" = some (.ref f))
    {f_u_law_mixed : Addr} {fd_u_law_mixed : FuncData} (c_u_law_mixed : Cal P w K mg base "_law_mixed" 1 f_u_law_mixed fd_u_law_mixed ["number", "turn"] [] g_u_law_mixed)
    (h_abs : mg "abs" = none)
    (h_int : mg "int" = none)
    (h_len : mg "len" = none) :
    Cal P w K mg base "_law_take" (1 + 1) f fd ["store", "many"] [] (g_u_law_take) := by
  refine ok_c F m (kw_of F fun _ _ _ _ _ _ us ws h1 h2 => match us, ws, h1, h2 with | [_, _], [], _, _ => rfl) sc_u_law_take (by decide) fun cdv A outer sh H E hr hg tk hp => ?_
  exact ds_cons (ds_if (y_lt (dv 1) (de_int)) (ds_one (ds_ret (de_int))) (ds_nil)) (ds_cons (ds_if (dw_pt (dw_and (y_eq (de_ix (dv 0) (de_int)) (de_int)) (dw_and (y_eq (de_ix (dv 0) (de_int)) (de_int)) (dw_and1 (y_lt (de_ix (dv 0) (de_int)) (de_cb cr_lenQ so_len rfl h_len (by first | rfl | kernel_rfl) (da_cons (de_ix (dv 0) (de_int)) (da_nil)))))))) (ds_cons (ds_set (i := 2) sc_u_law_take.nd rfl (by first | exact Or.inl rfl | exact Or.inr rfl) (de_ix (de_ix (dv 0) (de_int)) (de_ix (dv 0) (de_int)))) (ds_cons (ds_sx (pe_var (i := 0) rfl (by first | exact Or.inl rfl | exact Or.inr (Or.inl rfl) | exact Or.inr (Or.inr rfl))) (de_int) (x_add (de_ix (dv 0) (de_int)) (de_int))) (ds_one (ds_if (y_ge (de_cb call_abs so_abs rfl h_abs (by first | rfl | kernel_rfl) (da_cons (dv 2) (da_nil))) (x_pow (de_int) (de_int))) (ds_one (ds_sx (pe_var (i := 0) rfl (by first | exact Or.inl rfl | exact Or.inr (Or.inl rfl) | exact Or.inr (Or.inr rfl))) (de_int) (de_fz (de_cb call_abs so_abs rfl h_abs (by first | rfl | kernel_rfl) (da_cons (dv 2) (da_nil)))))) (ds_cons (ds_sx (pe_var (i := 0) rfl (by first | exact Or.inl rfl | exact Or.inr (Or.inl rfl) | exact Or.inr (Or.inr rfl))) (de_int) (de_int)) (ds_one (ds_sx (pe_var (i := 0) rfl (by first | exact Or.inl rfl | exact Or.inr (Or.inl rfl) | exact Or.inr (Or.inr rfl))) (de_int) (de_fz (x_call c_u_law_mixed hr (by decide) hg rfl tk rfl (da_cons (dv 2) (da_cons (de_ix (dv 0) (de_int)) (da_nil))) (al_cons (al_cons (al_nil))) rfl))))))))) (ds_nil)) (ds_cons (ds_if (y_gt (de_ix (dv 0) (de_int)) (de_int)) (ds_cons (ds_set (i := 3) sc_u_law_take.nd rfl (by first | exact Or.inl rfl | exact Or.inr rfl) (x_mod (de_ct call_int1 so_int rfl h_int (by first | rfl | kernel_rfl) (da_cons (de_ix (dv 0) (de_int)) (da_nil))) (dv 1))) (ds_cons (ds_sx (pe_var (i := 0) rfl (by first | exact Or.inl rfl | exact Or.inr (Or.inl rfl) | exact Or.inr (Or.inr rfl))) (de_int) (x_fdiv (de_ix (dv 0) (de_int)) (dv 1))) (ds_one (ds_ret (dv 3))))) (ds_nil)) (ds_cons (ds_set (i := 4) sc_u_law_take.nd rfl (by first | exact Or.inl rfl | exact Or.inr rfl) (de_ix (dv 0) (de_int))) (ds_cons (ds_if (y_gt (de_ix (dv 0) (de_int)) (de_int)) (ds_cons (ds_sx (pe_var (i := 0) rfl (by first | exact Or.inl rfl | exact Or.inr (Or.inl rfl) | exact Or.inr (Or.inr rfl))) (de_int) (x_sub (de_ix (dv 0) (de_int)) (de_int))) (ds_one (ds_set (i := 4) sc_u_law_take.nd rfl (by first | exact Or.inl rfl | exact Or.inr rfl) (de_ix (dv 0) (de_int))))) (ds_nil)) (ds_cons (ds_sx (pe_var (i := 0) rfl (by first | exact Or.inl rfl | exact Or.inr (Or.inl rfl) | exact Or.inr (Or.inr rfl))) (de_int) (x_add (de_ix (dv 0) (de_int)) (de_int))) (ds_one (ds_ret (x_mod (de_ct call_int1 so_int rfl h_int (by first | rfl | kernel_rfl) (da_cons (x_fdiv (x_call c_u_law_mixed hr (by decide) hg rfl tk rfl (da_cons (dv 4) (da_cons (de_ix (dv 0) (de_int)) (da_nil))) (al_cons (al_cons (al_nil))) rfl) (de_int)) (da_nil))) (dv 1)))))))))
theorem sc_u_law_between : FnScope ["store", "low", "high"] ["store", "low", "high"] (defScope (top 43)) := ⟨rfl, rfl, rfl, by decide +kernel, rfl, by decide +kernel, by decide +kernel⟩
def s_u_law_between : Rho → SR := sRt (eOp addD (eVar 1) (eCall g_u_law_take [] (aCons (eVar 0) (aCons (eOp addD (eOp subD (eVar 2) (eVar 1)) (eC (.int 1))) (aNil)))))
def g_u_law_between : Rho → R Vl := bodyR 3 s_u_law_between
theorem ok_u_law_between {P : Program} {w : World} {K : PySem.W.Frag} {mg : Str → Option Value} {base : Heap} {f : Addr} {fd : FuncData} (F : FunD K "_law_between" "_law_between" (defArgs (top 43)) (defBody (top 43)) (defScope (top 43)) [] [] f fd) (m : mg "_law_between" = some (.ref f))
    {f_u_law_take : Addr} {fd_u_law_take : FuncData} (c_u_law_take : Cal P w K mg base "_law_take" 2 f_u_law_take fd_u_law_take ["store", "many"] [] g_u_law_take) :
    Cal P w K mg base "_law_between" (2 + 1) f fd ["store", "low", "high"] [] (g_u_law_between) := by
  refine ok_c F m (kw_of F fun _ _ _ _ _ _ us ws h1 h2 => match us, ws, h1, h2 with | [_, _, _], [], _, _ => rfl) sc_u_law_between (by decide) fun cdv A outer sh H E hr hg tk hp => ?_
  exact ds_one (ds_ret (x_add (dv 1) (x_call c_u_law_take hr (by decide) hg rfl tk rfl (da_cons (dv 0) (da_cons (x_add (x_sub (dv 2) (dv 1)) (de_int)) (da_nil))) (al_cons (al_cons (al_nil))) rfl)))
theorem sc_u_law_chance : FnScope ["store", "share"] ["store", "share"] (defScope (top 44)) := ⟨rfl, rfl, rfl, by decide +kernel, rfl, by decide +kernel, by decide +kernel⟩
def s_u_law_chance : Rho → SR := sRt (eOp eqD (eCall g_u_law_take [] (aCons (eVar 0) (aCons (eVar 1) (aNil)))) (eC (.int 0)))
def g_u_law_chance : Rho → R Vl := bodyR 2 s_u_law_chance
theorem ok_u_law_chance {P : Program} {w : World} {K : PySem.W.Frag} {mg : Str → Option Value} {base : Heap} {f : Addr} {fd : FuncData} (F : FunD K "_law_chance" "_law_chance" (defArgs (top 44)) (defBody (top 44)) (defScope (top 44)) [] [] f fd) (m : mg "_law_chance" = some (.ref f))
    {f_u_law_take : Addr} {fd_u_law_take : FuncData} (c_u_law_take : Cal P w K mg base "_law_take" 2 f_u_law_take fd_u_law_take ["store", "many"] [] g_u_law_take) :
    Cal P w K mg base "_law_chance" (2 + 1) f fd ["store", "share"] [] (g_u_law_chance) := by
  refine ok_c F m (kw_of F fun _ _ _ _ _ _ us ws h1 h2 => match us, ws, h1, h2 with | [_, _], [], _, _ => rfl) sc_u_law_chance (by decide) fun cdv A outer sh H E hr hg tk hp => ?_
  exact ds_one (ds_ret (x_eq (x_call c_u_law_take hr (by decide) hg rfl tk rfl (da_cons (dv 0) (da_cons (dv 1) (da_nil))) (al_cons (al_cons (al_nil))) rfl) (de_int)))
theorem sc_u_law_pick : FnScope ["store", "things"] ["store", "things"] (defScope (top 45)) := ⟨rfl, rfl, rfl, by decide +kernel, rfl, by decide +kernel, by decide +kernel⟩
def s_u_law_pick : Rho → SR := sRt (eOp ixD (eVar 1) (eCall g_u_law_take [] (aCons (eVar 0) (aCons (eFz (eCB lenD (aCons (eVar 1) (aNil)))) (aNil)))))
def g_u_law_pick : Rho → R Vl := bodyR 2 s_u_law_pick
theorem ok_u_law_pick {P : Program} {w : World} {K : PySem.W.Frag} {mg : Str → Option Value} {base : Heap} {f : Addr} {fd : FuncData} (F : FunD K "_law_pick" "_law_pick" (defArgs (top 45)) (defBody (top 45)) (defScope (top 45)) [] [] f fd) (m : mg "_law_pick" = some (.ref f))
    {f_u_law_take : Addr} {fd_u_law_take : FuncData} (c_u_law_take : Cal P w K mg base "_law_take" 2 f_u_law_take fd_u_law_take ["store", "many"] [] g_u_law_take)
    (h_len : mg "len" = none) :
    Cal P w K mg base "_law_pick" (2 + 1) f fd ["store", "things"] [] (g_u_law_pick) := by
  refine ok_c F m (kw_of F fun _ _ _ _ _ _ us ws h1 h2 => match us, ws, h1, h2 with | [_, _], [], _, _ => rfl) sc_u_law_pick (by decide) fun cdv A outer sh H E hr hg tk hp => ?_
  exact ds_one (ds_ret (de_ix (dv 1) (x_call c_u_law_take hr (by decide) hg rfl tk rfl (da_cons (dv 0) (da_cons (de_fz (de_cb cr_lenQ so_len rfl h_len (by first | rfl | kernel_rfl) (da_cons (dv 1) (da_nil)))) (da_nil))) (al_cons (al_cons (al_nil))) rfl)))
theorem sc_u_law_order : FnScope ["store", "count", "order", "at", "other", "kept"] ["store", "count"] (defScope (top 46)) := ⟨rfl, rfl, rfl, by decide +kernel, rfl, by decide +kernel, by decide +kernel⟩
def s_u_law_order : Rho → SR := sSeq (sSet 2 (eLr (iR1 (eVar 1)))) (sSeq (sFor (iR1 (eOp subD (eVar 1) (eC (.int 1)))) (gNm 3) (sSeq (sSet 4 (eOp addD (eVar 3) (eCall g_u_law_take [] (aCons (eVar 0) (aCons (eOp subD (eVar 1) (eVar 3)) (aNil)))))) (sSeq (sSet 5 (eOp ixD (eVar 2) (eVar 3))) (sSeq (sSx 2 (eVar 3) (eFz (eOp ixD (eVar 2) (eVar 4)))) (sSx 2 (eVar 4) (eFz (eVar 5))))))) (sRt (eVar 2)))
def g_u_law_order : Rho → R Vl := bodyR 6 s_u_law_order
theorem ok_u_law_order {P : Program} {w : World} {K : PySem.W.Frag} {mg : Str → Option Value} {base : Heap} {f : Addr} {fd : FuncData} (F : FunD K "_law_order" "_law_order" (defArgs (top 46)) (defBody (top 46)) (defScope (top 46)) [] [] f fd) (m : mg "_law_order" = some (.ref f))
    {f_u_law_take : Addr} {fd_u_law_take : FuncData} (c_u_law_take : Cal P w K mg base "_law_take" 2 f_u_law_take fd_u_law_take ["store", "many"] [] g_u_law_take)
    (h_list : mg "list" = none)
    (h_range : mg "range" = none) :
    Cal P w K mg base "_law_order" (2 + 1) f fd ["store", "count"] [] (g_u_law_order) := by
  refine ok_c F m (kw_of F fun _ _ _ _ _ _ us ws h1 h2 => match us, ws, h1, h2 with | [_, _], [], _, _ => rfl) sc_u_law_order (by decide) fun cdv A outer sh H E hr hg tk hp => ?_
  exact ds_cons (ds_set (i := 2) sc_u_law_order.nd rfl (by first | exact Or.inl rfl | exact Or.inr rfl) (de_lr1 rfl rfl h_list rfl h_range (dv 1))) (ds_cons (ds_for hp rfl (di_r1 rfl h_range (x_sub (dv 1) (de_int))) (dg_name (i := 3) sc_u_law_order.nd rfl (by first | exact Or.inl rfl | exact Or.inr rfl)) (ds_cons (ds_set (i := 4) sc_u_law_order.nd rfl (by first | exact Or.inl rfl | exact Or.inr rfl) (x_add (dv 3) (x_call c_u_law_take hr (by decide) hg rfl tk rfl (da_cons (dv 0) (da_cons (x_sub (dv 1) (dv 3)) (da_nil))) (al_cons (al_cons (al_nil))) rfl))) (ds_cons (ds_set (i := 5) sc_u_law_order.nd rfl (by first | exact Or.inl rfl | exact Or.inr rfl) (de_ix (dv 2) (dv 3))) (ds_cons (ds_sx (pe_var (i := 2) rfl (by first | exact Or.inl rfl | exact Or.inr (Or.inl rfl) | exact Or.inr (Or.inr rfl))) (dv 3) (de_fz (de_ix (dv 2) (dv 4)))) (ds_one (ds_sx (pe_var (i := 2) rfl (by first | exact Or.inl rfl | exact Or.inr (Or.inl rfl) | exact Or.inr (Or.inr rfl))) (dv 4) (de_fz (dv 5)))))))) (ds_one (ds_ret (dv 2))))
theorem sc_u_law_any_number : FnScope ["store", "way", "edges", "number", "at"] ["store"] (defScope (top 47)) := ⟨rfl, rfl, rfl, by decide +kernel, rfl, by decide +kernel, by decide +kernel⟩
def s_u_law_any_number : Rho → SR := sSeq (sSet 1 (eCall g_u_law_take [] (aCons (eVar 0) (aCons (eC (.int 3)) (aNil))))) (sSeq (sIf (tV (eOp eqD (eVar 1) (eC (.int 0)))) (sSeq (sSet 2 (eLst (aCons (eC (.int 0)) (aCons (eC (.int 1)) (aCons (eUn negD (eC (.int 1))) (aCons (eC (.int 2)) (aCons (eUn negD (eC (.int 2))) (aCons (eC (.int 7)) (aCons (eC (.int 59)) (aCons (eC (.int 60)) (aCons (eC (.int 61)) (aCons (eC (.int 255)) (aCons (eC (.int 256)) (aCons (eC (.int 257)) (aCons (eC (.int 2147483647)) (aCons (eC (.int 2147483648)) (aCons (eOp powD (eC (.int 10)) (eC (.int 18))) (aNil)))))))))))))))))) (sRt (eCall g_u_law_pick [] (aCons (eVar 0) (aCons (eFz (eOp addD (eVar 2) (eLst (aCons (eOp powD (eC (.int 10)) (eC (.int 29))) (aCons (eOp subD (eOp powD (eC (.int 10)) (eC (.int 30))) (eC (.int 1))) (aCons (eOp subD (eC (.int 1)) (eOp powD (eC (.int 10)) (eC (.int 30)))) (aCons (eUn negD (eC (.int 2147483648))) (aNil)))))))) (aNil)))))) (sNx)) (sSeq (sIf (tV (eOp eqD (eVar 1) (eC (.int 1)))) (sRt (eCall g_u_law_between [] (aCons (eVar 0) (aCons (eUn negD (eC (.int 100))) (aCons (eC (.int 1000)) (aNil)))))) (sNx)) (sSeq (sSet 3 (eC (.int 0))) (sSeq (sFor (iR1 (eC (.int 5))) (gNm 4) (sSet 3 (eOp addD (eOp mulD (eVar 3) (eC (.int 1000000))) (eCall g_u_law_take [] (aCons (eVar 0) (aCons (eC (.int 1000000)) (aNil))))))) (sSeq (sIf (tV (eCall g_u_law_chance [] (aCons (eVar 0) (aCons (eC (.int 2)) (aNil))))) (sRt (eUn negD (eVar 3))) (sNx)) (sRt (eVar 3)))))))
def g_u_law_any_number : Rho → R Vl := bodyR 5 s_u_law_any_number
theorem ok_u_law_any_number {P : Program} {w : World} {K : PySem.W.Frag} {mg : Str → Option Value} {base : Heap} {f : Addr} {fd : FuncData} (F : FunD K "_law_any_number" "_law_any_number" (defArgs (top 47)) (defBody (top 47)) (defScope (top 47)) [] [] f fd) (m : mg "_law_any_number" = some (.ref f))
    {f_u_law_between : Addr} {fd_u_law_between : FuncData} (c_u_law_between : Cal P w K mg base "_law_between" 3 f_u_law_between fd_u_law_between ["store", "low", "high"] [] g_u_law_between)
    {f_u_law_chance : Addr} {fd_u_law_chance : FuncData} (c_u_law_chance : Cal P w K mg base "_law_chance" 3 f_u_law_chance fd_u_law_chance ["store", "share"] [] g_u_law_chance)
    {f_u_law_pick : Addr} {fd_u_law_pick : FuncData} (c_u_law_pick : Cal P w K mg base "_law_pick" 3 f_u_law_pick fd_u_law_pick ["store", "things"] [] g_u_law_pick)
    {f_u_law_take : Addr} {fd_u_law_take : FuncData} (c_u_law_take : Cal P w K mg base "_law_take" 2 f_u_law_take fd_u_law_take ["store", "many"] [] g_u_law_take)
    (h_range : mg "range" = none) :
    Cal P w K mg base "_law_any_number" (3 + 1) f fd ["store"] [] (g_u_law_any_number) := by
  refine ok_c F m (kw_of F fun _ _ _ _ _ _ us ws h1 h2 => match us, ws, h1, h2 with | [_], [], _, _ => rfl) sc_u_law_any_number (by decide) fun cdv A outer sh H E hr hg tk hp => ?_
  exact ds_cons (ds_set (i := 1) sc_u_law_any_number.nd rfl (by first | exact Or.inl rfl | exact Or.inr rfl) (x_call c_u_law_take hr (by decide) hg rfl tk rfl (da_cons (dv 0) (da_cons (de_int) (da_nil))) (al_cons (al_cons (al_nil))) rfl)) (ds_cons (ds_if (y_eq (dv 1) (de_int)) (ds_cons (ds_set (i := 2) sc_u_law_any_number.nd rfl (by first | exact Or.inl rfl | exact Or.inr rfl) (de_lst (da_cons (de_int) (da_cons (de_int) (da_cons (x_neg (de_int)) (da_cons (de_int) (da_cons (x_neg (de_int)) (da_cons (de_int) (da_cons (de_int) (da_cons (de_int) (da_cons (de_int) (da_cons (de_int) (da_cons (de_int) (da_cons (de_int) (da_cons (de_int) (da_cons (de_int) (da_cons (x_pow (de_int) (de_int)) (da_nil)))))))))))))))))) (ds_one (ds_ret (x_call c_u_law_pick hr (by decide) hg rfl tk rfl (da_cons (dv 0) (da_cons (de_fz (x_add (dv 2) (de_lst (da_cons (x_pow (de_int) (de_int)) (da_cons (x_sub (x_pow (de_int) (de_int)) (de_int)) (da_cons (x_sub (de_int) (x_pow (de_int) (de_int))) (da_cons (x_neg (de_int)) (da_nil)))))))) (da_nil))) (al_cons (al_cons (al_nil))) rfl)))) (ds_nil)) (ds_cons (ds_if (y_eq (dv 1) (de_int)) (ds_one (ds_ret (x_call c_u_law_between hr (by decide) hg rfl tk rfl (da_cons (dv 0) (da_cons (x_neg (de_int)) (da_cons (de_int) (da_nil)))) (al_cons (al_cons (al_cons (al_nil)))) rfl))) (ds_nil)) (ds_cons (ds_set (i := 3) sc_u_law_any_number.nd rfl (by first | exact Or.inl rfl | exact Or.inr rfl) (de_int)) (ds_cons (ds_for hp rfl (di_r1 rfl h_range (de_int)) (dg_name (i := 4) sc_u_law_any_number.nd rfl (by first | exact Or.inl rfl | exact Or.inr rfl)) (ds_one (ds_set (i := 3) sc_u_law_any_number.nd rfl (by first | exact Or.inl rfl | exact Or.inr rfl) (x_add (x_mul (dv 3) (de_int)) (x_call c_u_law_take hr (by decide) hg rfl tk rfl (da_cons (dv 0) (da_cons (de_int) (da_nil))) (al_cons (al_cons (al_nil))) rfl))))) (ds_cons (ds_if (dt_val (x_call c_u_law_chance hr (by decide) hg rfl tk rfl (da_cons (dv 0) (da_cons (de_int) (da_nil))) (al_cons (al_cons (al_nil))) rfl)) (ds_one (ds_ret (x_neg (dv 3)))) (ds_nil)) (ds_one (ds_ret (dv 3))))))))
theorem sc_u_law_numbers : FnScope ["store", "n", "room", "lying", "away"] ["store", "n"] (defScope (top 48)) := ⟨rfl, rfl, rfl, by decide +kernel, rfl, by decide +kernel, by decide +kernel⟩
def s_u_law_numbers : Rho → SR := sSeq (sSet 2 (eOp subD (eVar 1) (eC (.int 2)))) (sSeq (sSet 3 (eCall g_u_law_take [] (aCons (eVar 0) (aCons (eOp addD (eOp fdivD (eVar 2) (eC (.int 2))) (eC (.int 1))) (aNil))))) (sSeq (sIf (tV (eCall g_u_law_chance [] (aCons (eVar 0) (aCons (eC (.int 2)) (aNil))))) (sSet 3 (eCB minD (aCons (eVar 3) (aCons (eCall g_u_law_take [] (aCons (eVar 0) (aCons (eC (.int 2)) (aNil)))) (aNil))))) (sNx)) (sSeq (sSet 2 (eOp subD (eVar 2) (eOp mulD (eC (.int 2)) (eVar 3)))) (sSeq (sSet 4 (eCall g_u_law_take [] (aCons (eVar 0) (aCons (eOp addD (eVar 2) (eC (.int 1))) (aNil))))) (sSeq (sIf (tV (eCall g_u_law_chance [] (aCons (eVar 0) (aCons (eC (.int 2)) (aNil))))) (sSet 4 (eCB minD (aCons (eVar 4) (aCons (eCall g_u_law_take [] (aCons (eVar 0) (aCons (eC (.int 3)) (aNil)))) (aNil))))) (sNx)) (sSeq (sIf (tV (eCall g_u_law_chance [] (aCons (eVar 0) (aCons (eC (.int 6)) (aNil))))) (sSet 4 (eVar 2)) (sNx)) (sRt (eLst (aCons (eFz (eVar 4)) (aCons (eFz (eVar 3)) (aCons (eFz (eCall g_u_law_take [] (aCons (eVar 0) (aCons (eOp addD (eVar 4) (eC (.int 1))) (aNil))))) (aCons (eFz (eCall g_u_law_take [] (aCons (eVar 0) (aCons (eOp addD (eVar 3) (eC (.int 1))) (aNil))))) (aNil)))))))))))))
def g_u_law_numbers : Rho → R Vl := bodyR 5 s_u_law_numbers
theorem ok_u_law_numbers {P : Program} {w : World} {K : PySem.W.Frag} {mg : Str → Option Value} {base : Heap} {f : Addr} {fd : FuncData} (F : FunD K "_law_numbers" "_law_numbers" (defArgs (top 48)) (defBody (top 48)) (defScope (top 48)) [] [] f fd) (m : mg "_law_numbers" = some (.ref f))
    {f_u_law_chance : Addr} {fd_u_law_chance : FuncData} (c_u_law_chance : Cal P w K mg base "_law_chance" 3 f_u_law_chance fd_u_law_chance ["store", "share"] [] g_u_law_chance)
    {f_u_law_take : Addr} {fd_u_law_take : FuncData} (c_u_law_take : Cal P w K mg base "_law_take" 2 f_u_law_take fd_u_law_take ["store", "many"] [] g_u_law_take)
    (h_min : mg "min" = none) :
    Cal P w K mg base "_law_numbers" (3 + 1) f fd ["store", "n"] [] (g_u_law_numbers) := by
  refine ok_c F m (kw_of F fun _ _ _ _ _ _ us ws h1 h2 => match us, ws, h1, h2 with | [_, _], [], _, _ => rfl) sc_u_law_numbers (by decide) fun cdv A outer sh H E hr hg tk hp => ?_
  exact ds_cons (ds_set (i := 2) sc_u_law_numbers.nd rfl (by first | exact Or.inl rfl | exact Or.inr rfl) (x_sub (dv 1) (de_int))) (ds_cons (ds_set (i := 3) sc_u_law_numbers.nd rfl (by first | exact Or.inl rfl | exact Or.inr rfl) (x_call c_u_law_take hr (by decide) hg rfl tk rfl (da_cons (dv 0) (da_cons (x_add (x_fdiv (dv 2) (de_int)) (de_int)) (da_nil))) (al_cons (al_cons (al_nil))) rfl)) (ds_cons (ds_if (dt_val (x_call c_u_law_chance hr (by decide) hg rfl tk rfl (da_cons (dv 0) (da_cons (de_int) (da_nil))) (al_cons (al_cons (al_nil))) rfl)) (ds_one (ds_set (i := 3) sc_u_law_numbers.nd rfl (by first | exact Or.inl rfl | exact Or.inr rfl) (de_cb (cr_minQ rfl) so_min rfl h_min (by first | rfl | kernel_rfl) (da_cons (dv 3) (da_cons (x_call c_u_law_take hr (by decide) hg rfl tk rfl (da_cons (dv 0) (da_cons (de_int) (da_nil))) (al_cons (al_cons (al_nil))) rfl) (da_nil)))))) (ds_nil)) (ds_cons (ds_set (i := 2) sc_u_law_numbers.nd rfl (by first | exact Or.inl rfl | exact Or.inr rfl) (x_sub (dv 2) (x_mul (de_int) (dv 3)))) (ds_cons (ds_set (i := 4) sc_u_law_numbers.nd rfl (by first | exact Or.inl rfl | exact Or.inr rfl) (x_call c_u_law_take hr (by decide) hg rfl tk rfl (da_cons (dv 0) (da_cons (x_add (dv 2) (de_int)) (da_nil))) (al_cons (al_cons (al_nil))) rfl)) (ds_cons (ds_if (dt_val (x_call c_u_law_chance hr (by decide) hg rfl tk rfl (da_cons (dv 0) (da_cons (de_int) (da_nil))) (al_cons (al_cons (al_nil))) rfl)) (ds_one (ds_set (i := 4) sc_u_law_numbers.nd rfl (by first | exact Or.inl rfl | exact Or.inr rfl) (de_cb (cr_minQ rfl) so_min rfl h_min (by first | rfl | kernel_rfl) (da_cons (dv 4) (da_cons (x_call c_u_law_take hr (by decide) hg rfl tk rfl (da_cons (dv 0) (da_cons (de_int) (da_nil))) (al_cons (al_cons (al_nil))) rfl) (da_nil)))))) (ds_nil)) (ds_cons (ds_if (dt_val (x_call c_u_law_chance hr (by decide) hg rfl tk rfl (da_cons (dv 0) (da_cons (de_int) (da_nil))) (al_cons (al_cons (al_nil))) rfl)) (ds_one (ds_set (i := 4) sc_u_law_numbers.nd rfl (by first | exact Or.inl rfl | exact Or.inr rfl) (dv 2))) (ds_nil)) (ds_one (ds_ret (de_lst (da_cons (de_fz (dv 4)) (da_cons (de_fz (dv 3)) (da_cons (de_fz (x_call c_u_law_take hr (by decide) hg rfl tk rfl (da_cons (dv 0) (da_cons (x_add (dv 4) (de_int)) (da_nil))) (al_cons (al_cons (al_nil))) rfl)) (da_cons (de_fz (x_call c_u_law_take hr (by decide) hg rfl tk rfl (da_cons (dv 0) (da_cons (x_add (dv 3) (de_int)) (da_nil))) (al_cons (al_cons (al_nil))) rfl)) (da_nil))))))))))))))
theorem sc_u_law_all_profiles : FnScope ["n", "m", "found", "value", "longer", "counts", "count"] ["n", "m"] (defScope (top 49)) := ⟨rfl, rfl, rfl, by decide +kernel, rfl, by decide +kernel, by decide +kernel⟩
def s_u_law_all_profiles : Rho → SR := sSeq (sSet 2 (eLst (aCons (eTup (aNil)) (aNil)))) (sSeq (sFor (iR1 (eOp subD (eVar 1) (eC (.int 1)))) (gNm 3) (sSeq (sSet 4 (eLst (aNil))) (sSeq (sFor (iSq (eVar 2)) (gNm 5) (sFor (iR1 (eOp addD (eOp subD (eVar 0) (eCB sumD (aCons (eVar 5) (aNil)))) (eC (.int 1)))) (gNm 6) (sEx (eApp 4 (eOp addD (eVar 5) (eTup (aCons (eFz (eVar 6)) (aNil)))))))) (sSet 2 (eCB listD (aCons (eVar 4) (aNil))))))) (sRt (eLc (iSq (eVar 2)) (gNm 5) (tYe) (eOp addD (eVar 5) (eTup (aCons (eOp subD (eVar 0) (eCB sumD (aCons (eVar 5) (aNil)))) (aNil)))) [5])))
def g_u_law_all_profiles : Rho → R Vl := bodyR 7 s_u_law_all_profiles
theorem ok_u_law_all_profiles {P : Program} {w : World} {K : PySem.W.Frag} {mg : Str → Option Value} {base : Heap} {f : Addr} {fd : FuncData} (F : FunD K "_law_all_profiles" "_law_all_profiles" (defArgs (top 49)) (defBody (top 49)) (defScope (top 49)) [] [] f fd) (m : mg "_law_all_profiles" = some (.ref f))
    (h_list : mg "list" = none)
    (h_range : mg "range" = none)
    (h_sum : mg "sum" = none) :
    Cal P w K mg base "_law_all_profiles" (0 + 1) f fd ["n", "m"] [] (g_u_law_all_profiles) := by
  refine ok_c F m (kw_of F fun _ _ _ _ _ _ us ws h1 h2 => match us, ws, h1, h2 with | [_, _], [], _, _ => rfl) sc_u_law_all_profiles (by decide) fun cdv A outer sh H E hr hg tk hp => ?_
  exact ds_cons (ds_set (i := 2) sc_u_law_all_profiles.nd rfl (by first | exact Or.inl rfl | exact Or.inr rfl) (de_lst (da_cons (de_tup (da_nil)) (da_nil)))) (ds_cons (ds_for hp rfl (di_r1 rfl h_range (x_sub (dv 1) (de_int))) (dg_name (i := 3) sc_u_law_all_profiles.nd rfl (by first | exact Or.inl rfl | exact Or.inr rfl)) (ds_cons (ds_set (i := 4) sc_u_law_all_profiles.nd rfl (by first | exact Or.inl rfl | exact Or.inr rfl) (de_lst (da_nil))) (ds_cons (ds_for hp rfl (di_sq (dv 2)) (dg_name (i := 5) sc_u_law_all_profiles.nd rfl (by first | exact Or.inl rfl | exact Or.inr rfl)) (ds_one (ds_for hp rfl (di_r1 rfl h_range (x_add (x_sub (dv 0) (de_cb (cr_sumQ rfl) so_sum rfl h_sum (by first | rfl | kernel_rfl) (da_cons (dv 5) (da_nil)))) (de_int))) (dg_name (i := 6) sc_u_law_all_profiles.nd rfl (by first | exact Or.inl rfl | exact Or.inr rfl)) (ds_one (ds_expr (de_app (pe_var (i := 4) rfl (by first | exact Or.inl rfl | exact Or.inr (Or.inl rfl) | exact Or.inr (Or.inr rfl))) (x_add (dv 5) (de_tup (da_cons (de_fz (dv 6)) (da_nil)))))))))) (ds_one (ds_set (i := 2) sc_u_law_all_profiles.nd rfl (by first | exact Or.inl rfl | exact Or.inr rfl) (de_ct call_list_of so_list rfl h_list (by first | rfl | kernel_rfl) (da_cons (dv 4) (da_nil)))))))) (ds_one (ds_ret (de_lc rfl sc_u_law_all_profiles.nd (own := [("counts", 5)]) (is := [5]) (di_sq (dv 2)) (blk_ok (by first | rfl | kernel_rfl)) (gName 5) sto_name (by decide) (fun _ _ _ _ _ => pg_name (i := 5) sc_u_law_all_profiles.nd rfl (by first | exact Or.inl rfl | exact Or.inr rfl) (by first | exact Or.inl rfl | exact Or.inr rfl)) (fun _ _ _ _ _ => dts_nil) (fun _ _ _ _ _ => x_add (dv 5) (de_tup (da_cons (x_sub (dv 0) (de_cb (cr_sumQ rfl) so_sum rfl h_sum (by first | rfl | kernel_rfl) (da_cons (dv 5) (da_nil)))) (da_nil))))))))
theorem sc_u_law_profile_count : FnScope ["n", "m", "many", "step"] ["n", "m"] (defScope (top 50)) := ⟨rfl, rfl, rfl, by decide +kernel, rfl, by decide +kernel, by decide +kernel⟩
def s_u_law_profile_count : Rho → SR := sSeq (sSet 2 (eC (.int 1))) (sSeq (sFor (iR1 (eOp subD (eVar 1) (eC (.int 1)))) (gNm 3) (sSet 2 (eOp fdivD (eOp mulD (eVar 2) (eOp addD (eOp addD (eVar 0) (eVar 3)) (eC (.int 1)))) (eOp addD (eVar 3) (eC (.int 1)))))) (sRt (eVar 2)))
def g_u_law_profile_count : Rho → R Vl := bodyR 4 s_u_law_profile_count
theorem ok_u_law_profile_count {P : Program} {w : World} {K : PySem.W.Frag} {mg : Str → Option Value} {base : Heap} {f : Addr} {fd : FuncData} (F : FunD K "_law_profile_count" "_law_profile_count" (defArgs (top 50)) (defBody (top 50)) (defScope (top 50)) [] [] f fd) (m : mg "_law_profile_count" = some (.ref f))
    (h_range : mg "range" = none) :
    Cal P w K mg base "_law_profile_count" (0 + 1) f fd ["n", "m"] [] (g_u_law_profile_count) := by
  refine ok_c F m (kw_of F fun _ _ _ _ _ _ us ws h1 h2 => match us, ws, h1, h2 with | [_, _], [], _, _ => rfl) sc_u_law_profile_count (by decide) fun cdv A outer sh H E hr hg tk hp => ?_
  exact ds_cons (ds_set (i := 2) sc_u_law_profile_count.nd rfl (by first | exact Or.inl rfl | exact Or.inr rfl) (de_int)) (ds_cons (ds_for hp rfl (di_r1 rfl h_range (x_sub (dv 1) (de_int))) (dg_name (i := 3) sc_u_law_profile_count.nd rfl (by first | exact Or.inl rfl | exact Or.inr rfl)) (ds_one (ds_set (i := 2) sc_u_law_profile_count.nd rfl (by first | exact Or.inl rfl | exact Or.inr rfl) (x_fdiv (x_mul (dv 2) (x_add (x_add (dv 0) (dv 3)) (de_int))) (x_add (dv 3) (de_int)))))) (ds_one (ds_ret (dv 2))))
theorem sc_u_law_size : FnScope ["store", "way"] ["store"] (defScope (top 51)) := ⟨rfl, rfl, rfl, by decide +kernel, rfl, by decide +kernel, by decide +kernel⟩
def s_u_law_size : Rho → SR := sSeq (sSet 1 (eCall g_u_law_take [] (aCons (eVar 0) (aCons (eC (.int 4)) (aNil))))) (sSeq (sIf (tV (eOp eqD (eVar 1) (eC (.int 0)))) (sRt (eCall g_u_law_pick [] (aCons (eVar 0) (aCons (eFz (eLst (aCons (eTup (aCons (eC (.int 60)) (aCons (eC (.int 1)) (aNil)))) (aCons (eTup (aCons (eC (.int 60)) (aCons (eC (.int 2)) (aNil)))) (aCons (eTup (aCons (eC (.int 26)) (aCons (eC (.int 3)) (aNil)))) (aCons (eTup (aCons (eC (.int 27)) (aCons (eC (.int 3)) (aNil)))) (aCons (eTup (aCons (eC (.int 11)) (aCons (eC (.int 4)) (aNil)))) (aCons (eTup (aCons (eC (.int 12)) (aCons (eC (.int 4)) (aNil)))) (aCons (eTup (aCons (eC (.int 60)) (aCons (eC (.int 4)) (aNil)))) (aCons (eTup (aCons (eC (.int 1)) (aCons (eC (.int 4)) (aNil)))) (aCons (eTup (aCons (eC (.int 1)) (aCons (eC (.int 1)) (aNil)))) (aNil)))))))))))) (aNil))))) (sNx)) (sSeq (sIf (tV (eOp eqD (eVar 1) (eC (.int 1)))) (sRt (eTup (aCons (eOp addD (eC (.int 1)) (eCall g_u_law_take [] (aCons (eVar 0) (aCons (eC (.int 60)) (aNil))))) (aCons (eOp addD (eC (.int 1)) (eCall g_u_law_take [] (aCons (eVar 0) (aCons (eC (.int 4)) (aNil))))) (aNil))))) (sNx)) (sRt (eTup (aCons (eOp addD (eC (.int 1)) (eCall g_u_law_take [] (aCons (eVar 0) (aCons (eC (.int 8)) (aNil))))) (aCons (eOp addD (eC (.int 1)) (eCall g_u_law_take [] (aCons (eVar 0) (aCons (eC (.int 4)) (aNil))))) (aNil)))))))
def g_u_law_size : Rho → R Vl := bodyR 2 s_u_law_size
theorem ok_u_law_size {P : Program} {w : World} {K : PySem.W.Frag} {mg : Str → Option Value} {base : Heap} {f : Addr} {fd : FuncData} (F : FunD K "_law_size" "_law_size" (defArgs (top 51)) (defBody (top 51)) (defScope (top 51)) [] [] f fd) (m : mg "_law_size" = some (.ref f))
    {f_u_law_pick : Addr} {fd_u_law_pick : FuncData} (c_u_law_pick : Cal P w K mg base "_law_pick" 3 f_u_law_pick fd_u_law_pick ["store", "things"] [] g_u_law_pick)
    {f_u_law_take : Addr} {fd_u_law_take : FuncData} (c_u_law_take : Cal P w K mg base "_law_take" 2 f_u_law_take fd_u_law_take ["store", "many"] [] g_u_law_take) :
    Cal P w K mg base "_law_size" (3 + 1) f fd ["store"] [] (g_u_law_size) := by
  refine ok_c F m (kw_of F fun _ _ _ _ _ _ us ws h1 h2 => match us, ws, h1, h2 with | [_], [], _, _ => rfl) sc_u_law_size (by decide) fun cdv A outer sh H E hr hg tk hp => ?_
  exact ds_cons (ds_set (i := 1) sc_u_law_size.nd rfl (by first | exact Or.inl rfl | exact Or.inr rfl) (x_call c_u_law_take hr (by decide) hg rfl tk rfl (da_cons (dv 0) (da_cons (de_int) (da_nil))) (al_cons (al_cons (al_nil))) rfl)) (ds_cons (ds_if (y_eq (dv 1) (de_int)) (ds_one (ds_ret (x_call c_u_law_pick hr (by decide) hg rfl tk rfl (da_cons (dv 0) (da_cons (de_fz (de_lst (da_cons (de_tup (da_cons (de_int) (da_cons (de_int) (da_nil)))) (da_cons (de_tup (da_cons (de_int) (da_cons (de_int) (da_nil)))) (da_cons (de_tup (da_cons (de_int) (da_cons (de_int) (da_nil)))) (da_cons (de_tup (da_cons (de_int) (da_cons (de_int) (da_nil)))) (da_cons (de_tup (da_cons (de_int) (da_cons (de_int) (da_nil)))) (da_cons (de_tup (da_cons (de_int) (da_cons (de_int) (da_nil)))) (da_cons (de_tup (da_cons (de_int) (da_cons (de_int) (da_nil)))) (da_cons (de_tup (da_cons (de_int) (da_cons (de_int) (da_nil)))) (da_cons (de_tup (da_cons (de_int) (da_cons (de_int) (da_nil)))) (da_nil)))))))))))) (da_nil))) (al_cons (al_cons (al_nil))) rfl))) (ds_nil)) (ds_cons (ds_if (y_eq (dv 1) (de_int)) (ds_one (ds_ret (de_tup (da_cons (x_add (de_int) (x_call c_u_law_take hr (by decide) hg rfl tk rfl (da_cons (dv 0) (da_cons (de_int) (da_nil))) (al_cons (al_cons (al_nil))) rfl)) (da_cons (x_add (de_int) (x_call c_u_law_take hr (by decide) hg rfl tk rfl (da_cons (dv 0) (da_cons (de_int) (da_nil))) (al_cons (al_cons (al_nil))) rfl)) (da_nil)))))) (ds_nil)) (ds_one (ds_ret (de_tup (da_cons (x_add (de_int) (x_call c_u_law_take hr (by decide) hg rfl tk rfl (da_cons (dv 0) (da_cons (de_int) (da_nil))) (al_cons (al_cons (al_nil))) rfl)) (da_cons (x_add (de_int) (x_call c_u_law_take hr (by decide) hg rfl tk rfl (da_cons (dv 0) (da_cons (de_int) (da_nil))) (al_cons (al_cons (al_nil))) rfl)) (da_nil))))))))
theorem sc_u_law_level : FnScope ["store", "n"] ["store", "n"] (defScope (top 52)) := ⟨rfl, rfl, rfl, by decide +kernel, rfl, by decide +kernel, by decide +kernel⟩
def s_u_law_level : Rho → SR := sSeq (sIf (tV (eCall g_u_law_chance [] (aCons (eVar 0) (aCons (eC (.int 4)) (aNil))))) (sRt (eCall g_u_law_any_number [] (aCons (eVar 0) (aNil)))) (sNx)) (sRt (eCall g_u_law_between [] (aCons (eVar 0) (aCons (eUn negD (eC (.int 1))) (aCons (eOp addD (eVar 1) (eC (.int 2))) (aNil))))))
def g_u_law_level : Rho → R Vl := bodyR 2 s_u_law_level
theorem ok_u_law_level {P : Program} {w : World} {K : PySem.W.Frag} {mg : Str → Option Value} {base : Heap} {f : Addr} {fd : FuncData} (F : FunD K "_law_level" "_law_level" (defArgs (top 52)) (defBody (top 52)) (defScope (top 52)) [] [] f fd) (m : mg "_law_level" = some (.ref f))
    {f_u_law_any_number : Addr} {fd_u_law_any_number : FuncData} (c_u_law_any_number : Cal P w K mg base "_law_any_number" 4 f_u_law_any_number fd_u_law_any_number ["store"] [] g_u_law_any_number)
    {f_u_law_between : Addr} {fd_u_law_between : FuncData} (c_u_law_between : Cal P w K mg base "_law_between" 3 f_u_law_between fd_u_law_between ["store", "low", "high"] [] g_u_law_between)
    {f_u_law_chance : Addr} {fd_u_law_chance : FuncData} (c_u_law_chance : Cal P w K mg base "_law_chance" 3 f_u_law_chance fd_u_law_chance ["store", "share"] [] g_u_law_chance) :
    Cal P w K mg base "_law_level" (4 + 1) f fd ["store", "n"] [] (g_u_law_level) := by
  refine ok_c F m (kw_of F fun _ _ _ _ _ _ us ws h1 h2 => match us, ws, h1, h2 with | [_, _], [], _, _ => rfl) sc_u_law_level (by decide) fun cdv A outer sh H E hr hg tk hp => ?_
  exact ds_cons (ds_if (dt_val (x_call c_u_law_chance hr (by decide) hg rfl tk rfl (da_cons (dv 0) (da_cons (de_int) (da_nil))) (al_cons (al_cons (al_nil))) rfl)) (ds_one (ds_ret (x_call c_u_law_any_number hr (by decide) hg rfl tk rfl (da_cons (dv 0) (da_nil)) (al_cons (al_nil)) rfl))) (ds_nil)) (ds_one (ds_ret (x_call c_u_law_between hr (by decide) hg rfl tk rfl (da_cons (dv 0) (da_cons (x_neg (de_int)) (da_cons (x_add (dv 1) (de_int)) (da_nil)))) (al_cons (al_cons (al_cons (al_nil)))) rfl)))
theorem sc_u_law_told : FnScope ["way", "n", "m", "value", "level", "e"] ["way", "n", "m", "value", "level"] (defScope (top 53)) := ⟨rfl, rfl, rfl, by decide +kernel, rfl, by decide +kernel, by decide +kernel⟩
def s_u_law_told : Rho → SR := sTry CL (sSeq (sIf (tV (eOp eqD (eVar 0) (eC (.int 0)))) (sRt (eCall g_at_least [] (aCons (eVar 1) (aCons (eVar 2) (aCons (eVar 4) (aNil)))))) (sNx)) (sSeq (sIf (tV (eOp eqD (eVar 0) (eC (.int 1)))) (sRt (eCall g_profiles_where [] (aCons (eTup (aCons (eC (.str "most")) (aCons (eC (.str ">=")) (aCons (eFz (eVar 4)) (aNil))))) (aCons (eVar 1) (aCons (eVar 2) (aNil)))))) (sNx)) (sSeq (sIf (tV (eOp eqD (eVar 0) (eC (.int 2)))) (sRt (eCall g_preferred [] (aCons (eVar 1) (aCons (eVar 2) (aCons (eVar 3) (aCons (eVar 4) (aNil))))))) (sNx)) (sSeq (sIf (tV (eOp eqD (eVar 0) (eC (.int 3)))) (sRt (eCall g_profiles_where [] (aCons (eTup (aCons (eC (.str "count")) (aCons (eFz (eVar 3)) (aCons (eC (.str ">=")) (aCons (eFz (eVar 4)) (aNil)))))) (aCons (eVar 1) (aCons (eVar 2) (aNil)))))) (sNx)) (sSeq (sIf (tV (eOp eqD (eVar 0) (eC (.int 4)))) (sRt (eCall g_profiles_where [] (aCons (eTup (aCons (eC (.str "not")) (aCons (eTup (aCons (eC (.str "most")) (aCons (eC (.str "<=")) (aCons (eFz (eVar 4)) (aNil))))) (aNil)))) (aCons (eVar 1) (aCons (eVar 2) (aNil)))))) (sNx)) (sRt (eCall g_all_profiles [] (aCons (eVar 1) (aCons (eVar 2) (aNil)))))))))) [⟨["BadEars", "BadFamily", "BadFormula", "BadGreat", "BadGroup", "BadHand", "BadHouse", "BadLot", "BadNight", "BadPaper", "BadRenaming", "BadRow", "BadTables", "BadText", "BadValue", "BadView", "BadWorld", "NotFit", "Unborne"], none, sRt (eLst (aCons (eC (.str "another")) (aNil)))⟩, ⟨["TooMany"], some 5, sRt (eLst (aCons (eC (.str "refused")) (aCons (eXf 5 "what") (aCons (eXf 5 "limit") (aCons (eXf 5 "name") (aNil))))))⟩]
def g_u_law_told : Rho → R Vl := bodyR 6 s_u_law_told
theorem ok_u_law_told {P : Program} {w : World} {K : PySem.W.Frag} {mg : Str → Option Value} {base : Heap} {f : Addr} {fd : FuncData} (F : FunD K "_law_told" "_law_told" (defArgs (top 53)) (defBody (top 53)) (defScope (top 53)) [] [] f fd) (m : mg "_law_told" = some (.ref f))
    {f_all_profiles : Addr} {fd_all_profiles : FuncData} (c_all_profiles : Cal P w K mg base "all_profiles" 4 f_all_profiles fd_all_profiles ["n", "k"] [] g_all_profiles)
    {f_at_least : Addr} {fd_at_least : FuncData} (c_at_least : Cal P w K mg base "at_least" 5 f_at_least fd_at_least ["n", "k", "level"] [] g_at_least)
    {f_preferred : Addr} {fd_preferred : FuncData} (c_preferred : Cal P w K mg base "preferred" 5 f_preferred fd_preferred ["n", "k", "value", "level"] [] g_preferred)
    {f_profiles_where : Addr} {fd_profiles_where : FuncData} (c_profiles_where : Cal P w K mg base "profiles_where" 9 f_profiles_where fd_profiles_where ["formula", "n", "k"] [] g_profiles_where)
    (r_TooMany : Rai P w K mg base "TooMany" 2 ["what", "limit"])
    (m_BadEars : mg "BadEars" = some (.ref (He.ga K "BadEars")))
    (m_BadFamily : mg "BadFamily" = some (.ref (He.ga K "BadFamily")))
    (m_BadFormula : mg "BadFormula" = some (.ref (He.ga K "BadFormula")))
    (m_BadGreat : mg "BadGreat" = some (.ref (He.ga K "BadGreat")))
    (m_BadGroup : mg "BadGroup" = some (.ref (He.ga K "BadGroup")))
    (m_BadHand : mg "BadHand" = some (.ref (He.ga K "BadHand")))
    (m_BadHouse : mg "BadHouse" = some (.ref (He.ga K "BadHouse")))
    (m_BadLot : mg "BadLot" = some (.ref (He.ga K "BadLot")))
    (m_BadNight : mg "BadNight" = some (.ref (He.ga K "BadNight")))
    (m_BadPaper : mg "BadPaper" = some (.ref (He.ga K "BadPaper")))
    (m_BadRenaming : mg "BadRenaming" = some (.ref (He.ga K "BadRenaming")))
    (m_BadRow : mg "BadRow" = some (.ref (He.ga K "BadRow")))
    (m_BadTables : mg "BadTables" = some (.ref (He.ga K "BadTables")))
    (m_BadText : mg "BadText" = some (.ref (He.ga K "BadText")))
    (m_BadValue : mg "BadValue" = some (.ref (He.ga K "BadValue")))
    (m_BadView : mg "BadView" = some (.ref (He.ga K "BadView")))
    (m_BadWorld : mg "BadWorld" = some (.ref (He.ga K "BadWorld")))
    (m_NotFit : mg "NotFit" = some (.ref (He.ga K "NotFit")))
    (m_TooMany : mg "TooMany" = some (.ref (He.ga K "TooMany")))
    (m_Unborne : mg "Unborne" = some (.ref (He.ga K "Unborne")))
    (hcm : ∀ c ∈ CL, mg c = some (.ref (He.ga K c))) (hck : catB K CL = true) :
    Cal P w K mg base "_law_told" (9 + 1) f fd ["way", "n", "m", "value", "level"] [] (g_u_law_told) := by
  refine ok_c F m (kw_of F fun _ _ _ _ _ _ us ws h1 h2 => match us, ws, h1, h2 with | [_, _, _, _, _], [], _, _ => rfl) sc_u_law_told (by decide) fun cdv A outer sh H E hr hg tk hp => ?_
  exact ds_one (ds_try rfl rfl rfl tk (fun W1 pn1 xe1 tk1 hp1 => ds_cons (ds_if (y_eq (dv 0) (de_int)) (ds_one (ds_ret (x_call c_at_least hr (by decide) hg rfl tk1 rfl (da_cons (dv 1) (da_cons (dv 2) (da_cons (dv 4) (da_nil)))) (al_cons (al_cons (al_cons (al_nil)))) rfl))) (ds_nil)) (ds_cons (ds_if (y_eq (dv 0) (de_int)) (ds_one (ds_ret (x_call c_profiles_where hr (by decide) hg rfl tk1 rfl (da_cons (de_tup (da_cons (de_str) (da_cons (de_str) (da_cons (de_fz (dv 4)) (da_nil))))) (da_cons (dv 1) (da_cons (dv 2) (da_nil)))) (al_cons (al_cons (al_cons (al_nil)))) rfl))) (ds_nil)) (ds_cons (ds_if (y_eq (dv 0) (de_int)) (ds_one (ds_ret (x_call c_preferred hr (by decide) hg rfl tk1 rfl (da_cons (dv 1) (da_cons (dv 2) (da_cons (dv 3) (da_cons (dv 4) (da_nil))))) (al_cons (al_cons (al_cons (al_cons (al_nil))))) rfl))) (ds_nil)) (ds_cons (ds_if (y_eq (dv 0) (de_int)) (ds_one (ds_ret (x_call c_profiles_where hr (by decide) hg rfl tk1 rfl (da_cons (de_tup (da_cons (de_str) (da_cons (de_fz (dv 3)) (da_cons (de_str) (da_cons (de_fz (dv 4)) (da_nil)))))) (da_cons (dv 1) (da_cons (dv 2) (da_nil)))) (al_cons (al_cons (al_cons (al_nil)))) rfl))) (ds_nil)) (ds_cons (ds_if (y_eq (dv 0) (de_int)) (ds_one (ds_ret (x_call c_profiles_where hr (by decide) hg rfl tk1 rfl (da_cons (de_tup (da_cons (de_str) (da_cons (de_tup (da_cons (de_str) (da_cons (de_str) (da_cons (de_fz (dv 4)) (da_nil))))) (da_nil)))) (da_cons (dv 1) (da_cons (dv 2) (da_nil)))) (al_cons (al_cons (al_cons (al_nil)))) rfl))) (ds_nil)) (ds_one (ds_ret (x_call c_all_profiles hr (by decide) hg rfl tk1 rfl (da_cons (dv 1) (da_cons (dv 2) (da_nil))) (al_cons (al_cons (al_nil))) rfl)))))))) (.one (ns := ["BadEars", "BadFamily", "BadFormula", "BadGreat", "BadGroup", "BadHand", "BadHouse", "BadLot", "BadNight", "BadPaper", "BadRenaming", "BadRow", "BadTables", "BadText", "BadValue", "BadView", "BadWorld", "NotFit", "Unborne"]) (.tp (.cons (x_nm m_BadEars rfl) (.cons (x_nm m_BadFamily rfl) (.cons (x_nm m_BadFormula rfl) (.cons (x_nm m_BadGreat rfl) (.cons (x_nm m_BadGroup rfl) (.cons (x_nm m_BadHand rfl) (.cons (x_nm m_BadHouse rfl) (.cons (x_nm m_BadLot rfl) (.cons (x_nm m_BadNight rfl) (.cons (x_nm m_BadPaper rfl) (.cons (x_nm m_BadRenaming rfl) (.cons (x_nm m_BadRow rfl) (.cons (x_nm m_BadTables rfl) (.cons (x_nm m_BadText rfl) (.cons (x_nm m_BadValue rfl) (.cons (x_nm m_BadView rfl) (.cons (x_nm m_BadWorld rfl) (.cons (x_nm m_NotFit rfl) (.cons (x_nm m_Unborne rfl) (.nil)))))))))))))))))))) (by rw [List.length_map]; decide)) (fun a oe d pn c hc hz hf => ds_one (ds_ret (de_lst (da_cons (de_str) (da_nil))))) (.as (ns := ["TooMany"]) (i := 5) (.nm (x_nm m_TooMany rfl)) sc_u_law_told.nd rfl rfl (fun a oe d pn c hc hz hf => by
        obtain rfl := List.mem_singleton.mp hc
        exact ds_one (ds_ret (de_lst (da_cons (de_str) (da_cons (x_xf (i := 5) r_TooMany hz hf (by simp)) (da_cons (x_xf (i := 5) r_TooMany hz hf (by simp)) (da_cons (x_xf (i := 5) r_TooMany hz hf (by simp)) (da_nil)))))))) (.nil))) (cat_ok hcm hck rfl))
theorem sc_u_law_due : FnScope ["way", "n", "m", "value", "level", "profiles", "profile"] ["way", "n", "m", "value", "level"] (defScope (top 54)) := ⟨rfl, rfl, rfl, by decide +kernel, rfl, by decide +kernel, by decide +kernel⟩
def s_u_law_due : Rho → SR := sSeq (sIf (tV (eOp gtD (eCall g_u_law_profile_count [] (aCons (eVar 1) (aCons (eVar 2) (aNil)))) (eC (.int 400)))) (sRt (eLst (aCons (eC (.str "refused")) (aCons (eC (.str "profiles")) (aCons (eC (.int 400)) (aCons (eC (.str "TooMany")) (aNil))))))) (sNx)) (sSeq (sSet 5 (eCall g_u_law_all_profiles [] (aCons (eVar 1) (aCons (eVar 2) (aNil))))) (sSeq (sIf (tV (eOp inD (eVar 0) (eLst (aCons (eC (.int 0)) (aCons (eC (.int 1)) (aNil)))))) (sRt (eLc (iSq (eVar 5)) (gNm 6) (tV (eOp geD (eCB maxD (aCons (eVar 6) (aNil))) (eVar 4))) (eFz (eVar 6)) [6])) (sNx)) (sSeq (sIf (tV (eOp eqD (eVar 0) (eC (.int 4)))) (sRt (eLc (iSq (eVar 5)) (gNm 6) (tV (eOp gtD (eCB maxD (aCons (eVar 6) (aNil))) (eVar 4))) (eFz (eVar 6)) [6])) (sNx)) (sSeq (sIf (tV (eOp inD (eVar 0) (eLst (aCons (eC (.int 2)) (aCons (eC (.int 3)) (aNil)))))) (sRt (eLc (iSq (eVar 5)) (gNm 6) (tV (eOp geD (eOp ixD (eVar 6) (eVar 3)) (eVar 4))) (eFz (eVar 6)) [6])) (sNx)) (sRt (eVar 5))))))
def g_u_law_due : Rho → R Vl := bodyR 7 s_u_law_due
theorem ok_u_law_due {P : Program} {w : World} {K : PySem.W.Frag} {mg : Str → Option Value} {base : Heap} {f : Addr} {fd : FuncData} (F : FunD K "_law_due" "_law_due" (defArgs (top 54)) (defBody (top 54)) (defScope (top 54)) [] [] f fd) (m : mg "_law_due" = some (.ref f))
    {f_u_law_all_profiles : Addr} {fd_u_law_all_profiles : FuncData} (c_u_law_all_profiles : Cal P w K mg base "_law_all_profiles" 1 f_u_law_all_profiles fd_u_law_all_profiles ["n", "m"] [] g_u_law_all_profiles)
    {f_u_law_profile_count : Addr} {fd_u_law_profile_count : FuncData} (c_u_law_profile_count : Cal P w K mg base "_law_profile_count" 1 f_u_law_profile_count fd_u_law_profile_count ["n", "m"] [] g_u_law_profile_count)
    (h_max : mg "max" = none) :
    Cal P w K mg base "_law_due" (1 + 1) f fd ["way", "n", "m", "value", "level"] [] (g_u_law_due) := by
  refine ok_c F m (kw_of F fun _ _ _ _ _ _ us ws h1 h2 => match us, ws, h1, h2 with | [_, _, _, _, _], [], _, _ => rfl) sc_u_law_due (by decide) fun cdv A outer sh H E hr hg tk hp => ?_
  exact ds_cons (ds_if (y_gt (x_call c_u_law_profile_count hr (by decide) hg rfl tk rfl (da_cons (dv 1) (da_cons (dv 2) (da_nil))) (al_cons (al_cons (al_nil))) rfl) (de_int)) (ds_one (ds_ret (de_lst (da_cons (de_str) (da_cons (de_str) (da_cons (de_int) (da_cons (de_str) (da_nil)))))))) (ds_nil)) (ds_cons (ds_set (i := 5) sc_u_law_due.nd rfl (by first | exact Or.inl rfl | exact Or.inr rfl) (x_call c_u_law_all_profiles hr (by decide) hg rfl tk rfl (da_cons (dv 1) (da_cons (dv 2) (da_nil))) (al_cons (al_cons (al_nil))) rfl)) (ds_cons (ds_if (y_in (by with_unfolding_all rfl) (dv 0) (de_lst (da_cons (de_int) (da_cons (de_int) (da_nil))))) (ds_one (ds_ret (de_lc rfl sc_u_law_due.nd (own := [("profile", 6)]) (is := [6]) (di_sq (dv 5)) (blk_ok (by first | rfl | kernel_rfl)) (gName 6) sto_name (by decide) (fun _ _ _ _ _ => pg_name (i := 6) sc_u_law_due.nd rfl (by first | exact Or.inl rfl | exact Or.inr rfl) (by first | exact Or.inl rfl | exact Or.inr rfl)) (fun _ _ _ _ _ => dts_one (y_ge (de_cb (cr_maxQ rfl) so_max rfl h_max (by first | rfl | kernel_rfl) (da_cons (dv 6) (da_nil))) (dv 4))) (fun _ _ _ _ _ => de_fz (dv 6))))) (ds_nil)) (ds_cons (ds_if (y_eq (dv 0) (de_int)) (ds_one (ds_ret (de_lc rfl sc_u_law_due.nd (own := [("profile", 6)]) (is := [6]) (di_sq (dv 5)) (blk_ok (by first | rfl | kernel_rfl)) (gName 6) sto_name (by decide) (fun _ _ _ _ _ => pg_name (i := 6) sc_u_law_due.nd rfl (by first | exact Or.inl rfl | exact Or.inr rfl) (by first | exact Or.inl rfl | exact Or.inr rfl)) (fun _ _ _ _ _ => dts_one (y_gt (de_cb (cr_maxQ rfl) so_max rfl h_max (by first | rfl | kernel_rfl) (da_cons (dv 6) (da_nil))) (dv 4))) (fun _ _ _ _ _ => de_fz (dv 6))))) (ds_nil)) (ds_cons (ds_if (y_in (by with_unfolding_all rfl) (dv 0) (de_lst (da_cons (de_int) (da_cons (de_int) (da_nil))))) (ds_one (ds_ret (de_lc rfl sc_u_law_due.nd (own := [("profile", 6)]) (is := [6]) (di_sq (dv 5)) (blk_ok (by first | rfl | kernel_rfl)) (gName 6) sto_name (by decide) (fun _ _ _ _ _ => pg_name (i := 6) sc_u_law_due.nd rfl (by first | exact Or.inl rfl | exact Or.inr rfl) (by first | exact Or.inl rfl | exact Or.inr rfl)) (fun _ _ _ _ _ => dts_one (y_ge (de_ix (dv 6) (dv 3)) (dv 4))) (fun _ _ _ _ _ => de_fz (dv 6))))) (ds_nil)) (ds_one (ds_ret (dv 5)))))))
theorem sc_u_law_told_level : FnScope ["n", "numbers", "e"] ["n", "numbers"] (defScope (top 55)) := ⟨rfl, rfl, rfl, by decide +kernel, rfl, by decide +kernel, by decide +kernel⟩
def s_u_law_told_level : Rho → SR := sTry CL (sRt (eLst (aCons (eC (.str "level")) (aCons (eFz (eCall g_least_level [] (aApp (aCons (eVar 0) (aNil)) (aCons (eOp ixD (eVar 1) (eC (.int 0))) (aCons (eOp ixD (eVar 1) (eC (.int 1))) (aCons (eOp ixD (eVar 1) (eC (.int 2))) (aCons (eOp ixD (eVar 1) (eC (.int 3))) (aNil)))))))) (aNil))))) [⟨["BadEars", "BadFamily", "BadFormula", "BadGroup", "BadHand", "BadHouse", "BadLot", "BadNight", "BadPaper", "BadRenaming", "BadRow", "BadTables", "BadText", "BadValue", "BadView", "BadWorld", "NotFit", "TooMany", "Unborne"], none, sRt (eLst (aCons (eC (.str "another")) (aNil)))⟩, ⟨["BadGreat"], some 2, sRt (eLst (aCons (eC (.str "refused")) (aCons (eXf 2 "field") (aCons (eXf 2 "name") (aCons (eFz (eXi 2 true)) (aNil))))))⟩]
def g_u_law_told_level : Rho → R Vl := bodyR 3 s_u_law_told_level
theorem ok_u_law_told_level {P : Program} {w : World} {K : PySem.W.Frag} {mg : Str → Option Value} {base : Heap} {f : Addr} {fd : FuncData} (F : FunD K "_law_told_level" "_law_told_level" (defArgs (top 55)) (defBody (top 55)) (defScope (top 55)) [] [] f fd) (m : mg "_law_told_level" = some (.ref f))
    {f_least_level : Addr} {fd_least_level : FuncData} (c_least_level : Cal P w K mg base "least_level" 5 f_least_level fd_least_level ["n", "silent", "liars", "easy_silent", "easy_liars"] ["silent", "liars", "easy_silent", "easy_liars"] g_least_level)
    (h_ValueError : mg "ValueError" = none)
    (h_isinstance : mg "isinstance" = none)
    (r_BadGreat : Rai P w K mg base "BadGreat" 2 ["field"])
    (m_BadEars : mg "BadEars" = some (.ref (He.ga K "BadEars")))
    (m_BadFamily : mg "BadFamily" = some (.ref (He.ga K "BadFamily")))
    (m_BadFormula : mg "BadFormula" = some (.ref (He.ga K "BadFormula")))
    (m_BadGreat : mg "BadGreat" = some (.ref (He.ga K "BadGreat")))
    (m_BadGroup : mg "BadGroup" = some (.ref (He.ga K "BadGroup")))
    (m_BadHand : mg "BadHand" = some (.ref (He.ga K "BadHand")))
    (m_BadHouse : mg "BadHouse" = some (.ref (He.ga K "BadHouse")))
    (m_BadLot : mg "BadLot" = some (.ref (He.ga K "BadLot")))
    (m_BadNight : mg "BadNight" = some (.ref (He.ga K "BadNight")))
    (m_BadPaper : mg "BadPaper" = some (.ref (He.ga K "BadPaper")))
    (m_BadRenaming : mg "BadRenaming" = some (.ref (He.ga K "BadRenaming")))
    (m_BadRow : mg "BadRow" = some (.ref (He.ga K "BadRow")))
    (m_BadTables : mg "BadTables" = some (.ref (He.ga K "BadTables")))
    (m_BadText : mg "BadText" = some (.ref (He.ga K "BadText")))
    (m_BadValue : mg "BadValue" = some (.ref (He.ga K "BadValue")))
    (m_BadView : mg "BadView" = some (.ref (He.ga K "BadView")))
    (m_BadWorld : mg "BadWorld" = some (.ref (He.ga K "BadWorld")))
    (m_NotFit : mg "NotFit" = some (.ref (He.ga K "NotFit")))
    (m_TooMany : mg "TooMany" = some (.ref (He.ga K "TooMany")))
    (m_Unborne : mg "Unborne" = some (.ref (He.ga K "Unborne")))
    (hcm : ∀ c ∈ CL, mg c = some (.ref (He.ga K c))) (hck : catB K CL = true) :
    Cal P w K mg base "_law_told_level" (5 + 1) f fd ["n", "numbers"] [] (g_u_law_told_level) := by
  refine ok_c F m (kw_of F fun _ _ _ _ _ _ us ws h1 h2 => match us, ws, h1, h2 with | [_, _], [], _, _ => rfl) sc_u_law_told_level (by decide) fun cdv A outer sh H E hr hg tk hp => ?_
  exact ds_one (ds_try rfl rfl rfl tk (fun W1 pn1 xe1 tk1 hp1 => ds_one (ds_ret (de_lst (da_cons (de_str) (da_cons (de_fz (x_callK c_least_level hr (by decide) hg rfl tk1 rfl (da_cons (dv 0) (da_nil)) (dk_cons (de_ix (dv 1) (de_int)) (dk_cons (de_ix (dv 1) (de_int)) (dk_cons (de_ix (dv 1) (de_int)) (dk_cons (de_ix (dv 1) (de_int)) (dk_nil))))) (al_cons (al_nil)) (al_cons (al_cons (al_cons (al_cons (al_nil))))) rfl)) (da_nil)))))) (.one (ns := ["BadEars", "BadFamily", "BadFormula", "BadGroup", "BadHand", "BadHouse", "BadLot", "BadNight", "BadPaper", "BadRenaming", "BadRow", "BadTables", "BadText", "BadValue", "BadView", "BadWorld", "NotFit", "TooMany", "Unborne"]) (.tp (.cons (x_nm m_BadEars rfl) (.cons (x_nm m_BadFamily rfl) (.cons (x_nm m_BadFormula rfl) (.cons (x_nm m_BadGroup rfl) (.cons (x_nm m_BadHand rfl) (.cons (x_nm m_BadHouse rfl) (.cons (x_nm m_BadLot rfl) (.cons (x_nm m_BadNight rfl) (.cons (x_nm m_BadPaper rfl) (.cons (x_nm m_BadRenaming rfl) (.cons (x_nm m_BadRow rfl) (.cons (x_nm m_BadTables rfl) (.cons (x_nm m_BadText rfl) (.cons (x_nm m_BadValue rfl) (.cons (x_nm m_BadView rfl) (.cons (x_nm m_BadWorld rfl) (.cons (x_nm m_NotFit rfl) (.cons (x_nm m_TooMany rfl) (.cons (x_nm m_Unborne rfl) (.nil)))))))))))))))))))) (by rw [List.length_map]; decide)) (fun a oe d pn c hc hz hf => ds_one (ds_ret (de_lst (da_cons (de_str) (da_nil))))) (.as (ns := ["BadGreat"]) (i := 2) (.nm (x_nm m_BadGreat rfl)) sc_u_law_told_level.nd rfl rfl (fun a oe d pn c hc hz hf => by
        obtain rfl := List.mem_singleton.mp hc
        exact ds_one (ds_ret (de_lst (da_cons (de_str) (da_cons (x_xf (i := 2) r_BadGreat hz hf (by simp)) (da_cons (x_xf (i := 2) r_BadGreat hz hf (by simp)) (da_cons (de_fz (x_xi (i := 2) r_BadGreat hz hf rfl h_isinstance rfl h_ValueError)) (da_nil)))))))) (.nil))) (cat_ok hcm hck rfl))
theorem sc_u_law_due_level : FnScope ["n", "numbers", "quiet", "lying", "easy", "mild", "twice", "levels", "level"] ["n", "numbers"] (defScope (top 56)) := ⟨rfl, rfl, rfl, by decide +kernel, rfl, by decide +kernel, by decide +kernel⟩
def s_u_law_due_level : Rho → SR := sSeq (sUnp (eVar 1) [gNm 2, gNm 3, gNm 4, gNm 5]) (sSeq (sIf (tOr' (tV (eOp ltD (eVar 0) (eC (.int 2)))) (tV (eOp gtD (eVar 0) (eC (.int 60))))) (sRt (eLst (aCons (eC (.str "refused")) (aCons (eC (.str "n")) (aCons (eC (.str "BadGreat")) (aCons (eC (.bl true)) (aNil))))))) (sNx)) (sSeq (sIf (tOr' (tV (eOp ltD (eVar 2) (eC (.int 0)))) (tV (eOp ltD (eVar 0) (eOp addD (eVar 2) (eC (.int 2)))))) (sRt (eLst (aCons (eC (.str "refused")) (aCons (eC (.str "silent")) (aCons (eC (.str "BadGreat")) (aCons (eC (.bl true)) (aNil))))))) (sNx)) (sSeq (sIf (tOr' (tV (eOp ltD (eVar 3) (eC (.int 0)))) (tV (eOp ltD (eVar 0) (eOp addD (eOp addD (eVar 2) (eOp mulD (eC (.int 2)) (eVar 3))) (eC (.int 2)))))) (sRt (eLst (aCons (eC (.str "refused")) (aCons (eC (.str "liars")) (aCons (eC (.str "BadGreat")) (aCons (eC (.bl true)) (aNil))))))) (sNx)) (sSeq (sIf (tOr' (tV (eOp ltD (eVar 4) (eC (.int 0)))) (tV (eOp gtD (eVar 4) (eVar 2)))) (sRt (eLst (aCons (eC (.str "refused")) (aCons (eC (.str "easy_silent")) (aCons (eC (.str "BadGreat")) (aCons (eC (.bl true)) (aNil))))))) (sNx)) (sSeq (sIf (tOr' (tV (eOp ltD (eVar 5) (eC (.int 0)))) (tV (eOp gtD (eVar 5) (eVar 3)))) (sRt (eLst (aCons (eC (.str "refused")) (aCons (eC (.str "easy_liars")) (aCons (eC (.str "BadGreat")) (aCons (eC (.bl true)) (aNil))))))) (sNx)) (sSeq (sSet 6 (eOp addD (eOp addD (eOp addD (eOp addD (eVar 0) (eOp mulD (eC (.int 2)) (eVar 4))) (eVar 2)) (eOp mulD (eC (.int 2)) (eVar 3))) (eOp mulD (eC (.int 2)) (eVar 5)))) (sSeq (sSet 7 (eLc (iR1 (eOp addD (eVar 0) (eC (.int 1)))) (gNm 8) (tV (eOp gtD (eOp mulD (eC (.int 2)) (eVar 8)) (eVar 6))) (eFz (eVar 8)) [8])) (sSeq (sIf (tV (eOp eqD (eCB lenD (aCons (eVar 7) (aNil))) (eC (.int 0)))) (sRt (eLst (aCons (eC (.str "level")) (aCons (eC .non) (aNil))))) (sNx)) (sRt (eLst (aCons (eC (.str "level")) (aCons (eFz (eOp ixD (eVar 7) (eC (.int 0)))) (aNil)))))))))))))
def g_u_law_due_level : Rho → R Vl := bodyR 9 s_u_law_due_level
theorem ok_u_law_due_level {P : Program} {w : World} {K : PySem.W.Frag} {mg : Str → Option Value} {base : Heap} {f : Addr} {fd : FuncData} (F : FunD K "_law_due_level" "_law_due_level" (defArgs (top 56)) (defBody (top 56)) (defScope (top 56)) [] [] f fd) (m : mg "_law_due_level" = some (.ref f))
    (h_len : mg "len" = none)
    (h_range : mg "range" = none) :
    Cal P w K mg base "_law_due_level" (0 + 1) f fd ["n", "numbers"] [] (g_u_law_due_level) := by
  refine ok_c F m (kw_of F fun _ _ _ _ _ _ us ws h1 h2 => match us, ws, h1, h2 with | [_, _], [], _, _ => rfl) sc_u_law_due_level (by decide) fun cdv A outer sh H E hr hg tk hp => ?_
  exact ds_cons (ds_unp rfl (dv 1) (dgs_cons (dg_name (i := 2) sc_u_law_due_level.nd rfl (by first | exact Or.inl rfl | exact Or.inr rfl)) (dgs_cons (dg_name (i := 3) sc_u_law_due_level.nd rfl (by first | exact Or.inl rfl | exact Or.inr rfl)) (dgs_cons (dg_name (i := 4) sc_u_law_due_level.nd rfl (by first | exact Or.inl rfl | exact Or.inr rfl)) (dgs_cons (dg_name (i := 5) sc_u_law_due_level.nd rfl (by first | exact Or.inl rfl | exact Or.inr rfl)) (dgs_nil)))))) (ds_cons (ds_if (dw_pt (dw_or (y_lt (dv 0) (de_int)) (dw_or1 (y_gt (dv 0) (de_int))))) (ds_one (ds_ret (de_lst (da_cons (de_str) (da_cons (de_str) (da_cons (de_str) (da_cons (de_bl) (da_nil)))))))) (ds_nil)) (ds_cons (ds_if (dw_pt (dw_or (y_lt (dv 2) (de_int)) (dw_or1 (y_lt (dv 0) (x_add (dv 2) (de_int)))))) (ds_one (ds_ret (de_lst (da_cons (de_str) (da_cons (de_str) (da_cons (de_str) (da_cons (de_bl) (da_nil)))))))) (ds_nil)) (ds_cons (ds_if (dw_pt (dw_or (y_lt (dv 3) (de_int)) (dw_or1 (y_lt (dv 0) (x_add (x_add (dv 2) (x_mul (de_int) (dv 3))) (de_int)))))) (ds_one (ds_ret (de_lst (da_cons (de_str) (da_cons (de_str) (da_cons (de_str) (da_cons (de_bl) (da_nil)))))))) (ds_nil)) (ds_cons (ds_if (dw_pt (dw_or (y_lt (dv 4) (de_int)) (dw_or1 (y_gt (dv 4) (dv 2))))) (ds_one (ds_ret (de_lst (da_cons (de_str) (da_cons (de_str) (da_cons (de_str) (da_cons (de_bl) (da_nil)))))))) (ds_nil)) (ds_cons (ds_if (dw_pt (dw_or (y_lt (dv 5) (de_int)) (dw_or1 (y_gt (dv 5) (dv 3))))) (ds_one (ds_ret (de_lst (da_cons (de_str) (da_cons (de_str) (da_cons (de_str) (da_cons (de_bl) (da_nil)))))))) (ds_nil)) (ds_cons (ds_set (i := 6) sc_u_law_due_level.nd rfl (by first | exact Or.inl rfl | exact Or.inr rfl) (x_add (x_add (x_add (x_add (dv 0) (x_mul (de_int) (dv 4))) (dv 2)) (x_mul (de_int) (dv 3))) (x_mul (de_int) (dv 5)))) (ds_cons (ds_setLc (i := 7) rfl sc_u_law_due_level.nd rfl rfl rfl (own := [("level", 8)]) (is := [8]) (di_r1 rfl h_range (x_add (dv 0) (de_int))) (blk_ok (by first | rfl | kernel_rfl)) (gName 8) sto_name (by decide) (fun _ _ _ _ _ => pg_name (i := 8) sc_u_law_due_level.nd rfl (by first | exact Or.inl rfl | exact Or.inr rfl) (by first | exact Or.inl rfl | exact Or.inr rfl)) (fun _ _ _ _ _ => dts_one (y_gt (x_mul (de_int) (dv 8)) (dv 6))) (fun _ _ _ _ _ => de_fz (dv 8))) (ds_cons (ds_if (y_eq (de_cb cr_lenQ so_len rfl h_len (by first | rfl | kernel_rfl) (da_cons (dv 7) (da_nil))) (de_int)) (ds_one (ds_ret (de_lst (da_cons (de_str) (da_cons (de_non) (da_nil)))))) (ds_nil)) (ds_one (ds_ret (de_lst (da_cons (de_str) (da_cons (de_fz (de_ix (dv 7) (de_int))) (da_nil))))))))))))))
theorem sc_u_law_level_holds : FnScope ["store", "n", "numbers", "bent", "turn", "wrong"] ["store"] (defScope (top 57)) := ⟨rfl, rfl, rfl, by decide +kernel, rfl, by decide +kernel, by decide +kernel⟩
def s_u_law_level_holds : Rho → SR := sSeq (sSet 1 (eCall g_u_law_pick [] (aCons (eVar 0) (aCons (eFz (eLst (aCons (eC (.int 2)) (aCons (eC (.int 3)) (aCons (eC (.int 4)) (aCons (eC (.int 5)) (aCons (eC (.int 6)) (aCons (eC (.int 7)) (aCons (eOp addD (eC (.int 2)) (eCall g_u_law_take [] (aCons (eVar 0) (aCons (eC (.int 59)) (aNil))))) (aCons (eC (.int 60)) (aNil))))))))))) (aNil))))) (sSeq (sSet 2 (eCall g_u_law_numbers [] (aCons (eVar 0) (aCons (eVar 1) (aNil))))) (sSeq (sIf (tV (eCall g_u_law_chance [] (aCons (eVar 0) (aCons (eC (.int 2)) (aNil))))) (sSeq (sSet 2 (eLst (aCons (eFz (eCall g_u_law_take [] (aCons (eVar 0) (aCons (eOp addD (eC (.int 1)) (eOp fdivD (eVar 1) (eC (.int 6)))) (aNil))))) (aCons (eFz (eCall g_u_law_take [] (aCons (eVar 0) (aCons (eOp addD (eC (.int 1)) (eOp fdivD (eVar 1) (eC (.int 8)))) (aNil))))) (aCons (eC (.int 0)) (aCons (eC (.int 0)) (aNil))))))) (sSx 2 (eC (.int 2)) (eFz (eCall g_u_law_take [] (aCons (eVar 0) (aCons (eOp addD (eOp ixD (eVar 2) (eC (.int 0))) (eC (.int 1))) (aNil))))))) (sNx)) (sSeq (sIf (tV (eOp neD (eCB reprD (aCons (eCall g_u_law_told_level [] (aCons (eVar 1) (aCons (eVar 2) (aNil)))) (aNil))) (eCB reprD (aCons (eCall g_u_law_due_level [] (aCons (eVar 1) (aCons (eVar 2) (aNil)))) (aNil))))) (sRt (eC (.bl false))) (sNx)) (sSeq (sSet 3 (eCB listD (aCons (eVar 2) (aNil)))) (sSeq (sFor (iR1 (eOp addD (eC (.int 1)) (eCall g_u_law_take [] (aCons (eVar 0) (aCons (eC (.int 2)) (aNil)))))) (gNm 4) (sSeq (sSet 5 (eLst (aCons (eUn negD (eC (.int 1))) (aCons (eOp subD (eVar 1) (eC (.int 1))) (aCons (eFz (eVar 1)) (aCons (eOp addD (eOp ixD (eVar 2) (eC (.int 0))) (eC (.int 1))) (aCons (eOp addD (eOp ixD (eVar 2) (eC (.int 1))) (eC (.int 1))) (aCons (eFz (eCall g_u_law_any_number [] (aCons (eVar 0) (aNil)))) (aNil))))))))) (sSx 3 (eCall g_u_law_take [] (aCons (eVar 0) (aCons (eC (.int 4)) (aNil)))) (eFz (eCall g_u_law_pick [] (aCons (eVar 0) (aCons (eVar 5) (aNil)))))))) (sSeq (sIf (tV (eOp neD (eCB reprD (aCons (eCall g_u_law_told_level [] (aCons (eVar 1) (aCons (eVar 3) (aNil)))) (aNil))) (eCB reprD (aCons (eCall g_u_law_due_level [] (aCons (eVar 1) (aCons (eVar 3) (aNil)))) (aNil))))) (sRt (eC (.bl false))) (sNx)) (sSeq (sSet 1 (eCall g_u_law_pick [] (aCons (eVar 0) (aCons (eFz (eLst (aCons (eC (.int 0)) (aCons (eC (.int 1)) (aCons (eUn negD (eC (.int 1))) (aCons (eC (.int 2)) (aCons (eC (.int 60)) (aCons (eC (.int 61)) (aCons (eFz (eCall g_u_law_any_number [] (aCons (eVar 0) (aNil)))) (aNil)))))))))) (aNil))))) (sRt (eOp eqD (eCB reprD (aCons (eCall g_u_law_told_level [] (aCons (eVar 1) (aCons (eVar 3) (aNil)))) (aNil))) (eCB reprD (aCons (eCall g_u_law_due_level [] (aCons (eVar 1) (aCons (eVar 3) (aNil)))) (aNil))))))))))))
def g_u_law_level_holds : Rho → R Vl := bodyR 6 s_u_law_level_holds
theorem ok_u_law_level_holds {P : Program} {w : World} {K : PySem.W.Frag} {mg : Str → Option Value} {base : Heap} {f : Addr} {fd : FuncData} (F : FunD K "_law_level_holds" "_law_level_holds" (defArgs (top 57)) (defBody (top 57)) (defScope (top 57)) [] [] f fd) (m : mg "_law_level_holds" = some (.ref f))
    {f_u_law_any_number : Addr} {fd_u_law_any_number : FuncData} (c_u_law_any_number : Cal P w K mg base "_law_any_number" 4 f_u_law_any_number fd_u_law_any_number ["store"] [] g_u_law_any_number)
    {f_u_law_chance : Addr} {fd_u_law_chance : FuncData} (c_u_law_chance : Cal P w K mg base "_law_chance" 3 f_u_law_chance fd_u_law_chance ["store", "share"] [] g_u_law_chance)
    {f_u_law_due_level : Addr} {fd_u_law_due_level : FuncData} (c_u_law_due_level : Cal P w K mg base "_law_due_level" 1 f_u_law_due_level fd_u_law_due_level ["n", "numbers"] [] g_u_law_due_level)
    {f_u_law_numbers : Addr} {fd_u_law_numbers : FuncData} (c_u_law_numbers : Cal P w K mg base "_law_numbers" 4 f_u_law_numbers fd_u_law_numbers ["store", "n"] [] g_u_law_numbers)
    {f_u_law_pick : Addr} {fd_u_law_pick : FuncData} (c_u_law_pick : Cal P w K mg base "_law_pick" 3 f_u_law_pick fd_u_law_pick ["store", "things"] [] g_u_law_pick)
    {f_u_law_take : Addr} {fd_u_law_take : FuncData} (c_u_law_take : Cal P w K mg base "_law_take" 2 f_u_law_take fd_u_law_take ["store", "many"] [] g_u_law_take)
    {f_u_law_told_level : Addr} {fd_u_law_told_level : FuncData} (c_u_law_told_level : Cal P w K mg base "_law_told_level" 6 f_u_law_told_level fd_u_law_told_level ["n", "numbers"] [] g_u_law_told_level)
    (h_list : mg "list" = none)
    (h_range : mg "range" = none)
    (h_repr : mg "repr" = none) :
    Cal P w K mg base "_law_level_holds" (6 + 1) f fd ["store"] [] (g_u_law_level_holds) := by
  refine ok_c F m (kw_of F fun _ _ _ _ _ _ us ws h1 h2 => match us, ws, h1, h2 with | [_], [], _, _ => rfl) sc_u_law_level_holds (by decide) fun cdv A outer sh H E hr hg tk hp => ?_
  exact ds_cons (ds_set (i := 1) sc_u_law_level_holds.nd rfl (by first | exact Or.inl rfl | exact Or.inr rfl) (x_call c_u_law_pick hr (by decide) hg rfl tk rfl (da_cons (dv 0) (da_cons (de_fz (de_lst (da_cons (de_int) (da_cons (de_int) (da_cons (de_int) (da_cons (de_int) (da_cons (de_int) (da_cons (de_int) (da_cons (x_add (de_int) (x_call c_u_law_take hr (by decide) hg rfl tk rfl (da_cons (dv 0) (da_cons (de_int) (da_nil))) (al_cons (al_cons (al_nil))) rfl)) (da_cons (de_int) (da_nil))))))))))) (da_nil))) (al_cons (al_cons (al_nil))) rfl)) (ds_cons (ds_set (i := 2) sc_u_law_level_holds.nd rfl (by first | exact Or.inl rfl | exact Or.inr rfl) (x_call c_u_law_numbers hr (by decide) hg rfl tk rfl (da_cons (dv 0) (da_cons (dv 1) (da_nil))) (al_cons (al_cons (al_nil))) rfl)) (ds_cons (ds_if (dt_val (x_call c_u_law_chance hr (by decide) hg rfl tk rfl (da_cons (dv 0) (da_cons (de_int) (da_nil))) (al_cons (al_cons (al_nil))) rfl)) (ds_cons (ds_set (i := 2) sc_u_law_level_holds.nd rfl (by first | exact Or.inl rfl | exact Or.inr rfl) (de_lst (da_cons (de_fz (x_call c_u_law_take hr (by decide) hg rfl tk rfl (da_cons (dv 0) (da_cons (x_add (de_int) (x_fdiv (dv 1) (de_int))) (da_nil))) (al_cons (al_cons (al_nil))) rfl)) (da_cons (de_fz (x_call c_u_law_take hr (by decide) hg rfl tk rfl (da_cons (dv 0) (da_cons (x_add (de_int) (x_fdiv (dv 1) (de_int))) (da_nil))) (al_cons (al_cons (al_nil))) rfl)) (da_cons (de_int) (da_cons (de_int) (da_nil))))))) (ds_one (ds_sx (pe_var (i := 2) rfl (by first | exact Or.inl rfl | exact Or.inr (Or.inl rfl) | exact Or.inr (Or.inr rfl))) (de_int) (de_fz (x_call c_u_law_take hr (by decide) hg rfl tk rfl (da_cons (dv 0) (da_cons (x_add (de_ix (dv 2) (de_int)) (de_int)) (da_nil))) (al_cons (al_cons (al_nil))) rfl))))) (ds_nil)) (ds_cons (ds_if (y_ne (de_cb (cr_repr (k := 0) hg (hr.mono (Nat.zero_le _))) so_repr rfl h_repr (by first | rfl | kernel_rfl) (da_cons (x_call c_u_law_told_level hr (by decide) hg rfl tk rfl (da_cons (dv 1) (da_cons (dv 2) (da_nil))) (al_cons (al_cons (al_nil))) rfl) (da_nil))) (de_cb (cr_repr (k := 0) hg (hr.mono (Nat.zero_le _))) so_repr rfl h_repr (by first | rfl | kernel_rfl) (da_cons (x_call c_u_law_due_level hr (by decide) hg rfl tk rfl (da_cons (dv 1) (da_cons (dv 2) (da_nil))) (al_cons (al_cons (al_nil))) rfl) (da_nil)))) (ds_one (ds_ret (de_bl))) (ds_nil)) (ds_cons (ds_set (i := 3) sc_u_law_level_holds.nd rfl (by first | exact Or.inl rfl | exact Or.inr rfl) (de_ct call_list_of so_list rfl h_list (by first | rfl | kernel_rfl) (da_cons (dv 2) (da_nil)))) (ds_cons (ds_for hp rfl (di_r1 rfl h_range (x_add (de_int) (x_call c_u_law_take hr (by decide) hg rfl tk rfl (da_cons (dv 0) (da_cons (de_int) (da_nil))) (al_cons (al_cons (al_nil))) rfl))) (dg_name (i := 4) sc_u_law_level_holds.nd rfl (by first | exact Or.inl rfl | exact Or.inr rfl)) (ds_cons (ds_set (i := 5) sc_u_law_level_holds.nd rfl (by first | exact Or.inl rfl | exact Or.inr rfl) (de_lst (da_cons (x_neg (de_int)) (da_cons (x_sub (dv 1) (de_int)) (da_cons (de_fz (dv 1)) (da_cons (x_add (de_ix (dv 2) (de_int)) (de_int)) (da_cons (x_add (de_ix (dv 2) (de_int)) (de_int)) (da_cons (de_fz (x_call c_u_law_any_number hr (by decide) hg rfl tk rfl (da_cons (dv 0) (da_nil)) (al_cons (al_nil)) rfl)) (da_nil))))))))) (ds_one (ds_sx (pe_var (i := 3) rfl (by first | exact Or.inl rfl | exact Or.inr (Or.inl rfl) | exact Or.inr (Or.inr rfl))) (x_call c_u_law_take hr (by decide) hg rfl tk rfl (da_cons (dv 0) (da_cons (de_int) (da_nil))) (al_cons (al_cons (al_nil))) rfl) (de_fz (x_call c_u_law_pick hr (by decide) hg rfl tk rfl (da_cons (dv 0) (da_cons (dv 5) (da_nil))) (al_cons (al_cons (al_nil))) rfl)))))) (ds_cons (ds_if (y_ne (de_cb (cr_repr (k := 0) hg (hr.mono (Nat.zero_le _))) so_repr rfl h_repr (by first | rfl | kernel_rfl) (da_cons (x_call c_u_law_told_level hr (by decide) hg rfl tk rfl (da_cons (dv 1) (da_cons (dv 3) (da_nil))) (al_cons (al_cons (al_nil))) rfl) (da_nil))) (de_cb (cr_repr (k := 0) hg (hr.mono (Nat.zero_le _))) so_repr rfl h_repr (by first | rfl | kernel_rfl) (da_cons (x_call c_u_law_due_level hr (by decide) hg rfl tk rfl (da_cons (dv 1) (da_cons (dv 3) (da_nil))) (al_cons (al_cons (al_nil))) rfl) (da_nil)))) (ds_one (ds_ret (de_bl))) (ds_nil)) (ds_cons (ds_set (i := 1) sc_u_law_level_holds.nd rfl (by first | exact Or.inl rfl | exact Or.inr rfl) (x_call c_u_law_pick hr (by decide) hg rfl tk rfl (da_cons (dv 0) (da_cons (de_fz (de_lst (da_cons (de_int) (da_cons (de_int) (da_cons (x_neg (de_int)) (da_cons (de_int) (da_cons (de_int) (da_cons (de_int) (da_cons (de_fz (x_call c_u_law_any_number hr (by decide) hg rfl tk rfl (da_cons (dv 0) (da_nil)) (al_cons (al_nil)) rfl)) (da_nil)))))))))) (da_nil))) (al_cons (al_cons (al_nil))) rfl)) (ds_one (ds_ret (x_eq (de_cb (cr_repr (k := 0) hg (hr.mono (Nat.zero_le _))) so_repr rfl h_repr (by first | rfl | kernel_rfl) (da_cons (x_call c_u_law_told_level hr (by decide) hg rfl tk rfl (da_cons (dv 1) (da_cons (dv 3) (da_nil))) (al_cons (al_cons (al_nil))) rfl) (da_nil))) (de_cb (cr_repr (k := 0) hg (hr.mono (Nat.zero_le _))) so_repr rfl h_repr (by first | rfl | kernel_rfl) (da_cons (x_call c_u_law_due_level hr (by decide) hg rfl tk rfl (da_cons (dv 1) (da_cons (dv 3) (da_nil))) (al_cons (al_cons (al_nil))) rfl) (da_nil)))))))))))))
theorem sc_law : FnScope ["script", "store", "n", "m", "value", "level", "other", "way", "told"] ["script"] (defScope (top 58)) := ⟨rfl, rfl, rfl, by decide +kernel, rfl, by decide +kernel, by decide +kernel⟩
def s_law : Rho → SR := sSeq (sSet 1 (eCall g_u_law_store [] (aCons (eVar 0) (aNil)))) (sSeq (sUnp (eCall g_u_law_size [] (aCons (eVar 1) (aNil))) [gNm 2, gNm 3]) (sSeq (sSet 4 (eCall g_u_law_take [] (aCons (eVar 1) (aCons (eVar 3) (aNil))))) (sSeq (sSet 5 (eCall g_u_law_level [] (aCons (eVar 1) (aCons (eVar 2) (aNil))))) (sSeq (sSet 6 (eCall g_u_law_level [] (aCons (eVar 1) (aCons (eVar 2) (aNil))))) (sSeq (sFor (iSq (eSl (eCall g_u_law_order [] (aCons (eVar 1) (aCons (eC (.int 6)) (aNil)))) (sNo) (sSo (eC (.int 4))))) (gNm 7) (sSeq (sSet 8 (eCall g_u_law_told [] (aCons (eVar 7) (aCons (eVar 2) (aCons (eVar 3) (aCons (eVar 4) (aCons (eVar 5) (aNil)))))))) (sSeq (sIf (tV (eOp neD (eCB reprD (aCons (eVar 8) (aNil))) (eCB reprD (aCons (eCall g_u_law_due [] (aCons (eVar 7) (aCons (eVar 2) (aCons (eVar 3) (aCons (eVar 4) (aCons (eVar 5) (aNil))))))) (aNil))))) (sRt (eC (.bl false))) (sNx)) (sSeq (sEx (eApp 8 (eTup (aCons (eFz (eVar 2)) (aNil))))) (sSeq (sIf (tV (eOp neD (eCB reprD (aCons (eCall g_u_law_told [] (aCons (eVar 7) (aCons (eVar 2) (aCons (eVar 3) (aCons (eVar 4) (aCons (eVar 6) (aNil))))))) (aNil))) (eCB reprD (aCons (eCall g_u_law_due [] (aCons (eVar 7) (aCons (eVar 2) (aCons (eVar 3) (aCons (eVar 4) (aCons (eVar 6) (aNil))))))) (aNil))))) (sRt (eC (.bl false))) (sNx)) (sIf (tV (eOp neD (eCB reprD (aCons (eCall g_u_law_told [] (aCons (eVar 7) (aCons (eVar 2) (aCons (eVar 3) (aCons (eVar 4) (aCons (eVar 5) (aNil))))))) (aNil))) (eCB reprD (aCons (eCall g_u_law_due [] (aCons (eVar 7) (aCons (eVar 2) (aCons (eVar 3) (aCons (eVar 4) (aCons (eVar 5) (aNil))))))) (aNil))))) (sRt (eC (.bl false))) (sNx))))))) (sRt (eAn (eCall g_u_law_level_holds [] (aCons (eVar 1) (aNil))) (eCall g_u_law_level_holds [] (aCons (eVar 1) (aNil))))))))))
def g_law : Rho → R Vl := bodyR 9 s_law
theorem ok_law {P : Program} {w : World} {K : PySem.W.Frag} {mg : Str → Option Value} {base : Heap} {f : Addr} {fd : FuncData} (F : FunD K "law" "law" (defArgs (top 58)) (defBody (top 58)) (defScope (top 58)) [] [] f fd) (m : mg "law" = some (.ref f))
    {f_u_law_due : Addr} {fd_u_law_due : FuncData} (c_u_law_due : Cal P w K mg base "_law_due" 2 f_u_law_due fd_u_law_due ["way", "n", "m", "value", "level"] [] g_u_law_due)
    {f_u_law_level : Addr} {fd_u_law_level : FuncData} (c_u_law_level : Cal P w K mg base "_law_level" 5 f_u_law_level fd_u_law_level ["store", "n"] [] g_u_law_level)
    {f_u_law_level_holds : Addr} {fd_u_law_level_holds : FuncData} (c_u_law_level_holds : Cal P w K mg base "_law_level_holds" 7 f_u_law_level_holds fd_u_law_level_holds ["store"] [] g_u_law_level_holds)
    {f_u_law_order : Addr} {fd_u_law_order : FuncData} (c_u_law_order : Cal P w K mg base "_law_order" 3 f_u_law_order fd_u_law_order ["store", "count"] [] g_u_law_order)
    {f_u_law_size : Addr} {fd_u_law_size : FuncData} (c_u_law_size : Cal P w K mg base "_law_size" 4 f_u_law_size fd_u_law_size ["store"] [] g_u_law_size)
    {f_u_law_store : Addr} {fd_u_law_store : FuncData} (c_u_law_store : Cal P w K mg base "_law_store" 1 f_u_law_store fd_u_law_store ["script"] [] g_u_law_store)
    {f_u_law_take : Addr} {fd_u_law_take : FuncData} (c_u_law_take : Cal P w K mg base "_law_take" 2 f_u_law_take fd_u_law_take ["store", "many"] [] g_u_law_take)
    {f_u_law_told : Addr} {fd_u_law_told : FuncData} (c_u_law_told : Cal P w K mg base "_law_told" 10 f_u_law_told fd_u_law_told ["way", "n", "m", "value", "level"] [] g_u_law_told)
    (h_repr : mg "repr" = none) :
    Cal P w K mg base "law" (10 + 1) f fd ["script"] [] (g_law) := by
  refine ok_c F m (kw_of F fun _ _ _ _ _ _ us ws h1 h2 => match us, ws, h1, h2 with | [_], [], _, _ => rfl) sc_law (by decide) fun cdv A outer sh H E hr hg tk hp => ?_
  exact ds_cons (ds_set (i := 1) sc_law.nd rfl (by first | exact Or.inl rfl | exact Or.inr rfl) (x_call c_u_law_store hr (by decide) hg rfl tk rfl (da_cons (dv 0) (da_nil)) (al_cons (al_nil)) rfl)) (ds_cons (ds_unp rfl (x_call c_u_law_size hr (by decide) hg rfl tk rfl (da_cons (dv 1) (da_nil)) (al_cons (al_nil)) rfl) (dgs_cons (dg_name (i := 2) sc_law.nd rfl (by first | exact Or.inl rfl | exact Or.inr rfl)) (dgs_cons (dg_name (i := 3) sc_law.nd rfl (by first | exact Or.inl rfl | exact Or.inr rfl)) (dgs_nil)))) (ds_cons (ds_set (i := 4) sc_law.nd rfl (by first | exact Or.inl rfl | exact Or.inr rfl) (x_call c_u_law_take hr (by decide) hg rfl tk rfl (da_cons (dv 1) (da_cons (dv 3) (da_nil))) (al_cons (al_cons (al_nil))) rfl)) (ds_cons (ds_set (i := 5) sc_law.nd rfl (by first | exact Or.inl rfl | exact Or.inr rfl) (x_call c_u_law_level hr (by decide) hg rfl tk rfl (da_cons (dv 1) (da_cons (dv 2) (da_nil))) (al_cons (al_cons (al_nil))) rfl)) (ds_cons (ds_set (i := 6) sc_law.nd rfl (by first | exact Or.inl rfl | exact Or.inr rfl) (x_call c_u_law_level hr (by decide) hg rfl tk rfl (da_cons (dv 1) (da_cons (dv 2) (da_nil))) (al_cons (al_cons (al_nil))) rfl)) (ds_cons (ds_for hp rfl (di_sq (de_sl (x_call c_u_law_order hr (by decide) hg rfl tk rfl (da_cons (dv 1) (da_cons (de_int) (da_nil))) (al_cons (al_cons (al_nil))) rfl) (do_none) (do_some (de_int)))) (dg_name (i := 7) sc_law.nd rfl (by first | exact Or.inl rfl | exact Or.inr rfl)) (ds_cons (ds_set (i := 8) sc_law.nd rfl (by first | exact Or.inl rfl | exact Or.inr rfl) (x_call c_u_law_told hr (by decide) hg rfl tk rfl (da_cons (dv 7) (da_cons (dv 2) (da_cons (dv 3) (da_cons (dv 4) (da_cons (dv 5) (da_nil)))))) (al_cons (al_cons (al_cons (al_cons (al_cons (al_nil)))))) rfl)) (ds_cons (ds_if (y_ne (de_cb (cr_repr (k := 0) hg (hr.mono (Nat.zero_le _))) so_repr rfl h_repr (by first | rfl | kernel_rfl) (da_cons (dv 8) (da_nil))) (de_cb (cr_repr (k := 0) hg (hr.mono (Nat.zero_le _))) so_repr rfl h_repr (by first | rfl | kernel_rfl) (da_cons (x_call c_u_law_due hr (by decide) hg rfl tk rfl (da_cons (dv 7) (da_cons (dv 2) (da_cons (dv 3) (da_cons (dv 4) (da_cons (dv 5) (da_nil)))))) (al_cons (al_cons (al_cons (al_cons (al_cons (al_nil)))))) rfl) (da_nil)))) (ds_one (ds_ret (de_bl))) (ds_nil)) (ds_cons (ds_expr (de_app (pe_var (i := 8) rfl (by first | exact Or.inl rfl | exact Or.inr (Or.inl rfl) | exact Or.inr (Or.inr rfl))) (de_tup (da_cons (de_fz (dv 2)) (da_nil))))) (ds_cons (ds_if (y_ne (de_cb (cr_repr (k := 0) hg (hr.mono (Nat.zero_le _))) so_repr rfl h_repr (by first | rfl | kernel_rfl) (da_cons (x_call c_u_law_told hr (by decide) hg rfl tk rfl (da_cons (dv 7) (da_cons (dv 2) (da_cons (dv 3) (da_cons (dv 4) (da_cons (dv 6) (da_nil)))))) (al_cons (al_cons (al_cons (al_cons (al_cons (al_nil)))))) rfl) (da_nil))) (de_cb (cr_repr (k := 0) hg (hr.mono (Nat.zero_le _))) so_repr rfl h_repr (by first | rfl | kernel_rfl) (da_cons (x_call c_u_law_due hr (by decide) hg rfl tk rfl (da_cons (dv 7) (da_cons (dv 2) (da_cons (dv 3) (da_cons (dv 4) (da_cons (dv 6) (da_nil)))))) (al_cons (al_cons (al_cons (al_cons (al_cons (al_nil)))))) rfl) (da_nil)))) (ds_one (ds_ret (de_bl))) (ds_nil)) (ds_one (ds_if (y_ne (de_cb (cr_repr (k := 0) hg (hr.mono (Nat.zero_le _))) so_repr rfl h_repr (by first | rfl | kernel_rfl) (da_cons (x_call c_u_law_told hr (by decide) hg rfl tk rfl (da_cons (dv 7) (da_cons (dv 2) (da_cons (dv 3) (da_cons (dv 4) (da_cons (dv 5) (da_nil)))))) (al_cons (al_cons (al_cons (al_cons (al_cons (al_nil)))))) rfl) (da_nil))) (de_cb (cr_repr (k := 0) hg (hr.mono (Nat.zero_le _))) so_repr rfl h_repr (by first | rfl | kernel_rfl) (da_cons (x_call c_u_law_due hr (by decide) hg rfl tk rfl (da_cons (dv 7) (da_cons (dv 2) (da_cons (dv 3) (da_cons (dv 4) (da_cons (dv 5) (da_nil)))))) (al_cons (al_cons (al_cons (al_cons (al_cons (al_nil)))))) rfl) (da_nil)))) (ds_one (ds_ret (de_bl))) (ds_nil)))))))) (ds_one (ds_ret (de_and (x_call c_u_law_level_holds hr (by decide) hg rfl tk rfl (da_cons (dv 1) (da_nil)) (al_cons (al_nil)) rfl) (de_one (x_call c_u_law_level_holds hr (by decide) hg rfl tk rfl (da_cons (dv 1) (da_nil)) (al_cons (al_nil)) rfl))))))))))
end K

set_option Elab.async false
set_option linter.all false
set_option maxRecDepth 100000
set_option maxHeartbeats 0
namespace KH
open PySem PySem.Spec PyProof.Rows L2 L3
def top (i : Nat) : Stmt := PySem.Challenge.pw_onehearing_k79_levels_and_formulas.main.body.getD i (.Pass ⟨0, 0, 0, 0⟩)
def clsIni (s : Stmt) : Stmt := match s with
  | .ClassDef _ _ _ b _ _ _ _ _ _ _ => b.headD (.Pass ⟨0, 0, 0, 0⟩)
  | _ => .Pass ⟨0, 0, 0, 0⟩
def CL : List Str := ["BadRow", "BadLot", "BadFamily", "BadValue", "BadHand", "BadFormula", "BadHouse", "BadText", "BadView", "BadWorld", "BadGroup", "BadTables", "BadPaper", "BadEars", "BadRenaming", "BadGreat", "BadNight", "NotFit", "TooMany", "Unborne"]
def fa0 : List He.Fa := [.glo "compares", .glo "measure", .glo "is_true", .glo "is_counted", .glo "check_counted", .glo "choices", .glo "all_profiles", .glo "profiles_where", .glo "spans_of", .glo "at_least", .glo "preferred", .glo "least_level", .glo "_law_mixed", .glo "_law_store", .glo "_law_take", .glo "_law_between", .glo "_law_chance", .glo "_law_pick", .glo "_law_order", .glo "_law_any_number", .glo "_law_numbers", .glo "_law_all_profiles", .glo "_law_profile_count", .glo "_law_size", .glo "_law_level", .glo "_law_told", .glo "_law_due", .glo "_law_told_level", .glo "_law_due_level", .glo "_law_level_holds"]
def fa1 : List He.Fa := [.glo "law", .glo "HearingError", .glo "BadRow", .glo "BadLot", .glo "BadFamily", .glo "BadValue", .glo "BadHand", .glo "BadFormula", .glo "BadHouse", .glo "BadText", .glo "BadView", .glo "BadWorld", .glo "BadGroup", .glo "BadTables", .glo "BadPaper", .glo "BadEars", .glo "BadRenaming", .glo "BadGreat", .glo "BadNight", .glo "NotFit", .glo "TooMany", .glo "Unborne", .free "ValueError", .free "abs", .free "int", .free "isinstance", .free "len", .free "list", .free "max", .free "min"]
def fa2 : List He.Fa := [.free "range", .free "repr", .free "sum", .free "super", .int "MOST_PROFILES" 400]
def fa : List He.Fa := fa0 ++ fa1 ++ fa2
def d_compares : He.DefD := ⟨("compares", none), "compares", "compares", defArgs (top 23), defBody (top 23), defScope (top 23), [], []⟩
def d_measure : He.DefD := ⟨("measure", none), "measure", "measure", defArgs (top 24), defBody (top 24), defScope (top 24), [], []⟩
def d_is_true : He.DefD := ⟨("is_true", none), "is_true", "is_true", defArgs (top 25), defBody (top 25), defScope (top 25), [], []⟩
def d_is_counted : He.DefD := ⟨("is_counted", none), "is_counted", "is_counted", defArgs (top 26), defBody (top 26), defScope (top 26), [], []⟩
def d_check_counted : He.DefD := ⟨("check_counted", none), "check_counted", "check_counted", defArgs (top 29), defBody (top 29), defScope (top 29), [], []⟩
def d_choices : He.DefD := ⟨("choices", none), "choices", "choices", defArgs (top 30), defBody (top 30), defScope (top 30), [], []⟩
def d_all_profiles : He.DefD := ⟨("all_profiles", none), "all_profiles", "all_profiles", defArgs (top 31), defBody (top 31), defScope (top 31), [], []⟩
def d_profiles_where : He.DefD := ⟨("profiles_where", none), "profiles_where", "profiles_where", defArgs (top 32), defBody (top 32), defScope (top 32), [], []⟩
def d_spans_of : He.DefD := ⟨("spans_of", none), "spans_of", "spans_of", defArgs (top 34), defBody (top 34), defScope (top 34), [], []⟩
def d_at_least : He.DefD := ⟨("at_least", none), "at_least", "at_least", defArgs (top 36), defBody (top 36), defScope (top 36), [], []⟩
def d_preferred : He.DefD := ⟨("preferred", none), "preferred", "preferred", defArgs (top 37), defBody (top 37), defScope (top 37), [], []⟩
def d_least_level : He.DefD := ⟨("least_level", none), "least_level", "least_level", defArgs (top 38), defBody (top 38), defScope (top 38), [], []⟩
def d_u_law_mixed : He.DefD := ⟨("_law_mixed", none), "_law_mixed", "_law_mixed", defArgs (top 40), defBody (top 40), defScope (top 40), [], []⟩
def d_u_law_store : He.DefD := ⟨("_law_store", none), "_law_store", "_law_store", defArgs (top 41), defBody (top 41), defScope (top 41), [], []⟩
def d_u_law_take : He.DefD := ⟨("_law_take", none), "_law_take", "_law_take", defArgs (top 42), defBody (top 42), defScope (top 42), [], []⟩
def d_u_law_between : He.DefD := ⟨("_law_between", none), "_law_between", "_law_between", defArgs (top 43), defBody (top 43), defScope (top 43), [], []⟩
def d_u_law_chance : He.DefD := ⟨("_law_chance", none), "_law_chance", "_law_chance", defArgs (top 44), defBody (top 44), defScope (top 44), [], []⟩
def d_u_law_pick : He.DefD := ⟨("_law_pick", none), "_law_pick", "_law_pick", defArgs (top 45), defBody (top 45), defScope (top 45), [], []⟩
def d_u_law_order : He.DefD := ⟨("_law_order", none), "_law_order", "_law_order", defArgs (top 46), defBody (top 46), defScope (top 46), [], []⟩
def d_u_law_any_number : He.DefD := ⟨("_law_any_number", none), "_law_any_number", "_law_any_number", defArgs (top 47), defBody (top 47), defScope (top 47), [], []⟩
def d_u_law_numbers : He.DefD := ⟨("_law_numbers", none), "_law_numbers", "_law_numbers", defArgs (top 48), defBody (top 48), defScope (top 48), [], []⟩
def d_u_law_all_profiles : He.DefD := ⟨("_law_all_profiles", none), "_law_all_profiles", "_law_all_profiles", defArgs (top 49), defBody (top 49), defScope (top 49), [], []⟩
def d_u_law_profile_count : He.DefD := ⟨("_law_profile_count", none), "_law_profile_count", "_law_profile_count", defArgs (top 50), defBody (top 50), defScope (top 50), [], []⟩
def d_u_law_size : He.DefD := ⟨("_law_size", none), "_law_size", "_law_size", defArgs (top 51), defBody (top 51), defScope (top 51), [], []⟩
def d_u_law_level : He.DefD := ⟨("_law_level", none), "_law_level", "_law_level", defArgs (top 52), defBody (top 52), defScope (top 52), [], []⟩
def d_u_law_told : He.DefD := ⟨("_law_told", none), "_law_told", "_law_told", defArgs (top 53), defBody (top 53), defScope (top 53), [], []⟩
def d_u_law_due : He.DefD := ⟨("_law_due", none), "_law_due", "_law_due", defArgs (top 54), defBody (top 54), defScope (top 54), [], []⟩
def d_u_law_told_level : He.DefD := ⟨("_law_told_level", none), "_law_told_level", "_law_told_level", defArgs (top 55), defBody (top 55), defScope (top 55), [], []⟩
def d_u_law_due_level : He.DefD := ⟨("_law_due_level", none), "_law_due_level", "_law_due_level", defArgs (top 56), defBody (top 56), defScope (top 56), [], []⟩
def d_u_law_level_holds : He.DefD := ⟨("_law_level_holds", none), "_law_level_holds", "_law_level_holds", defArgs (top 57), defBody (top 57), defScope (top 57), [], []⟩
def d_law : He.DefD := ⟨("law", none), "law", "law", defArgs (top 58), defBody (top 58), defScope (top 58), [], []⟩
def fn : List He.DefD := [d_compares, d_measure, d_is_true, d_is_counted, d_check_counted, d_choices, d_all_profiles, d_profiles_where, d_spans_of, d_at_least, d_preferred, d_least_level, d_u_law_mixed, d_u_law_store, d_u_law_take, d_u_law_between, d_u_law_chance, d_u_law_pick, d_u_law_order, d_u_law_any_number, d_u_law_numbers, d_u_law_all_profiles, d_u_law_profile_count, d_u_law_size, d_u_law_level, d_u_law_told, d_u_law_due, d_u_law_told_level, d_u_law_due_level, d_u_law_level_holds, d_law]
def p_HearingError : SupR := ⟨"HearingError", "HearingError.__init__", defArgs (clsIni (top 1)), defBody (clsIni (top 1)), defScope (clsIni (top 1))⟩
def p_BadFormula : SupR := ⟨"BadFormula", "BadFormula.__init__", defArgs (clsIni (top 7)), defBody (clsIni (top 7)), defScope (clsIni (top 7))⟩
def p_BadGreat : SupR := ⟨"BadGreat", "BadGreat.__init__", defArgs (clsIni (top 17)), defBody (clsIni (top 17)), defScope (clsIni (top 17))⟩
def p_TooMany : SupR := ⟨"TooMany", "TooMany.__init__", defArgs (clsIni (top 20)), defBody (clsIni (top 20)), defScope (clsIni (top 20))⟩
def sp : List SupR := [p_HearingError, p_BadFormula, p_BadGreat, p_TooMany]
def chk (K : PySem.W.Frag) : Bool := catB K CL && exB K "BadFormula" "HearingError" ["at"] && exB K "BadGreat" "HearingError" ["field"] && exB K "TooMany" "HearingError" ["what", "limit"]
def names0 : List PySem.Str := ["HearingError", "BadRow", "BadLot", "BadFamily", "BadValue", "BadHand", "BadFormula", "BadHouse", "BadText", "BadView", "BadWorld", "BadGroup", "BadTables", "BadPaper", "BadEars", "BadRenaming", "BadGreat", "BadNight", "NotFit", "TooMany", "Unborne", "compares", "measure", "is_true", "is_counted", "MOST_PROFILES", "check_counted", "choices", "all_profiles", "profiles_where"]
def names1 : List PySem.Str := ["spans_of", "at_least", "preferred", "least_level", "_law_mixed", "_law_store", "_law_take", "_law_between", "_law_chance", "_law_pick", "_law_order", "_law_any_number", "_law_numbers", "_law_all_profiles", "_law_profile_count", "_law_size", "_law_level", "_law_told", "_law_due", "_law_told_level", "_law_due_level", "_law_level_holds"]
def names : List PySem.Str := names0 ++ names1
abbrev R : PySem.W.OpenRow := PySem.W.OpenLaw.row PySem.Challenge.rw_onehearing_k79_levels_and_formulas
def file : Str := PySem.Challenge.pw_onehearing_k79_levels_and_formulas.main.file
abbrev hk : PySem.W.Hook := hookX file 5 fa fn sp chk
def ob (s : PySem.W.SharedT) : AlX := obsXG file 5 fa fn sp chk (HandSHeadRun.getT s)
theorem ob_eq (s : PySem.W.SharedT) : ob s = hk.obs s.abs := obsXG_eq (HandSHeadRun.getT_eq s)
theorem run (w : World) : HandSHeadRun.RunEq R (PySem.W.view R.prog [58]) hk ob 20000 names w := by
  intro os
  kernel_rfl
end KH

set_option linter.all false
set_option maxRecDepth 100000
set_option maxHeartbeats 2000000
namespace K
open PySem PySem.Spec PyProof.Rows L2 L3
theorem mixed_w {x t : Int} {P : Vl → Rho → Prop} (h0 : 0 ≤ t) (h1 : t < 1000000000000000) (h : ∀ r : Int, 0 ≤ r → r < 2147483587 → P (.d (.int r)) [.d (.int x), .d (.int t)]) : W1 (g_u_law_mixed [.d (.int x), .d (.int t)]) P := by
  refine w_body ?_
  unfold s_u_law_mixed argE
  simp [mkPar, merge]
  refine ⟨⟨sm_of (by omega) (by omega), sm_of (by omega) (by omega)⟩, ⟨sm_of (by omega) (by omega), sm_of (by omega) (by omega)⟩, ?_⟩
  have hf0 : 0 ≤ (x % 2147483647 * 48271 + t * 69621 + 12345) % 2147483647 := by omega
  have hf1 : (x % 2147483647 * 48271 + t * 69621 + 12345) % 2147483647 < 2147483647 := by omega
  generalize ((x % 2147483647 * 48271 + t * 69621 + 12345) % 2147483647) = f at *
  have hg0 : 0 ≤ (f * f + f * 40692 + t * 7919 + 977) % 2147483629 := by omega
  have hg1 : (f * f + f * 40692 + t * 7919 + 977) % 2147483629 < 2147483629 := by omega
  generalize ((f * f + f * 40692 + t * 7919 + 977) % 2147483629) = g at *
  have k0 : 0 ≤ (g * g + g * 16807 + f / 31 + t) % 2147483587 := by omega
  have k1 : (g * g + g * 16807 + f / 31 + t) % 2147483587 < 2147483587 := by omega
  have q := h _ k0 k1
  exact ⟨sm_of (by omega) (by omega), ⟨sm_of (by omega) (by omega), sm_of (by omega) (by omega)⟩, ⟨sm_of (by omega) (by omega), sm_of (by omega) (by omega)⟩, sm_of (by omega) (by omega), ⟨sm_of (by omega) (by omega), sm_of (by omega) (by omega)⟩, q⟩
/-! the store -/
structure St where
  cells : List Int
  a : Int
  b : Int
  c : Int
  d : Int
  e : Int
  w : Int
def St.D (s : St) : List D := [.lst (s.cells.map .int), .int s.a, .int s.b, .int s.c, .int s.d, .int s.e, .int s.w]
structure Good (n : Nat) (s : St) : Prop where
  len : s.cells.length ≤ 63
  a0 : 0 ≤ s.a
  a1 : s.a ≤ s.cells.length
  b0 : 0 ≤ s.b
  c0 : 0 ≤ s.c
  e0 : 0 ≤ s.e
  e1 : s.e ≤ n
theorem Good.mono {n m : Nat} {s : St} (g : Good n s) (h : n ≤ m) : Good m s := { g with e1 := by have := g.e1; omega }
theorem ten18 : (10 : Int) ^ 18 = 1000000000000000000 := by decide
theorem take_w {n : Nat} {s : St} (g : Good n s) (hn : n < 100000000) {many : Int} (hm : many < 1073741824) {P : Vl → Rho → Prop} (h : ∀ (r : Int) (s' : St), Good (n + 1) s' → 0 ≤ r → (r = 0 ∨ r < many) → P (.d (.int r)) [.o true (.lst s'.D), .d (.int many)]) :
    W1 (g_u_law_take [.o true (.lst s.D), .d (.int many)]) P := by
  obtain ⟨cells, a, b, c, d, e, w⟩ := s
  obtain ⟨g1, g2, g3, g4, g5, g6, g7⟩ := g
  dsimp only at *
  refine i_body fun TT t1 t2 t3 => ?_
  unfold s_u_law_take argE St.D
  simp only [List.map_cons, List.map_nil, mkPar, List.length_cons, List.length_nil, List.cons_append, List.nil_append]
  refine i_seq fun N1 n1 => ?_
  simp
  refine ⟨fun hlt => t1 _ _ ?_, fun hge => n1 _ ?_⟩
  · simp [merge]
    exact h 0 ⟨cells, a, b, c, d, e, w⟩ ⟨g1, g2, g3, g4, g5, g6, by dsimp only; omega⟩ (by omega) (.inl rfl)
  refine i_seq fun N2 n2 => ?_
  have fin : ∀ (s2 : St) (X : Sl), Good n s2 → N2 [Sl.o true (MO.lst s2.D), Sl.d (.int many), X, .un, .un] := by
    intro s2 X gg
    refine n2 _ ?_
    obtain ⟨cells, a, b, c, d, e, w⟩ := s2
    obtain ⟨g1, g2, g3, g4, g5, g6, g7⟩ := gg
    dsimp only at *
    unfold St.D
    refine i_seq fun N3 n3 => ?_
    simp [L2.atI, L2.ixN]
    refine ⟨fun hb => ⟨by omega, ⟨by omega, by omega⟩, t1 _ _ ?_⟩, fun hb => n3 _ ?_⟩
    · simp [merge]
      exact h (b % many) ⟨cells, a, b / many, c, d, e, w⟩ ⟨g1, g2, g3, Int.ediv_nonneg (by omega) (by omega), g5, g6, by dsimp only; omega⟩ (Int.emod_nonneg _ (by omega)) (.inr (Int.emod_lt_of_pos _ (by omega)))
    refine i_seq fun N4 n4 => ?_
    simp [L2.atI, L2.ixN]
    refine n4 _ ?_
    have last : ∀ (NL : Rho → Prop) (c' y : Int), 0 ≤ c' → WS (sSeq (sSx 0 (eC (.int 5)) (eOp addD (eOp ixD (eVar 0) (eC (.int 5))) (eC (.int 1)))) (sRt (eOp modD (eCB L3.intD (aCons (eOp fdivD (eCall g_u_law_mixed [] (aCons (eVar 4) (aCons (eOp ixD (eVar 0) (eC (.int 5))) aNil))) (eC (.int 64))) aNil)) (eVar 1)))
        [Sl.o true (MO.lst [D.lst (List.map D.int cells), D.int a, D.int b, D.int c', D.int d, D.int e, D.int w]), Sl.d (D.int many), X, .un, .d (.int y)])
        NL TT := by
      intro NL c' y hc'
      refine i_seq fun N6 n6 => ?_
      simp [L2.atI, L2.ixN]
      refine n6 _ ?_
      simp [L2.atI, L2.ixN]
      refine w_call rfl (by simp [slotsOf]) (mixed_w (by omega) (by omega) fun r r0 r1 => ?_)
      simp [putBack]
      refine ⟨by omega, t1 _ _ ?_⟩
      simp [merge]
      exact h _ ⟨cells, a, b, c', d, e + 1, w⟩ ⟨g1, g2, g3, g4, hc', by dsimp only; omega, by dsimp only; omega⟩ (Int.emod_nonneg _ (by omega)) (.inr (Int.emod_lt_of_pos _ (by omega)))
    refine i_seq fun N5 n5 => ?_
    simp [L2.atI, L2.ixN]
    exact ⟨fun hc => n5 _ (last _ (c - 1) d (by omega)), fun hc => n5 _ (last _ c w g5)⟩
  simp [L2.atI, L2.ixN]
  refine ⟨fun hb => ⟨fun hc => ⟨fun ha => ?_, fun ha => fin ⟨cells, a, b, c, d, e, w⟩ _ ⟨g1, g2, g3, g4, g5, g6, g7⟩⟩, fun hc => fin ⟨cells, a, b, c, d, e, w⟩ _ ⟨g1, g2, g3, g4, g5, g6, g7⟩⟩, fun hb => fin ⟨cells, a, b, c, d, e, w⟩ _ ⟨g1, g2, g3, g4, g5, g6, g7⟩⟩
  have ha2 : a.toNat < cells.length := by omega
  rw [if_pos g2, if_pos ha]
  simp [ha2]
  obtain ⟨y, hy, hy0⟩ : ∃ y, (if cells[a.toNat] < 0 then -cells[a.toNat] else cells[a.toNat]) = y ∧ 0 ≤ y := ⟨_, rfl, by split <;> omega⟩
  rw [hy]
  refine ⟨fun big => fin ⟨cells, a + 1, y, c, d, e, w⟩ _ ⟨g1, by dsimp only; omega, by dsimp only; omega, by dsimp only; omega, g5, g6, g7⟩, fun small => ?_⟩
  refine w_call rfl (by simp [slotsOf]) (mixed_w (by omega) (by omega) fun r r0 r1 => ?_)
  simp [putBack, L2.ixN]
  exact fin ⟨cells, a + 1, b, 3, r, e, w⟩ _ ⟨g1, by dsimp only; omega, by dsimp only; omega, g4, by dsimp only; omega, g6, g7⟩
end K

set_option linter.all false
set_option maxRecDepth 100000
set_option maxHeartbeats 2000000
namespace K
open PySem PySem.Spec PyProof.Rows L2 L3
variable {n : Nat} {s : St} {P : Vl → Rho → Prop}
theorem between_w (g : Good n s) (hn : n < 100000000) {lo hi : Int} (hm : hi - lo < 1000000000) (h : ∀ (r : Int) (s' : St), Good (n + 1) s' → lo ≤ r → (r = lo ∨ r ≤ hi) → P (.d (.int r)) [.o true (.lst s'.D), .d (.int lo), .d (.int hi)]) :
    W1 (g_u_law_between [.o true (.lst s.D), .d (.int lo), .d (.int hi)]) P := by
  refine i_body fun TT t1 t2 t3 => ?_
  unfold s_u_law_between argE
  simp [mkPar]
  refine w_call rfl (by simp [slotsOf]) (take_w g hn (by omega) fun r s' g' r0 r1 => ?_)
  simp [putBack]
  refine t1 _ _ ?_
  simp [merge]
  exact h _ s' g' (by omega) (by omega)
theorem chance_w (g : Good n s) (hn : n < 100000000) {k : Int} (hm : k < 1000000000) (h : ∀ (b : Bool) (s' : St), Good (n + 1) s' → P (.d (.bl b)) [.o true (.lst s'.D), .d (.int k)]) :
    W1 (g_u_law_chance [.o true (.lst s.D), .d (.int k)]) P := by
  refine i_body fun TT t1 t2 t3 => ?_
  unfold s_u_law_chance argE
  simp [mkPar]
  refine w_call rfl (by simp [slotsOf]) (take_w g hn (by omega) fun r s' g' r0 r1 => ?_)
  simp [putBack]
  refine t1 _ _ ?_
  simp [merge]
  exact h _ s' g'
theorem atI_mem {α : Type} {xs : List α} {i : Int} (h0 : 0 ≤ i) (h1 : i < xs.length) : ∃ x ∈ xs, L2.atI xs i = some x := by
  obtain ⟨h, e⟩ := atI_in h0 h1
  exact ⟨_, List.getElem_mem h, e⟩
theorem pick_w (g : Good n s) (hn : n < 100000000) {xs : List D} (h0 : 0 < xs.length) (hm : xs.length < 1000000) (h : ∀ (x : D) (s' : St), Good (n + 1) s' → x ∈ xs → P (.d x) [.o true (.lst s'.D), .d (.lst xs)]) :
    W1 (g_u_law_pick [.o true (.lst s.D), .d (.lst xs)]) P := by
  refine i_body fun TT t1 t2 t3 => ?_
  unfold s_u_law_pick argE
  simp [mkPar]
  refine w_call rfl (by simp [slotsOf]) (take_w g hn (by omega) fun r s' g' r0 r1 => ?_)
  simp [putBack]
  obtain ⟨x, hx, e⟩ := atI_mem (xs := xs) r0 (by omega)
  rw [e]
  refine t1 _ _ ?_
  simp [merge]
  exact h _ s' g' hx
theorem size_w (g : Good n s) (hn : n < 10000000) (h : ∀ (a b : Int) (s' : St), Good (n + 5) s' → 1 ≤ a → a ≤ 60 → 1 ≤ b → b ≤ 4 → P (.d (.tup [.int a, .int b])) [.o true (.lst s'.D)]) :
    W1 (g_u_law_size [.o true (.lst s.D)]) P := by
  refine i_body fun TT t1 t2 t3 => ?_
  unfold s_u_law_size argE
  simp only [List.map_cons, List.map_nil, mkPar, List.length_cons, List.length_nil, List.cons_append, List.nil_append]
  refine i_seq fun N1 n1 => ?_
  simp
  refine w_call rfl (by simp [slotsOf]) (take_w g (by omega) (by omega) fun r s1 g1 r0 r1 => ?_)
  simp [putBack]
  refine n1 _ ?_
  refine i_seq fun N2 n2 => ?_
  simp
  refine ⟨fun e => ?_, fun e => n2 _ ?_⟩
  · refine w_call rfl (by simp [slotsOf]) (pick_w g1 (by omega) (by simp) (by simp) fun x s2 g2 hx => ?_)
    simp [putBack]
    refine t1 _ _ ?_
    simp [merge]
    simp at hx
    rcases hx with rfl | rfl | rfl | rfl | rfl | rfl | rfl | rfl | rfl <;> exact h _ _ s2 (g2.mono (by omega)) (by omega) (by omega) (by omega) (by omega)
  · refine i_seq fun N3 n3 => ?_
    simp
    refine ⟨fun e => ?_, fun e => n3 _ ?_⟩
    · refine w_call rfl (by simp [slotsOf]) (take_w g1 (by omega) (by omega) fun x s2 g2 x0 x1 => ?_)
      simp [putBack]
      refine w_call rfl (by simp [slotsOf]) (take_w g2 (by omega) (by omega) fun y s3 g3 y0 y1 => ?_)
      simp [putBack]
      refine t1 _ _ ?_
      simp [merge]
      exact h _ _ s3 (g3.mono (by omega)) (by omega) (by omega) (by omega) (by omega)
    · simp
      refine w_call rfl (by simp [slotsOf]) (take_w g1 (by omega) (by omega) fun x s2 g2 x0 x1 => ?_)
      simp [putBack]
      refine w_call rfl (by simp [slotsOf]) (take_w g2 (by omega) (by omega) fun y s3 g3 y0 y1 => ?_)
      simp [putBack]
      refine t1 _ _ ?_
      simp [merge]
      exact h _ _ s3 (g3.mono (by omega)) (by omega) (by omega) (by omega) (by omega)
end K

set_option linter.all false
set_option maxRecDepth 100000
set_option maxHeartbeats 2000000
namespace K
open PySem PySem.Spec PyProof.Rows L2 L3
variable {n : Nat} {s : St} {P : Vl → Rho → Prop}
def big : Int := 10 ^ 40
theorem big_eq : big = 10000000000000000000000000000000000000000 := by decide +kernel
theorem sm_big {i : Int} (h : -(big * big) < i) (h' : i < big * big) : sm i = true := by
  refine decide_eq_true ?_
  have e : big * big = 100000000000000000000000000000000000000000000000000000000000000000000000000000000 := by decide +kernel
  rw [e] at h h'
  have : i.natAbs < 100000000000000000000000000000000000000000000000000000000000000000000000000000000 := by omega
  exact Nat.lt_of_lt_of_le this (by decide +kernel)
theorem bigbig : big * big = 100000000000000000000000000000000000000000000000000000000000000000000000000000000 := by decide +kernel
theorem any_w (g : Good n s) (hn : n < 10000000) (h : ∀ (r : Int) (s' : St), Good (n + 9) s' → -big < r → r < big → P (.d (.int r)) [.o true (.lst s'.D)]) : W1 (g_u_law_any_number [.o true (.lst s.D)]) P := by
  rw [big_eq] at h
  refine i_body fun TT t1 t2 t3 => ?_
  unfold s_u_law_any_number argE
  simp only [List.map_cons, List.map_nil, mkPar, List.length_cons, List.length_nil, List.cons_append, List.nil_append]
  refine i_seq fun N1 n1 => ?_
  simp
  refine w_call rfl (by simp [slotsOf]) (take_w g (by omega) (by omega) fun r s1 g1 r0 r1 => ?_)
  simp [putBack]
  refine n1 _ ?_
  refine i_seq fun N2 n2 => ?_
  simp
  refine ⟨fun e => ?_, fun e => n2 _ ?_⟩
  · refine w_call rfl (by simp [slotsOf]) (pick_w g1 (by omega) (by simp) (by simp) fun x s2 g2 hx => ?_)
    simp [putBack]
    simp at hx
    have : ∃ i : Int, x = .int i ∧ -10000000000000000000000000000000000000000 < i ∧ i < 10000000000000000000000000000000000000000 := by
      rcases hx with rfl | rfl | rfl | rfl | rfl | rfl | rfl | rfl | rfl | rfl | rfl | rfl | rfl | rfl | rfl | rfl | rfl | rfl | rfl <;> exact ⟨_, rfl, by decide +kernel, by decide +kernel⟩
    obtain ⟨i, rfl, i0, i1⟩ := this
    refine t1 _ _ ?_
    simp [merge]
    exact h _ s2 (g2.mono (by omega)) i0 i1
  refine i_seq fun N3 n3 => ?_
  simp
  refine ⟨fun e => ?_, fun e => n3 _ ?_⟩
  · refine w_call rfl (by simp [slotsOf]) (between_w g1 (by omega) (by omega) fun x s2 g2 x0 x1 => ?_)
    simp [putBack]
    refine t1 _ _ ?_
    simp [merge]
    exact h _ s2 (g2.mono (by omega)) (by omega) (by omega)
  refine i_seq fun N4 n4 => ?_
  simp
  refine n4 _ ?_
  refine i_seq fun N5 n5 => ?_
  simp
  refine w_for (fun k ρ => ∃ (s' : St) (v : Int) (X : Sl), k ≤ 5 ∧ (∀ q m, X ≠ .o q m) ∧ Good (n + 1 + k) s' ∧ 0 ≤ v ∧ v < 1000000 ^ k ∧ ρ = [.o true (.lst s'.D), .d (.int r), .un, .d (.int v), X]) ⟨s1, 0, .un, by omega, fun _ _ z => (nomatch z), g1, by omega, by decide, rfl⟩ ?_ ?_
  · rintro k x ρ hk ⟨s', v, X, k5, hX, g', v0, v1, rfl⟩
    obtain ⟨rfl, hk5⟩ := rngD_at hk
    have h2 : WS (sSet 3 (eOp addD (eOp mulD (eVar 3) (eC (.int 1000000))) (eCall g_u_law_take [] (aCons (eVar 0) (aCons (eC (.int 1000000)) aNil)))) [.o true (.lst s'.D), .d (.int r), .un, .d (.int v), .d (.int k)])
        (fun ρ => ∃ (s' : St) (v : Int) (X : Sl), k + 1 ≤ 5 ∧ (∀ q m, X ≠ .o q m) ∧ Good (n + 1 + (k + 1)) s' ∧ 0 ≤ v ∧ v < 1000000 ^ (k + 1) ∧ ρ = [.o true (.lst s'.D), .d (.int r), .un, .d (.int v), X]) TT := by
      have pk : (1000000 : Int) ^ k ≤ 1000000 ^ 5 := by
        have : k = 0 ∨ k = 1 ∨ k = 2 ∨ k = 3 ∨ k = 4 := by omega
        rcases this with rfl | rfl | rfl | rfl | rfl <;> decide +kernel
      have p5 : (1000000 : Int) ^ 5 = 1000000000000000000000000000000 := by decide +kernel
      rw [p5] at pk
      refine i_keep fun NN nn => ?_
      simp
      refine ⟨⟨sm_big (by rw [bigbig]; omega) (by rw [bigbig]; omega), sm_of (by omega) (by omega)⟩, ?_⟩
      refine w_call rfl (by simp [slotsOf]) (take_w g' (by omega) (by omega) fun y s2 g2 y0 y1 => ?_)
      simp [putBack]
      have e : (1000000 : Int) ^ (k + 1) = 1000000 ^ k * 1000000 := by rw [Int.pow_succ]
      exact nn _ ⟨s2, _, .d (.int k), by omega, fun _ _ z => (nomatch z), g2, by omega, by rw [e]; omega, rfl⟩
    cases X with
    | un => simpa using h2
    | d z => simpa using h2
    | o q m => exact absurd rfl (hX q m)
    | ex fs => simpa using h2
  · rintro ρ ⟨s', v, X, k5, hX, g', v0, v1, rfl⟩
    rw [rngD_len] at g' v1
    have p5 : (1000000 : Int) ^ (Int.toNat 5) = 1000000000000000000000000000000 := by decide +kernel
    rw [p5] at v1
    have g' : Good (n + 1 + 5) s' := g'
    refine n5 _ ?_
    refine i_seq fun N6 n6 => ?_
    simp
    refine w_call rfl (by simp [slotsOf]) (chance_w g' (by omega) (by omega) fun b s2 g2 => ?_)
    simp [putBack]
    refine ⟨fun hb => t1 _ _ ?_, fun hb => n6 _ ?_⟩
    · simp [merge]
      exact h _ s2 (g2.mono (by omega)) (by omega) (by omega)
    · simp
      refine t1 _ _ ?_
      simp [merge]
      exact h _ s2 (g2.mono (by omega)) (by omega) (by omega)
end K

set_option linter.all false
set_option maxRecDepth 100000
set_option maxHeartbeats 2000000
namespace K
open PySem PySem.Spec PyProof.Rows L2 L3
variable {n : Nat} {s : St} {P : Vl → Rho → Prop}
theorem level_w (g : Good n s) (hn : n < 9000000) {m : Int} (m0 : 0 ≤ m) (m1 : m ≤ 60) (h : ∀ (r : Int) (s' : St), Good (n + 10) s' → -big < r → r < big → P (.d (.int r)) [.o true (.lst s'.D), .d (.int m)]) : W1 (g_u_law_level [.o true (.lst s.D), .d (.int m)]) P := by
  refine i_body fun TT t1 t2 t3 => ?_
  unfold s_u_law_level argE
  simp only [List.map_cons, List.map_nil, mkPar, List.length_cons, List.length_nil, List.cons_append, List.nil_append]
  refine i_seq fun N1 n1 => ?_
  simp
  refine w_call rfl (by simp [slotsOf]) (chance_w g (by omega) (by omega) fun b s1 g1 => ?_)
  simp [putBack]
  refine ⟨fun hb => ?_, fun hb => n1 _ ?_⟩
  · refine w_call rfl (by simp [slotsOf]) (any_w g1 (by omega) fun r s2 g2 r0 r1 => ?_)
    simp [putBack]
    refine t1 _ _ ?_
    simp [merge]
    exact h _ s2 (g2.mono (by omega)) r0 r1
  · simp
    refine w_call rfl (by simp [slotsOf]) (between_w (lo := -1) (hi := m + 2) g1 (by omega) (by omega) fun x s2 g2 x0 x1 => ?_)
    simp [putBack]
    refine t1 _ _ ?_
    simp [merge]
    exact h _ s2 (g2.mono (by omega)) (by rw [big_eq]; omega) (by rw [big_eq]; omega)
theorem numbers_w (g : Good n s) (hn : n < 10000000) {m : Int} (m0 : 2 ≤ m) (m1 : m ≤ 60) (h : ∀ (a b c d : Int) (s' : St), Good (n + 9) s' → 0 ≤ a → a ≤ 60 → 0 ≤ b → b ≤ 60 → 0 ≤ c → c ≤ 60 → 0 ≤ d → d ≤ 60 → P (.f (.lst [.int a, .int b, .int c, .int d])) [.o true (.lst s'.D), .d (.int m)]) :
    W1 (g_u_law_numbers [.o true (.lst s.D), .d (.int m)]) P := by
  refine i_body fun TT t1 t2 t3 => ?_
  unfold s_u_law_numbers argE
  simp only [List.map_cons, List.map_nil, mkPar, List.length_cons, List.length_nil, List.cons_append, List.nil_append]
  refine i_seq fun N1 n1 => ?_
  simp
  refine n1 _ ?_
  refine i_seq fun N2 n2 => ?_
  simp
  refine w_call rfl (by simp [slotsOf]) (take_w g (by omega) (by omega) fun r s1 g1 r0 r1 => ?_)
  simp [putBack]
  refine n2 _ ?_
  refine i_seq fun N3 n3 => ?_
  have a3 : ∀ (s2 : St) (l : Int), Good (n + 3) s2 → 0 ≤ l → l ≤ (m - 2) / 2 → N3 [.o true (.lst s2.D), .d (.int m), .d (.int (m - 2)), .d (.int l), .un] := by
    intro s2 l g2 l0 l1
    refine n3 _ ?_
    refine i_seq fun N4 n4 => ?_
    simp
    refine ⟨⟨sm_of (by omega) (by omega), sm_of (by omega) (by omega)⟩, n4 _ ?_⟩
    refine i_seq fun N5 n5 => ?_
    simp
    refine w_call rfl (by simp [slotsOf]) (take_w g2 (by omega) (by omega) fun x s3 g3 x0 x1 => ?_)
    simp [putBack]
    refine n5 _ ?_
    refine i_seq fun N6 n6 => ?_
    have a6 : ∀ (s4 : St) (y : Int), Good (n + 6) s4 → 0 ≤ y → y ≤ m - 2 - 2 * l → N6 [.o true (.lst s4.D), .d (.int m), .d (.int (m - 2 - 2 * l)), .d (.int l), .d (.int y)] := by
      intro s4 y g4 y0 y1
      refine n6 _ ?_
      refine i_seq fun N7 n7 => ?_
      have a7 : ∀ (s5 : St) (z : Int), Good (n + 7) s5 → 0 ≤ z → z ≤ m - 2 - 2 * l → N7 [.o true (.lst s5.D), .d (.int m), .d (.int (m - 2 - 2 * l)), .d (.int l), .d (.int z)] := by
        intro s5 z g5 z0 z1
        refine n7 _ ?_
        simp
        refine w_call rfl (by simp [slotsOf]) (take_w g5 (by omega) (by omega) fun u s6 g6 u0 u1 => ?_)
        simp [putBack]
        refine w_call rfl (by simp [slotsOf]) (take_w g6 (by omega) (by omega) fun w s7 g7 w0 w1 => ?_)
        simp [putBack]
        refine t2 _ _ ?_
        simp [merge]
        exact h z l u w s7 g7 (by omega) (by omega) (by omega) (by omega) (by omega) (by omega) (by omega) (by omega)
      simp
      refine w_call rfl (by simp [slotsOf]) (chance_w g4 (by omega) (by omega) fun b s5 g5 => ?_)
      simp [putBack]
      exact ⟨fun hb => a7 s5 _ g5 (by omega) (by omega), fun hb => a7 s5 _ g5 y0 y1⟩
    simp
    refine w_call rfl (by simp [slotsOf]) (chance_w g3 (by omega) (by omega) fun b s4 g4 => ?_)
    simp [putBack]
    refine ⟨fun hb => ?_, fun hb => a6 s4 _ (g4.mono (by omega)) x0 (by omega)⟩
    refine w_call rfl (by simp [slotsOf]) (take_w g4 (by omega) (by omega) fun y s5 g5 y0 y1 => ?_)
    simp [putBack]
    exact a6 s5 _ g5 (by omega) (by omega)
  simp
  refine w_call rfl (by simp [slotsOf]) (chance_w g1 (by omega) (by omega) fun b s2 g2 => ?_)
  simp [putBack]
  refine ⟨fun hb => ?_, fun hb => a3 s2 _ (g2.mono (by omega)) r0 (by omega)⟩
  refine w_call rfl (by simp [slotsOf]) (take_w g2 (by omega) (by omega) fun y s3 g3 y0 y1 => ?_)
  simp [putBack]
  exact a3 s3 _ g3 (by omega) (by omega)
def Six (xs : List D) : Prop := xs.length = 6 ∧ ∀ x ∈ xs, ∃ i : Int, x = .int i ∧ 0 ≤ i ∧ i < 6
theorem Six.set {xs : List D} (h : Six xs) {x : D} (hx : ∃ i : Int, x = .int i ∧ 0 ≤ i ∧ i < 6) (j : Nat) : Six (xs.set j x) := ⟨by rw [List.length_set]; exact h.1, fun y hy => by
  rcases List.mem_or_eq_of_mem_set hy with e | e
  · exact h.2 y e
  · rw [e]; exact hx⟩
theorem ixN_in {m : Nat} {i : Int} (h0 : 0 ≤ i) (h1 : i < m) : L2.ixN m i = some i.toNat := by
  unfold L2.ixN
  rw [if_pos h0, if_pos h1]
theorem order_w (g : Good n s) (hn : n < 10000000) (h : ∀ (xs : List D) (s' : St), Good (n + 5) s' → Six xs → P (.f (.lst xs)) [.o true (.lst s'.D), .d (.int 6)]) : W1 (g_u_law_order [.o true (.lst s.D), .d (.int 6)]) P := by
  refine i_body fun TT t1 t2 t3 => ?_
  unfold s_u_law_order argE
  simp only [List.map_cons, List.map_nil, mkPar, List.length_cons, List.length_nil, List.cons_append, List.nil_append]
  refine i_seq fun N1 n1 => ?_
  simp
  refine n1 _ ?_
  refine i_seq fun N2 n2 => ?_
  simp
  refine w_for (fun k ρ => ∃ (s' : St) (xs : List D) (X Y Z : Sl), k ≤ 5 ∧ (∀ q m, X ≠ .o q m) ∧ (∀ q m, Y ≠ .o q m) ∧ (∀ q m, Z ≠ .o q m) ∧ Good (n + k) s' ∧ Six xs ∧ ρ = [.o true (.lst s'.D), .d (.int 6), .o false (.lst xs), X, Y, Z]) ⟨s, _, .un, .un, .un, by omega, fun _ _ z => (nomatch z), fun _ _ z => (nomatch z), fun _ _ z => (nomatch z), g, ⟨by rw [rngD_len]; rfl, fun x hx => ?_⟩, rfl⟩ ?_ ?_
  · obtain ⟨k, hk⟩ := List.mem_iff_getElem?.mp hx
    obtain ⟨e, l⟩ := rngD_at hk
    exact ⟨k, e, by omega, by omega⟩
  · rintro k x ρ hk ⟨s', xs, X, Y, Z, k5, hX, hY, hZ, g', h6, rfl⟩
    obtain ⟨rfl, hk5⟩ := rngD_at hk
    have e1 : gNm 3 (.int k) [.o true (.lst s'.D), .d (.int 6), .o false (.lst xs), X, Y, Z] = some [.o true (.lst s'.D), .d (.int 6), .o false (.lst xs), .d (.int k), Y, Z] := by
      cases X with
      | o q m => exact absurd rfl (hX q m)
      | _ => rfl
    rw [e1]
    refine i_keep fun NN nn => ?_
    obtain ⟨l6, a6⟩ := h6
    refine i_seq fun N3 n3 => ?_
    have e4 : ∀ (s2 : St) (v : D), setSl 4 (.d v) [.o true (.lst s2.D), .d (.int 6), .o false (.lst xs), .d (.int k), Y, Z] = .nx [.o true (.lst s2.D), .d (.int 6), .o false (.lst xs), .d (.int k), .d v, Z] := fun s2 v => by
      cases Y with
      | o q m => exact absurd rfl (hY q m)
      | _ => rfl
    simp [-q_setSl]
    refine w_call rfl (by simp [slotsOf]) (take_w g' (by omega) (by omega) fun r s2 g2 r0 r1 => ?_)
    simp [putBack, -q_setSl]
    rw [e4]
    refine n3 _ ?_
    obtain ⟨x1, m1, x1e⟩ := atI_mem (xs := xs) (i := (k : Int)) (by omega) (by omega)
    obtain ⟨x2, m2, x2e⟩ := atI_mem (xs := xs) (i := (k : Int) + r) (by omega) (by omega)
    refine i_seq fun N4 n4 => ?_
    have e5 : ∀ (v : D), setSl 5 (.d v) [.o true (.lst s2.D), .d (.int 6), .o false (.lst xs), .d (.int k), .d (.int (k + r)), Z] = .nx [.o true (.lst s2.D), .d (.int 6), .o false (.lst xs), .d (.int k), .d (.int (k + r)), .d v] := fun v => by
      cases Z with
      | o q m => exact absurd rfl (hZ q m)
      | _ => rfl
    simp [-q_setSl, x1e]
    rw [e5]
    refine n4 _ ?_
    refine i_seq fun N5 n5 => ?_
    simp [x2e, ixN_in (m := xs.length) (i := (k : Int)) (by omega) (by omega)]
    refine n5 _ ?_
    simp [ixN_in (m := xs.length) (i := (k : Int) + r) (by omega) (by omega)]
    exact nn _ ⟨s2, _, .d (.int k), .d (.int (k + r)), .d x1, by omega, fun _ _ z => (nomatch z), fun _ _ z => (nomatch z), fun _ _ z => (nomatch z), g2, Six.set (Six.set ⟨l6, a6⟩ (a6 _ m2) _) (a6 _ m1) _, rfl⟩
  · rintro ρ ⟨s', xs, X, Y, Z, k5, hX, hY, hZ, g', h6, rfl⟩
    have g' : Good (n + 5) s' := g'
    refine n2 _ ?_
    simp
    refine t3 2 _ (.lst xs) rfl ?_
    simp [merge]
    exact h xs s' g' h6
end K

set_option linter.all false
set_option maxRecDepth 100000
set_option maxHeartbeats 2000000
namespace K
open PySem PySem.Spec PyProof.Rows L2 L3
variable {n : Nat} {s : St} {P : Vl → Rho → Prop}
theorem store_w {ns : List Int} (hl : ns.length ≤ 63) (h : ∀ (s' : St), Good 0 s' → P (.f (.lst s'.D)) [.d (.ro (ns.map D.int))]) : W1 (g_u_law_store [.d (.ro (ns.map D.int))]) P := by
  refine i_body fun TT t1 t2 t3 => ?_
  unfold s_u_law_store argE
  simp only [List.map_cons, List.map_nil, mkPar, List.length_cons, List.length_nil, List.cons_append, List.nil_append]
  refine i_seq fun N1 n1 => ?_
  simp
  refine n1 _ ?_
  refine i_seq fun N2 n2 => ?_
  simp
  refine n2 _ ?_
  refine i_seq fun N3 n3 => ?_
  simp
  refine w_for (fun k ρ => ∃ (cs : List Int) (w : Int) (X Y : Sl), cs.length = k ∧ k ≤ 63 ∧ 0 ≤ w ∧ w < 2147483647 ∧ (∀ q m, X ≠ .o q m) ∧ (∀ q m, Y ≠ .o q m) ∧ ρ = [.d (.ro (ns.map D.int)), .o false (.lst (cs.map .int)), .d (.int w), X, Y]) ⟨[], 19743, .un, .un, rfl, by omega, by decide, by decide, fun _ _ z => (nomatch z), fun _ _ z => (nomatch z), rfl⟩ ?_ ?_
  · rintro k x ρ hk ⟨cs, w, X, Y, lc, k63, w0, w1, hX, hY, rfl⟩
    obtain ⟨v, rfl⟩ : ∃ v, x = D.int v := by
      rw [List.getElem?_map] at hk
      obtain ⟨v, _, e⟩ := Option.map_eq_some_iff.mp hk
      exact ⟨v, e.symm⟩
    have kl : k < 63 := by
      have := (List.getElem?_eq_some_iff.mp hk).1
      rw [List.length_map] at this
      omega
    have e1 : gNm 3 (.int v) [.d (.ro (ns.map D.int)), .o false (.lst (cs.map .int)), .d (.int w), X, Y] = some [.d (.ro (ns.map D.int)), .o false (.lst (cs.map .int)), .d (.int w), .d (.int v), Y] := by
      cases X with
      | o q m => exact absurd rfl (hX q m)
      | _ => rfl
    have e4 : ∀ (u : D), setSl 4 (.d u) [.d (.ro (ns.map D.int)), .o false (.lst (cs.map .int)), .d (.int w), .d (.int v), Y] = .nx [.d (.ro (ns.map D.int)), .o false (.lst (cs.map .int)), .d (.int w), .d (.int v), .d u] := fun u => by
      cases Y with
      | o q m => exact absurd rfl (hY q m)
      | _ => rfl
    rw [e1]
    refine i_keep fun NN nn => ?_
    refine i_seq fun N4 n4 => ?_
    simp only [w_sset, q_eOp, w_bnd, q_eCB, q_aCons, q_aNil, w_ok, q_var, List.getElem?_cons_succ, List.getElem?_cons_zero, w_opN, q_viewsC, q_view1, q_viewsN, on_some, o_abs, o_int, q_eC, w_op2, o_pow, o_mul, o_mod, on_ite, e4, w_nx]
    have p60 : (10 : Int) ^ (60 : Int).toNat = 1000000000000000000000000000000000000000000000000000000000000 := by decide +kernel
    simp only [p60]
    generalize hy : (if v < 0 then -v else v) = y
    have b1 : sm 1000000000000000000000000000000000000000000000000000000000000 = true := by decide +kernel
    have b2 : sm (1000000000000000000000000000000000000000000000000000000000000 * 1000000000000000000000000000000000000000000000000000000000000) = true := by decide +kernel
    have b3 : sm (1000000000000000000000000000000000000000000000000000000000000 * 1000000000000000000000000000000000000000000000000000000000000 * 1000000000000000000000000000000000000000000000000000000000000) = true := by decide +kernel
    have b4 : (0 : Int) < 1000000000000000000000000000000000000000000000000000000000000 * 1000000000000000000000000000000000000000000000000000000000000 * 1000000000000000000000000000000000000000000000000000000000000 * 1000000000000000000000000000000000000000000000000000000000000 := by decide +kernel
    refine ⟨by decide, by decide, ⟨b1, b1⟩, by decide, ⟨b2, b1⟩, by decide, ⟨b3, b1⟩, b4, n4 _ ?_⟩
    generalize (y % (1000000000000000000000000000000000000000000000000000000000000 * 1000000000000000000000000000000000000000000000000000000000000 * 1000000000000000000000000000000000000000000000000000000000000 * 1000000000000000000000000000000000000000000000000000000000000) : Int) = z
    refine i_seq fun N5 n5 => ?_
    have a5 : ∀ z : Int, N5 [.d (.ro (ns.map D.int)), .o false (.lst (cs.map .int)), .d (.int w), .d (.int v), .d (.int z)] := by
      intro z
      refine n5 _ ?_
      refine i_seq fun N6 n6 => ?_
      simp
      refine ⟨by omega, n6 _ ?_⟩
      simp
      refine ⟨⟨sm_of (by omega) (by omega), sm_of (by omega) (by omega)⟩, nn _ ⟨cs ++ [z], (w * 48271 + z + 7) % 2147483647, .d (.int v), .d (.int z), by simp [lc], by omega, by omega, by omega, fun _ _ z => (nomatch z), fun _ _ z => (nomatch z), by rw [List.map_append]; rfl⟩⟩
    simp
    exact ⟨fun _ => a5 _, fun _ => a5 _⟩
  · rintro ρ ⟨cs, w, X, Y, lc, k63, w0, w1, hX, hY, rfl⟩
    refine n3 _ ?_
    simp
    refine t2 _ _ ?_
    simp [merge]
    exact h ⟨cs, 0, 0, 0, 0, 0, w⟩ ⟨by rw [lc]; simpa using hl, by simp, by simp, by simp, by simp, by simp, by simp⟩
end K

set_option linter.all false
set_option maxRecDepth 100000
set_option maxHeartbeats 4000000
namespace K
open PySem PySem.Spec PyProof.Rows L2 L3
/-! ### counts -/
def chV (c : Int) : Nat → Int
  | 0 => 1
  | s + 1 => chV c s * (c - s) / (s + 1)
def pcV (n : Int) : Nat → Int
  | 0 => 1
  | s + 1 => pcV n s * (n + s + 1) / (s + 1)
theorem chV_fin : ∀ i : Fin 64, ∀ s : Fin 4, 0 ≤ chV (i.val : Int) s.val ∧ chV (i.val : Int) s.val < 1000000 := by decide +kernel
theorem pcV_fin : ∀ i : Fin 61, ∀ s : Fin 4, 0 ≤ pcV (i.val : Int) s.val ∧ pcV (i.val : Int) s.val < 1000000 ∧ chV ((i.val : Int) + s.val) s.val = pcV (i.val : Int) s.val ∧ (s.val = 3 → pcV (i.val : Int) s.val ≤ 400 → i.val ≤ 11) := by decide +kernel
theorem chV_b {c : Int} (h0 : 0 ≤ c) (h1 : c ≤ 63) {s : Nat} (hs : s ≤ 3) : 0 ≤ chV c s ∧ chV c s < 1000000 := by
  have := chV_fin ⟨c.toNat, by omega⟩ ⟨s, by omega⟩
  simpa [Int.toNat_of_nonneg h0] using this
theorem pcV_b {n : Int} (h0 : 0 ≤ n) (h1 : n ≤ 60) {s : Nat} (hs : s ≤ 3) : 0 ≤ pcV n s ∧ pcV n s < 1000000 ∧ chV (n + s) s = pcV n s ∧ (s = 3 → pcV n s ≤ 400 → n ≤ 11) := by
  have := pcV_fin ⟨n.toNat, by omega⟩ ⟨s, by omega⟩
  simp only [Int.toNat_of_nonneg h0] at this
  obtain ⟨a, b, c, d⟩ := this
  exact ⟨a, b, c, fun e f => by have := d e f; omega⟩
theorem choices_eq {c sz : Int} (h0 : 0 ≤ c) (h1 : c ≤ 63) (s0 : 0 ≤ sz) (s1 : sz ≤ 3) : g_choices [.d (.int c), .d (.int sz)] = .ok (.d (.int (chV c sz.toNat))) [.d (.int c), .d (.int sz)] := by
  have : W1 (g_choices [.d (.int c), .d (.int sz)]) (fun v ρ => v = .d (.int (chV c sz.toNat)) ∧ ρ = [.d (.int c), .d (.int sz)]) := by
    refine i_body fun TT t1 t2 t3 => ?_
    unfold s_choices argE
    simp only [List.map_cons, List.map_nil, mkPar, List.length_cons, List.length_nil, List.cons_append, List.nil_append]
    refine i_seq fun N1 n1 => ?_
    simp
    refine n1 _ ?_
    refine i_seq fun N2 n2 => ?_
    simp
    refine ⟨by omega, ?_⟩
    refine w_for (fun k ρ => ∃ X : Sl, k ≤ sz.toNat ∧ (∀ q m, X ≠ .o q m) ∧ ρ = [.d (.int c), .d (.int sz), .d (.int (chV c k)), X]) ⟨.un, by omega, fun _ _ z => (nomatch z), rfl⟩ ?_ ?_
    · rintro k x ρ hk ⟨X, ks, hX, rfl⟩
      obtain ⟨rfl, hk5⟩ := rngD_at hk
      have e1 : gNm 3 (.int k) [.d (.int c), .d (.int sz), .d (.int (chV c k)), X] = some [.d (.int c), .d (.int sz), .d (.int (chV c k)), .d (.int k)] := by
        cases X with
        | o q m => exact absurd rfl (hX q m)
        | _ => rfl
      rw [e1]
      obtain ⟨b0, b1⟩ := chV_b h0 h1 (s := k) (by omega)
      refine i_keep fun NN nn => ?_
      simp
      refine ⟨⟨sm_of (by omega) (by omega), sm_of (by omega) (by omega)⟩, by omega, nn _ ⟨.d (.int k), by omega, fun _ _ z => (nomatch z), rfl⟩⟩
    · rintro ρ ⟨X, ks, hX, rfl⟩
      refine n2 _ ?_
      rw [rngD_len]
      simp
      exact t1 _ _ (by simp [merge])
  obtain ⟨v, ρ, e, rfl, rfl⟩ := this.ex
  exact e
theorem pcount_eq {n m : Int} (h0 : 0 ≤ n) (h1 : n ≤ 60) (m0 : 1 ≤ m) (m1 : m ≤ 4) : g_u_law_profile_count [.d (.int n), .d (.int m)] = .ok (.d (.int (pcV n (m - 1).toNat))) [.d (.int n), .d (.int m)] := by
  have : W1 (g_u_law_profile_count [.d (.int n), .d (.int m)]) (fun v ρ => v = .d (.int (pcV n (m - 1).toNat)) ∧ ρ = [.d (.int n), .d (.int m)]) := by
    refine i_body fun TT t1 t2 t3 => ?_
    unfold s_u_law_profile_count argE
    simp only [List.map_cons, List.map_nil, mkPar, List.length_cons, List.length_nil, List.cons_append, List.nil_append]
    refine i_seq fun N1 n1 => ?_
    simp
    refine n1 _ ?_
    refine i_seq fun N2 n2 => ?_
    simp
    refine ⟨by omega, ?_⟩
    refine w_for (fun k ρ => ∃ X : Sl, k ≤ (m - 1).toNat ∧ (∀ q m, X ≠ .o q m) ∧ ρ = [.d (.int n), .d (.int m), .d (.int (pcV n k)), X]) ⟨.un, by omega, fun _ _ z => (nomatch z), rfl⟩ ?_ ?_
    · rintro k x ρ hk ⟨X, ks, hX, rfl⟩
      obtain ⟨rfl, hk5⟩ := rngD_at hk
      have e1 : gNm 3 (.int k) [.d (.int n), .d (.int m), .d (.int (pcV n k)), X] = some [.d (.int n), .d (.int m), .d (.int (pcV n k)), .d (.int k)] := by
        cases X with
        | o q m => exact absurd rfl (hX q m)
        | _ => rfl
      rw [e1]
      obtain ⟨b0, b1, _⟩ := pcV_b h0 h1 (s := k) (by omega)
      refine i_keep fun NN nn => ?_
      simp
      refine ⟨⟨sm_of (by omega) (by omega), sm_of (by omega) (by omega)⟩, by omega, nn _ ⟨.d (.int k), by omega, fun _ _ z => (nomatch z), rfl⟩⟩
    · rintro ρ ⟨X, ks, hX, rfl⟩
      refine n2 _ ?_
      rw [rngD_len]
      simp
      exact t1 _ _ (by simp [merge])
  obtain ⟨v, ρ, e, rfl, rfl⟩ := this.ex
  exact e
/-! ### profiles -/
def stepP (n : Int) (h : List Int) : List (List Int) := (List.range (n - h.sum + 1).toNat).map fun (c : Nat) => h ++ [(c : Int)]
def heads (n : Int) : Nat → List (List Int)
  | 0 => [[]]
  | k + 1 => (heads n k).flatMap (stepP n)
def prof (n : Int) (k : Nat) : List (List Int) := (heads n k).map fun h => h ++ [n - h.sum]
def tI (xs : List Int) : D := .tup (xs.map .int)
theorem ints_map : ∀ xs : List Int, intsD (xs.map D.int) = some xs
  | [] => rfl
  | x :: xs => by
    rw [List.map_cons]
    unfold intsD
    rw [ints_map xs]
theorem sum_tI (xs : List Int) : sumD [tI xs] = some (.d (.int xs.sum)) := by
  show Option.map _ (intsD (xs.map D.int)) = _
  rw [ints_map]
  rfl
structure HOk (n : Int) (k : Nat) (h : List Int) : Prop where
  len : h.length = k
  s0 : 0 ≤ h.sum
  s1 : h.sum ≤ n
  el : ∀ x ∈ h, 0 ≤ x ∧ x ≤ n
theorem heads_ok {n : Int} (h0 : 0 ≤ n) : ∀ {k : Nat} {h : List Int}, h ∈ heads n k → HOk n k h
  | 0, h, m => by
    have e : h = [] := by simpa [heads] using m
    subst e
    exact ⟨rfl, by simp, by simpa using h0, by simp⟩
  | k + 1, h, m => by
    unfold heads at m
    obtain ⟨g, hg, hm⟩ := List.mem_flatMap.mp m
    obtain ⟨a, b, c, d⟩ := heads_ok h0 hg
    unfold stepP at hm
    obtain ⟨i, hi, rfl⟩ := List.mem_map.mp hm
    have hi := List.mem_range.mp hi
    refine ⟨by rw [List.length_append, a]; rfl, by rw [List.sum_append]; simp; omega, by rw [List.sum_append]; simp; omega, fun x hx => ?_⟩
    rcases List.mem_append.mp hx with z | z
    · exact d x z
    · have : x = (i : Int) := by simpa using z
      omega
theorem flat_le {α β : Type} {f : α → List β} {b : Nat} : ∀ {xs : List α}, (∀ x ∈ xs, (f x).length ≤ b) → (xs.flatMap f).length ≤ xs.length * b
  | [], _ => by simp
  | x :: xs, h => by
    rw [List.flatMap_cons, List.length_append, List.length_cons, Nat.succ_mul]
    have := h x (List.mem_cons_self ..)
    have := flat_le (xs := xs) fun y hy => h y (List.mem_cons_of_mem _ hy)
    omega
theorem heads_len {n : Int} (h0 : 0 ≤ n) : ∀ k : Nat, (heads n k).length ≤ (n.toNat + 1) ^ k
  | 0 => by simp [heads]
  | k + 1 => by
    unfold heads
    refine Nat.le_trans (flat_le (b := n.toNat + 1) fun h hh => ?_) ?_
    · have := heads_ok h0 hh
      unfold stepP
      rw [List.length_map, List.length_range]
      have := this.s0
      omega
    · rw [Nat.pow_succ]
      exact Nat.mul_le_mul_right _ (heads_len h0 k)
theorem heads_small {n : Int} (h0 : 0 ≤ n) (h1 : n ≤ 60) {k j : Nat} (hk : k ≤ 3) (hc : pcV n k ≤ 400) (hj : j ≤ k) : (heads n j).length ≤ 3721 := by
  refine Nat.le_trans (heads_len h0 j) ?_
  by_cases e : k = 3
  · have := (pcV_b h0 h1 (s := k) hk).2.2.2 e hc
    have h12 : n.toNat + 1 ≤ 12 := by omega
    have : (n.toNat + 1) ^ j ≤ 12 ^ j := Nat.pow_le_pow_left h12 j
    have : 12 ^ j ≤ 12 ^ 3 := Nat.pow_le_pow_right (by decide) (by omega)
    have : (12 : Nat) ^ 3 = 1728 := by decide
    omega
  · have h61 : n.toNat + 1 ≤ 61 := by omega
    have : (n.toNat + 1) ^ j ≤ 61 ^ j := Nat.pow_le_pow_left h61 j
    have : 61 ^ j ≤ 61 ^ 2 := Nat.pow_le_pow_right (by decide) (by omega)
    have : (61 : Nat) ^ 2 = 3721 := by decide
    omega
end K

set_option linter.all false
set_option maxRecDepth 100000
set_option maxHeartbeats 4000000
namespace K
open PySem PySem.Spec PyProof.Rows L2 L3
variable {P : Vl → Rho → Prop}
def ysD (n : Int) (x : D) : List D := match sumD [x] with
  | some (.d (.int t)) => rngD 0 (n - t + 1)
  | _ => []
def phD (x y : D) : D := match addD x (.tup [y]) with
  | some (.d z) => z
  | _ => .non
def psD (n : Int) (x : D) : D := match sumD [x] with
  | some (.d (.int t)) => phD x (.int (n - t))
  | _ => .non
theorem ysD_tI (n : Int) (h : List Int) : ysD n (tI h) = rngD 0 (n - h.sum + 1) := by
  unfold ysD
  rw [sum_tI]
theorem phD_tI {h : List Int} (hl : h.length ≤ 10) (c : Int) : phD (tI h) (.int c) = tI (h ++ [c]) := by
  unfold phD tI
  rw [o_addT, if_pos (by simp; omega)]
  simp
theorem psD_tI {n : Int} {h : List Int} (hl : h.length ≤ 10) : psD n (tI h) = tI (h ++ [n - h.sum]) := by
  unfold psD
  rw [sum_tI]
  exact phD_tI hl _
theorem step_map {n : Int} {h : List Int} (hl : h.length ≤ 10) : (ysD n (tI h)).map (phD (tI h)) = (stepP n h).map tI := by
  rw [ysD_tI]
  unfold rngD stepP
  rw [List.map_map, List.map_map, Int.sub_zero]
  refine List.map_congr_left fun i _ => ?_
  show phD (tI h) (.int (0 + (i : Int))) = tI (h ++ [(i : Int)])
  rw [Int.zero_add, phD_tI hl]
theorem flat_congr {α β : Type} {f g : α → List β} : ∀ {xs : List α}, (∀ x ∈ xs, f x = g x) → xs.flatMap f = xs.flatMap g
  | [], _ => rfl
  | x :: xs, h => by
    rw [List.flatMap_cons, List.flatMap_cons, h x (List.mem_cons_self ..), flat_congr fun y hy => h y (List.mem_cons_of_mem _ hy)]
theorem heads_map {n : Int} (h0 : 0 ≤ n) {k : Nat} (hk : k ≤ 8) : (((heads n k).map tI).flatMap fun x => (ysD n x).map (phD x)) = (heads n (k + 1)).map tI := by
  show _ = ((heads n k).flatMap (stepP n)).map tI
  rw [List.flatMap_map, List.map_flatMap]
  exact flat_congr fun h hh => step_map (by rw [(heads_ok h0 hh).len]; omega)
theorem profs_map {n : Int} (h0 : 0 ≤ n) {k : Nat} (hk : k ≤ 8) : (((heads n k).map tI).filter fun _ => true).map (psD n) = (prof n k).map tI := by
  rw [List.filter_eq_self.mpr (fun _ _ => rfl), List.map_map]
  unfold prof
  rw [List.map_map]
  refine List.map_congr_left fun h hh => ?_
  exact psD_tI (by rw [(heads_ok h0 hh).len]; omega)
theorem heads_flat_len {n : Int} (h0 : 0 ≤ n) {k : Nat} (hk : k ≤ 8) : (((heads n k).map tI).flatMap (ysD n)).length = (heads n (k + 1)).length := by
  have := congrArg List.length (heads_map h0 hk)
  rw [List.length_map] at this
  rw [← this, List.length_flatMap, List.length_flatMap]
  simp
/-- the comprehension that makes the heads longer -/
theorem heads_step {n m : Int} (h0 : 0 ≤ n) (h1 : n ≤ 60) {k : Nat} (hk : k ≤ 8) (hz : (heads n (k + 1)).length ≤ 100000) (X : Sl) :
    eLc2 (iSq (eVar 2)) (gNm 4) tYe (iR1 (eOp addD (eOp subD (eVar 0) (eCB sumD (aCons (eVar 4) aNil))) (eC (.int 1)))) (gNm 5) tYe (eOp addD (eVar 4) (eTup (aCons (eFz (eVar 5)) aNil))) [4, 5] [5]
      [.d (.int n), .d (.int m), .o false (.lst ((heads n k).map tI)), X, .un, .un] = .ok (.f (.lst ((heads n (k + 1)).map tI))) [.d (.int n), .d (.int m), .d (.lst ((heads n k).map tI)), X, .un, .un] := by
  rw [← heads_map h0 hk]
  refine eLc2_eq (ysD n) phD (ρ := [.d (.int n), .d (.int m), .d (.lst ((heads n k).map tI)), X, .un, .un]) rfl (by simp) (by simp) (by simp) (by rw [heads_flat_len h0 hk]; exact hz) ?_
  rintro x hx ρx rfl
  obtain ⟨h, hh, rfl⟩ := List.mem_map.mp hx
  have ok := heads_ok h0 hh
  have hl : h.length ≤ 10 := by rw [ok.len]; omega
  refine ⟨?_, fun y hy => ?_⟩
  · rw [ysD_tI]
    have := ok.s0
    have := ok.s1
    simp [iR1, bnd, eOp, eVar, eC, eCB, opN, views, view, op2, okV, sum_tI, subD, addD, asI, aCons, aNil]
    omega
  · rw [ysD_tI] at hy
    obtain ⟨j, hj⟩ := List.mem_iff_getElem?.mp hy
    obtain ⟨rfl, _⟩ := rngD_at hj
    rw [phD_tI hl]
    have h9 : h.length ≤ 99999 := by omega
    simp [bnd, eOp, eVar, eTup, aCons, aNil, eFz, fz, onD, dats, op2, view, okV, tI, addD, h9]
end K

set_option linter.all false
set_option maxRecDepth 100000
set_option maxHeartbeats 4000000
namespace K
open PySem PySem.Spec PyProof.Rows L2 L3
variable {P : Vl → Rho → Prop}
theorem body_ex {s : Rho → SR} {n : Nat} {as ρ : Rho} {c : Str} {fs : List (Str × D)} (h : s (argE n as) = .ex c fs ρ) : bodyR n s as = .ex c fs (merge as ρ) := by
  unfold bodyR
  rw [h]
theorem seq_ex {s t : Rho → SR} {ρ ρ' : Rho} {c : Str} {fs : List (Str × D)} (h : s ρ = .ex c fs ρ') : sSeq s t ρ = .ex c fs ρ' := by
  unfold sSeq
  rw [h]
theorem if_tt {c : Rho → R Bool} {s t : Rho → SR} {ρ ρ' : Rho} (h : c ρ = .ok true ρ') : sIf c s t ρ = s ρ' := by
  unfold sIf sB
  rw [h]
  rfl
theorem if_ff {c : Rho → R Bool} {s t : Rho → SR} {ρ ρ' : Rho} (h : c ρ = .ok false ρ') : sIf c s t ρ = t ρ' := by
  unfold sIf sB
  rw [h]
  rfl
theorem set1 {n m : Int} {Y : D} {X : Sl} (zs : List D) : setSl 2 (.f (.lst zs)) [.d (.int n), .d (.int m), .d Y, X, .un, .un] = .nx [.d (.int n), .d (.int m), .o false (.lst zs), X, .un, .un] := rfl
/-- the call of choices in all_profiles -/
theorem ap_choices {n m : Int} {k : Nat} (h0 : 0 ≤ n) (h1 : n ≤ 60) (hk : k ≤ 3) (e : m = k + 1) (Y X Z W : Sl) :
    eCall g_choices [] (aCons (eOp subD (eOp addD (eVar 0) (eVar 1)) (eC (.int 1))) (aCons (eOp subD (eVar 1) (eC (.int 1))) aNil)) [.d (.int n), .d (.int m), Y, X, Z, W] = .ok (.d (.int (pcV n k))) [.d (.int n), .d (.int m), Y, X, Z, W] := by
  have e1 : n + m - 1 = n + k := by omega
  have e2 : m - 1 = k := by omega
  have : W1 (eCall g_choices [] (aCons (eOp subD (eOp addD (eVar 0) (eVar 1)) (eC (.int 1))) (aCons (eOp subD (eVar 1) (eC (.int 1))) aNil)) [.d (.int n), .d (.int m), Y, X, Z, W]) (fun v ρ => v = .d (.int (pcV n k)) ∧ ρ = [.d (.int n), .d (.int m), Y, X, Z, W]) := by
    simp only [q_eCall, w_bnd, q_aCons, q_aNil, q_eOp, q_var, List.getElem?_cons_succ, List.getElem?_cons_zero, w_ok, w_op2, q_view1, on_some, o_add, o_sub, q_eC]
    refine w_call (as := [.d (.int (n + m - 1)), .d (.int (m - 1))]) rfl (by simp [slotsOf]) ?_
    rw [choices_eq (by omega) (by omega) (by omega) (by omega)]
    refine ⟨?_, rfl⟩
    have : chV (n + m - 1) (m - 1).toNat = pcV n k := by
      rw [e1, e2, Int.toNat_natCast, (pcV_b h0 h1 hk).2.2.1]
    rw [this]
  obtain ⟨v, ρ, e, rfl, rfl⟩ := this.ex
  exact e
theorem ap_test {n m : Int} {k : Nat} (h0 : 0 ≤ n) (h1 : n ≤ 60) (hk : k ≤ 3) (e : m = k + 1) (Y X Z W : Sl) :
    tV (eOp gtD (eCall g_choices [] (aCons (eOp subD (eOp addD (eVar 0) (eVar 1)) (eC (.int 1))) (aCons (eOp subD (eVar 1) (eC (.int 1))) aNil))) (eC (.int 400))) [.d (.int n), .d (.int m), Y, X, Z, W] = .ok (decide (400 < pcV n k)) [.d (.int n), .d (.int m), Y, X, Z, W] := by
  rw [q_tV]
  unfold bnd
  rw [q_eOp]
  unfold bnd
  rw [ap_choices h0 h1 hk e]
  rfl
theorem last_eq {n : Int} (h0 : 0 ≤ n) {ρ : Rho} {k i j : Nat} (hk : k ≤ 8) (hj : ρ[j]? = some (.o false (.lst ((heads n k).map tI)))) (hn : (ρ.set j (.d (.lst ((heads n k).map tI))))[0]? = some (.d (.int n))) (hi : i < ρ.length) (ne : i ≠ 0) (hl : (heads n k).length ≤ 100000) :
    eLc (iSq (eVar j)) (gNm i) tYe (eOp addD (eVar i) (eTup (aCons (eOp subD (eVar 0) (eCB sumD (aCons (eVar i) aNil))) aNil))) [i] ρ = .ok (.f (.lst ((prof n k).map tI))) (ρ.set j (.d (.lst ((heads n k).map tI)))) := by
  rw [← profs_map h0 hk]
  refine eLc_eq (fun _ => true) (psD n) ?_ (by rw [List.length_set]; exact hi) (by rw [List.length_map]; exact hl) ?_
  · simp [iSq, bnd, eVar, hj, fz]
  · intro x hx
    obtain ⟨h, hh, rfl⟩ := List.mem_map.mp hx
    have ok := heads_ok h0 hh
    have hl : h.length ≤ 10 := by rw [ok.len]; omega
    refine ⟨rfl, fun _ => ?_⟩
    rw [psD_tI hl]
    have g0 : ((ρ.set j (.d (.lst ((heads n k).map tI)))).set i (.d (tI h)))[0]? = some (.d (.int n)) := by
      rw [List.getElem?_set_ne ne]
      exact hn
    have gi : ((ρ.set j (.d (.lst ((heads n k).map tI)))).set i (.d (tI h)))[i]? = some (.d (tI h)) := by
      rw [List.getElem?_set_self (by rw [List.length_set]; exact hi)]
    have h9 : h.length ≤ 99999 := by omega
    generalize (ρ.set j (.d (.lst ((heads n k).map tI)))).set i (.d (tI h)) = ρ2 at g0 gi
    have hs := sum_tI h
    simp [bnd, eOp, eVar, eTup, aCons, aNil, eCB, opN, views, view, g0, gi, hs, op2, okV, onD, dats, subD]
    simp [tI, addD, h9]
theorem ap_ok {n m : Int} {k : Nat} (h0 : 0 ≤ n) (h1 : n ≤ 60) (hk : k ≤ 3) (e : m = k + 1) (hc : pcV n k ≤ 400) : g_all_profiles [.d (.int n), .d (.int m)] = .ok (.f (.lst ((prof n k).map tI))) [.d (.int n), .d (.int m)] := by
  have em : m - 1 = k := by omega
  have : W1 (g_all_profiles [.d (.int n), .d (.int m)]) (fun v ρ => v = .f (.lst ((prof n k).map tI)) ∧ ρ = [.d (.int n), .d (.int m)]) := by
    refine i_body fun TT t1 t2 t3 => ?_
    unfold s_all_profiles argE
    simp only [List.map_cons, List.map_nil, mkPar, List.length_cons, List.length_nil, List.cons_append, List.nil_append]
    refine i_seq fun N1 n1 => ?_
    show WS (sIf _ _ _ [.d (.int n), .d (.int m), .un, .un, .un, .un]) N1 TT
    rw [w_if, ap_test h0 h1 hk e]
    simp
    refine ⟨by omega, fun _ => n1 _ ?_⟩
    refine i_seq fun N2 n2 => ?_
    simp
    refine n2 _ ?_
    refine i_seq fun N3 n3 => ?_
    simp
    refine ⟨by omega, ?_⟩
    rw [em]
    refine w_for (fun q ρ => ∃ X : Sl, q ≤ k ∧ (∀ q m, X ≠ .o q m) ∧ ρ = [.d (.int n), .d (.int m), .o false (.lst ((heads n q).map tI)), X, .un, .un]) ⟨.un, by omega, fun _ _ z => (nomatch z), rfl⟩ ?_ ?_
    · rintro q x ρ hq ⟨X, ks, hX, rfl⟩
      obtain ⟨rfl, hk5⟩ := rngD_at hq
      have e1 : gNm 3 (.int q) [.d (.int n), .d (.int m), .o false (.lst ((heads n q).map tI)), X, .un, .un] = some [.d (.int n), .d (.int m), .o false (.lst ((heads n q).map tI)), .d (.int q), .un, .un] := by
        cases X with
        | o q m => exact absurd rfl (hX q m)
        | _ => rfl
      rw [e1]
      dsimp only
      have hs := heads_small h0 h1 (k := k) (j := q + 1) hk hc (by omega)
      rw [w_sset, heads_step h0 h1 (by omega) (by omega), w_ok, set1]
      exact ⟨.d (.int q), by omega, fun _ _ z => (nomatch z), rfl⟩
    · rintro ρ ⟨X, ks, hX, rfl⟩
      rw [rngD_len]
      refine n3 _ ?_
      have hs := heads_small h0 h1 (k := k) (j := k) hk hc (by omega)
      rw [w_srt, Int.toNat_natCast, last_eq h0 (by omega) rfl rfl (by simp) (by decide) (by omega)]
      exact t2 _ _ ⟨rfl, rfl⟩
  obtain ⟨v, ρ, e, rfl, rfl⟩ := this.ex
  exact e
theorem ap_ex {n m : Int} {k : Nat} (h0 : 0 ≤ n) (h1 : n ≤ 60) (hk : k ≤ 3) (e : m = k + 1) (hc : 400 < pcV n k) : g_all_profiles [.d (.int n), .d (.int m)] = .ex "TooMany" (putF ["what", "limit"] [.str "profiles", .int 400] [("name", .str "TooMany")]) [.d (.int n), .d (.int m)] := by
  refine body_ex (ρ := [.d (.int n), .d (.int m), .un, .un, .un, .un]) ?_
  refine seq_ex ?_
  show sIf _ _ _ [.d (.int n), .d (.int m), .un, .un, .un, .un] = _
  rw [if_tt (by rw [ap_test h0 h1 hk e, decide_eq_true hc])]
  rfl
end K

set_option linter.all false
set_option maxRecDepth 100000
set_option maxHeartbeats 4000000
namespace K
open PySem PySem.Spec PyProof.Rows L2 L3
variable {P : Vl → Rho → Prop}
def NOw (X : Sl) : Prop := ∀ q m, X ≠ .o q m
def NOt (X : Sl) : Prop := ∀ m, X ≠ .o true m
theorem now_un : NOw .un := fun _ _ z => nomatch z
theorem now_d (x : D) : NOw (.d x) := fun _ _ z => nomatch z
theorem not_un : NOt .un := fun _ z => nomatch z
theorem not_d (x : D) : NOt (.d x) := fun _ z => nomatch z
theorem not_o (m : MO) : NOt (.o false m) := fun _ z => nomatch z
theorem gNm_now {ρ : Rho} {i : Nat} {X : Sl} (h : ρ[i]? = some X) (hX : NOw X) (x : D) : gNm i x ρ = some (ρ.set i (.d x)) := by
  rw [q_gNm, h]
  cases X with
  | o q m => exact absurd rfl (hX q m)
  | _ => rfl
theorem add_tI {h : List Int} (hl : h.length ≤ 10) (c : Int) : addD (tI h) (.tup [.int c]) = some (.d (tI (h ++ [c]))) := by
  unfold tI
  rw [o_addT, if_pos (by simp; omega)]
  simp
theorem step_tI (n : Int) (h : List Int) : (stepP n h).map tI = (List.range (n - h.sum + 1).toNat).map fun (c : Nat) => tI (h ++ [(c : Int)]) := by
  unfold stepP
  rw [List.map_map]
  rfl
theorem al_in {n m : Int} {h : List Int} (hl : h.length ≤ 10) (h0 : 0 ≤ h.sum) (h1 : h.sum ≤ n) (h2 : n ≤ 60) {base : List D} (hb : base.length + (stepP n h).length ≤ 100000) {S2 S3 X : Sl} (hX : NOw X) {T : Vl → Rho → Prop} {N : Rho → Prop}
    (hN : ∀ X, NOw X → N [.d (.int n), .d (.int m), S2, S3, .o false (.lst (base ++ (stepP n h).map tI)), .d (tI h), X]) :
    WS (sFor (iR1 (eOp addD (eOp subD (eVar 0) (eCB sumD (aCons (eVar 5) (aNil)))) (eC (.int 1)))) (gNm 6) (sEx (eApp 4 (eOp addD (eVar 5) (eTup (aCons (eFz (eVar 6)) (aNil)))))) [.d (.int n), .d (.int m), S2, S3, .o false (.lst base), .d (tI h), X]) N T := by
  have hs := sum_tI h
  have hlen : (stepP n h).length = (n - h.sum + 1).toNat := by unfold stepP; rw [List.length_map, List.length_range]
  simp [hs]
  refine ⟨by omega, ?_⟩
  refine w_for (fun i ρ => ∃ X, NOw X ∧ i ≤ (n - h.sum + 1).toNat ∧ ρ = [.d (.int n), .d (.int m), S2, S3, .o false (.lst (base ++ (List.range i).map fun (c : Nat) => tI (h ++ [(c : Int)]))), .d (tI h), X]) ⟨X, hX, by omega, by simp⟩ ?_ ?_
  · rintro i x ρ hk ⟨X, hX, hi, rfl⟩
    obtain ⟨rfl, hk5⟩ := rngD_at hk
    rw [gNm_now (i := 6) rfl hX]
    have ad := add_tI hl (i : Int)
    simp [ad]
    refine ⟨by omega, .d (.int i), now_d _, by omega, ?_⟩
    rw [List.range_succ, List.map_append]
    simp
  · rintro ρ ⟨X, hX, _, rfl⟩
    rw [rngD_len, ← step_tI]
    exact hN X hX
theorem al_mid {n m : Int} {k : Nat} (hk : k ≤ 8) (h0 : 0 ≤ n) (h2 : n ≤ 60) (hz : (heads n (k + 1)).length ≤ 100000) {S3 X Y : Sl} (hX : NOw X) (hY : NOw Y) {T : Vl → Rho → Prop} {N : Rho → Prop}
    (hN : ∀ X Y, NOw X → NOw Y → N [.d (.int n), .d (.int m), .d (.lst ((heads n k).map tI)), S3, .o false (.lst ((heads n (k + 1)).map tI)), X, Y]) :
    WS (sFor (iSq (eVar 2)) (gNm 5) (sFor (iR1 (eOp addD (eOp subD (eVar 0) (eCB sumD (aCons (eVar 5) (aNil)))) (eC (.int 1)))) (gNm 6) (sEx (eApp 4 (eOp addD (eVar 5) (eTup (aCons (eFz (eVar 6)) (aNil))))))) [.d (.int n), .d (.int m), .o false (.lst ((heads n k).map tI)), S3, .o false (.lst []), X, Y]) N T := by
  rw [w_sfor]
  simp only [w_iSq, q_var, List.getElem?_cons_succ, List.getElem?_cons_zero, w_ok, q_fz, List.set_cons_succ, List.set_cons_zero]
  refine w_for (fun j ρ => ∃ X Y, NOw X ∧ NOw Y ∧ ρ = [.d (.int n), .d (.int m), .d (.lst ((heads n k).map tI)), S3, .o false (.lst ((((heads n k).take j).flatMap (stepP n)).map tI)), X, Y]) ⟨X, Y, hX, hY, by simp⟩ ?_ ?_
  · rintro j x ρ hj ⟨X, Y, hX, hY, rfl⟩
    rw [List.getElem?_map] at hj
    obtain ⟨h, hh, rfl⟩ := Option.map_eq_some_iff.mp hj
    have hm := List.mem_of_getElem? hh
    have ok := heads_ok h0 hm
    have tk : (heads n k).take (j + 1) = (heads n k).take j ++ [h] := by
      rw [List.take_add_one, hh]
      rfl
    have fl : ((heads n k).take (j + 1)).flatMap (stepP n) = ((heads n k).take j).flatMap (stepP n) ++ stepP n h := by
      rw [tk, List.flatMap_append]
      simp
    have ln : (((heads n k).take j).flatMap (stepP n)).length + (stepP n h).length ≤ 100000 := by
      refine Nat.le_trans ?_ hz
      have : heads n (k + 1) = ((heads n k).take (j + 1)).flatMap (stepP n) ++ ((heads n k).drop (j + 1)).flatMap (stepP n) := by
        rw [← List.flatMap_append, List.take_append_drop]
        rfl
      rw [this, fl, List.length_append, List.length_append]
      omega
    rw [gNm_now (i := 5) rfl hX]
    refine al_in (by rw [ok.len]; omega) ok.s0 ok.s1 h2 (by rw [List.length_map]; exact ln) hY fun Z hZ => ?_
    exact ⟨.d (tI h), Z, now_d _, hZ, by rw [fl, List.map_append]⟩
  · rintro ρ ⟨X, Y, hX, hY, rfl⟩
    rw [List.length_map, List.take_length]
    exact hN X Y hX hY
theorem al_ok {n m : Int} {k : Nat} (h0 : 0 ≤ n) (h1 : n ≤ 60) (hk : k ≤ 3) (e : m = k + 1) (hc : pcV n k ≤ 400) : g_u_law_all_profiles [.d (.int n), .d (.int m)] = .ok (.f (.lst ((prof n k).map tI))) [.d (.int n), .d (.int m)] := by
  have em : m - 1 = k := by omega
  have : W1 (g_u_law_all_profiles [.d (.int n), .d (.int m)]) (fun v ρ => v = .f (.lst ((prof n k).map tI)) ∧ ρ = [.d (.int n), .d (.int m)]) := by
    refine i_body fun TT t1 t2 t3 => ?_
    unfold s_u_law_all_profiles argE
    simp only [List.map_cons, List.map_nil, mkPar, List.length_cons, List.length_nil, List.cons_append, List.nil_append]
    refine i_seq fun N2 n2 => ?_
    simp
    refine n2 _ ?_
    refine i_seq fun N3 n3 => ?_
    rw [w_sfor]
    simp only [w_iR1, q_eOp, w_bnd, q_var, List.getElem?_cons_succ, List.getElem?_cons_zero, w_ok, w_op2, q_view1, on_some, o_sub, q_eC, q_asI]
    refine ⟨by omega, ?_⟩
    rw [em]
    refine w_for (fun q ρ => ∃ X Z Y U : Sl, q ≤ k ∧ NOw X ∧ NOt Z ∧ NOw Y ∧ NOw U ∧ ρ = [.d (.int n), .d (.int m), .o false (.lst ((heads n q).map tI)), X, Z, Y, U]) ⟨.un, .un, .un, .un, by omega, now_un, not_un, now_un, now_un, rfl⟩ ?_ ?_
    · rintro q x ρ hq ⟨X, Z, Y, U, ks, hX, hZ, hY, hU, rfl⟩
      obtain ⟨rfl, hk5⟩ := rngD_at hq
      rw [gNm_now (i := 3) rfl hX]
      dsimp only [List.set_cons_succ, List.set_cons_zero]
      have hs := heads_small h0 h1 (k := k) (j := q + 1) hk hc (by omega)
      rw [w_seq]
      have e4 : sSet 4 (eLst aNil) [.d (.int n), .d (.int m), .o false (.lst ((heads n q).map tI)), .d (.int q), Z, Y, U] = .nx [.d (.int n), .d (.int m), .o false (.lst ((heads n q).map tI)), .d (.int q), .o false (.lst []), Y, U] := by
        cases Z with
        | o b m => cases b with
          | true => exact absurd rfl (hZ m)
          | false => rfl
        | _ => rfl
      rw [e4, w_nx, w_seq]
      refine al_mid (by omega) h0 h1 (by omega) hY hU fun Y U hY hU => ?_
      rw [w_sset]
      simp only [q_eCB, w_bnd, q_aCons, q_aNil, q_var, List.getElem?_cons_succ, List.getElem?_cons_zero, w_ok, w_opN, q_viewsC, q_view, q_viewsN, on_some, o_listL, q_setSl, List.set_cons_succ, List.set_cons_zero, w_nx]
      exact ⟨.d (.int q), .o false (.lst ((heads n (q + 1)).map tI)), Y, U, by omega, now_d _, not_o _, hY, hU, rfl⟩
    · rintro ρ ⟨X, Z, Y, U, ks, hX, hZ, hY, hU, rfl⟩
      rw [rngD_len]
      refine n3 _ ?_
      have hs := heads_small h0 h1 (k := k) (j := k) hk hc (by omega)
      rw [w_srt, Int.toNat_natCast, last_eq h0 (by omega) rfl rfl (by simp) (by decide) (by omega)]
      exact t2 _ _ ⟨rfl, rfl⟩
  obtain ⟨v, ρ, e, rfl, rfl⟩ := this.ex
  exact e
end K

set_option linter.all false
set_option maxRecDepth 100000
set_option maxHeartbeats 4000000
namespace K
open PySem PySem.Spec PyProof.Rows L2 L3
variable {P : Vl → Rho → Prop}
theorem body_rt {s : Rho → SR} {n : Nat} {as ρ : Rho} {x : D} (h : s (argE n as) = .rt (.d x) ρ) : bodyR n s as = .ok (.d x) (merge as ρ) := by
  unfold bodyR
  rw [h]
theorem body_rf {s : Rho → SR} {n : Nat} {as ρ : Rho} {x : MO} (h : s (argE n as) = .rt (.f x) ρ) : bodyR n s as = .ok (.f x) (merge as ρ) := by
  unfold bodyR
  rw [h]
theorem seq_nx {s t : Rho → SR} {ρ ρ' : Rho} (h : s ρ = .nx ρ') : sSeq s t ρ = t ρ' := by
  unfold sSeq
  rw [h]
theorem seq_rt {s t : Rho → SR} {ρ ρ' : Rho} {x : Vl} (h : s ρ = .rt x ρ') : sSeq s t ρ = .rt x ρ' := by
  unfold sSeq
  rw [h]
theorem rt_ok {f : Rho → R Vl} {ρ ρ' : Rho} {x : Vl} (h : f ρ = .ok x ρ') : sRt f ρ = .rt x ρ' := by
  unfold sRt sB
  rw [h]
def F1 (l : Int) : D := .tup [.str "most", .str ">=", .int l]
def F3 (v l : Int) : D := .tup [.str "count", .int v, .str ">=", .int l]
def F4' (l : Int) : D := .tup [.str "most", .str "<=", .int l]
def F4 (l : Int) : D := .tup [.str "not", F4' l]
theorem cmp_ge (t l : Int) : g_compares [.d (.int t), .d (.str ">="), .d (.int l)] = .ok (.d (.bl (decide (l ≤ t)))) [.d (.int t), .d (.str ">="), .d (.int l)] := by
  refine body_rt (ρ := [.d (.int t), .d (.str ">="), .d (.int l)]) ?_
  exact seq_rt rfl
theorem cmp_le (t l : Int) : g_compares [.d (.int t), .d (.str "<="), .d (.int l)] = .ok (.d (.bl (decide (t ≤ l)))) [.d (.int t), .d (.str "<="), .d (.int l)] := by
  refine body_rt (ρ := [.d (.int t), .d (.str "<="), .d (.int l)]) ?_
  refine (seq_nx (ρ' := [.d (.int t), .d (.str "<="), .d (.int l)]) (by rfl)).trans (seq_rt ?_)
  rfl
theorem me_most (s : Str) (l t : Int) {p : List Int} (h : maxD [tI p] = some (.d (.int t))) : g_measure [.d (.tup [.str "most", .str s, .int l]), .d (tI p)] = .ok (.d (.int t)) [.d (.tup [.str "most", .str s, .int l]), .d (tI p)] := by
  refine body_rt (ρ := [.d (.tup [.str "most", .str s, .int l]), .d (tI p), .un, .un]) ?_
  refine (seq_nx (ρ' := [.d (.tup [.str "most", .str s, .int l]), .d (tI p), .un, .un]) (by rfl)).trans (seq_rt ?_)
  refine (if_tt (ρ' := [.d (.tup [.str "most", .str s, .int l]), .d (tI p), .un, .un]) (by rfl)).trans (rt_ok ?_)
  simp [bnd, eCB, eVar, aCons, aNil, opN, views, view, h, okV]
theorem me_count (v l : Int) {t : Int} {p : List Int} (v0 : 0 ≤ v) (v1 : v < p.length) (h : L2.atI (p.map D.int) v = some (.int t)) : g_measure [.d (F3 v l), .d (tI p)] = .ok (.d (.int t)) [.d (F3 v l), .d (tI p)] := by
  refine body_rt (ρ := [.d (F3 v l), .d (tI p), .un, .un]) ?_
  refine seq_rt ?_
  refine (if_tt (ρ' := [.d (F3 v l), .d (tI p), .un, .un]) (by rfl)).trans (rt_ok ?_)
  have h1 : L2.atI [D.str "count", .int v, .str ">=", .int l] 1 = some (.int v) := rfl
  simp [eIf, tV, eCh, bnd, eC, eOp, eVar, F3, op2, h1, okV, v0, v1, leD, ltD, asB, eCB, aCons, aNil, opN, tI, lenD, h]
theorem is_gen (j : Nat) (w s : Str) (xs : List D) (l t : Int) (b : Bool) {p : List Int} {X : D}
    (hX : X = .tup (.str w :: xs))
    (h2 : L2.atI (.str w :: xs) (-2) = some (.str s)) (h1 : L2.atI (.str w :: xs) (-1) = some (.int l))
    (hw : ∀ ρ : Rho, ρ = [.d X, .d (tI p), .d (.tup []), .d (.str w)] → s_is_true (f_is_true j) [.d X, .d (tI p), .d (.tup []), .un] = sRt (eCall g_compares [] (aCons (eFz (eCall g_measure [] (aCons (eVar 0) (aCons (eVar 1) (aNil))))) (aCons (eOp ixD (eVar 0) (eUn negD (eC (.int 2)))) (aCons (eOp ixD (eVar 0) (eUn negD (eC (.int 1)))) (aNil))))) ρ)
    (hm : g_measure [.d X, .d (tI p)] = .ok (.d (.int t)) [.d X, .d (tI p)])
    (hc : g_compares [.d (.int t), .d (.str s), .d (.int l)] = .ok (.d (.bl b)) [.d (.int t), .d (.str s), .d (.int l)]) :
    f_is_true (j + 1) [.d X, .d (tI p), .d (.tup [])] = .ok (.d (.bl b)) [.d X, .d (tI p), .d (.tup [])] := by
  refine body_rt (ρ := [.d X, .d (tI p), .d (.tup []), .d (.str w)]) ?_
  refine (hw _ rfl).trans ?_
  refine rt_ok ?_
  have : W1 (eCall g_compares [] (aCons (eFz (eCall g_measure [] (aCons (eVar 0) (aCons (eVar 1) (aNil))))) (aCons (eOp ixD (eVar 0) (eUn negD (eC (.int 2)))) (aCons (eOp ixD (eVar 0) (eUn negD (eC (.int 1)))) (aNil)))) [.d X, .d (tI p), .d (.tup []), .d (.str w)]) (fun v ρ => v = .d (.bl b) ∧ ρ = [.d X, .d (tI p), .d (.tup []), .d (.str w)]) := by
    simp
    refine w_call (as := [.d X, .d (tI p)]) rfl (by simp [slotsOf]) ?_
    rw [hm]
    simp [putBack]
    rw [hX]
    simp [h1, h2]
    refine w_call (as := [.d (.int t), .d (.str s), .d (.int l)]) rfl (by simp [slotsOf]) ?_
    rw [hc]
    exact ⟨rfl, rfl⟩
  obtain ⟨v, ρ, e, rfl, rfl⟩ := this.ex
  exact e
theorem is_F1 (l t : Int) {p : List Int} (h : maxD [tI p] = some (.d (.int t))) : g_is_true [.d (F1 l), .d (tI p), .d (.tup [])] = .ok (.d (.bl (decide (l ≤ t)))) [.d (F1 l), .d (tI p), .d (.tup [])] := by
  refine is_gen 6 "most" ">=" _ l t _ rfl rfl rfl ?_ (me_most _ _ _ h) (cmp_ge t l)
  rintro ρ rfl
  iterate 7 refine (seq_nx (ρ' := [.d (F1 l), .d (tI p), .d (.tup []), .d (.str "most")]) (by rfl)).trans ?_
  rfl
theorem is_F4' (j : Nat) (l t : Int) {p : List Int} (h : maxD [tI p] = some (.d (.int t))) : f_is_true (j + 1) [.d (F4' l), .d (tI p), .d (.tup [])] = .ok (.d (.bl (decide (t ≤ l)))) [.d (F4' l), .d (tI p), .d (.tup [])] := by
  refine is_gen j "most" "<=" _ l t _ rfl rfl rfl ?_ (me_most _ _ _ h) (cmp_le t l)
  rintro ρ rfl
  iterate 7 refine (seq_nx (ρ' := [.d (F4' l), .d (tI p), .d (.tup []), .d (.str "most")]) (by rfl)).trans ?_
  rfl
theorem is_F3 (v l t : Int) {p : List Int} (v0 : 0 ≤ v) (v1 : v < p.length) (h : L2.atI (p.map D.int) v = some (.int t)) : g_is_true [.d (F3 v l), .d (tI p), .d (.tup [])] = .ok (.d (.bl (decide (l ≤ t)))) [.d (F3 v l), .d (tI p), .d (.tup [])] := by
  refine is_gen 6 "count" ">=" _ l t _ rfl rfl rfl ?_ (me_count v l v0 v1 h) (cmp_ge t l)
  rintro ρ rfl
  iterate 7 refine (seq_nx (ρ' := [.d (F3 v l), .d (tI p), .d (.tup []), .d (.str "count")]) (by rfl)).trans ?_
  rfl
theorem is_F4 (l t : Int) {p : List Int} (h : maxD [tI p] = some (.d (.int t))) : g_is_true [.d (F4 l), .d (tI p), .d (.tup [])] = .ok (.d (.bl (!decide (t ≤ l)))) [.d (F4 l), .d (tI p), .d (.tup [])] := by
  refine body_rt (ρ := [.d (F4 l), .d (tI p), .d (.tup []), .d (.str "not")]) ?_
  refine (seq_nx (ρ' := [.d (F4 l), .d (tI p), .d (.tup []), .d (.str "not")]) (by rfl)).trans ?_
  refine seq_rt ?_
  refine (if_tt (ρ' := [.d (F4 l), .d (tI p), .d (.tup []), .d (.str "not")]) (by rfl)).trans (rt_ok ?_)
  have : W1 (eUn notD (eCall (f_is_true 6) [] (aCons (eOp ixD (eVar 0) (eC (.int 1))) (aCons (eVar 1) (aCons (eVar 2) (aNil))))) [.d (F4 l), .d (tI p), .d (.tup []), .d (.str "not")]) (fun v ρ => v = .d (.bl (!decide (t ≤ l))) ∧ ρ = [.d (F4 l), .d (tI p), .d (.tup []), .d (.str "not")]) := by
    simp
    unfold F4
    have a1 : L2.atI [D.str "not", F4' l] 1 = some (F4' l) := rfl
    simp [a1]
    refine w_call (as := [.d (F4' l), .d (tI p), .d (.tup [])]) rfl (by simp [slotsOf]) ?_
    rw [is_F4' 5 l t h]
    simp [putBack, notD]
  obtain ⟨v, ρ, e, rfl, rfl⟩ := this.ex
  exact e
theorem ic_gen (j : Nat) {X : D} (h : s_is_counted (f_is_counted j) [.d X] = .rt (.d (.bl true)) [.d X]) : f_is_counted (j + 1) [.d X] = .ok (.d (.bl true)) [.d X] := body_rt h
theorem ic_F1 (l : Int) : g_is_counted [.d (F1 l)] = .ok (.d (.bl true)) [.d (F1 l)] := by
  refine ic_gen 6 ?_
  iterate 2 refine (seq_nx (ρ' := [.d (F1 l)]) (by rfl)).trans ?_
  rfl
theorem ic_F3 (v l : Int) : g_is_counted [.d (F3 v l)] = .ok (.d (.bl true)) [.d (F3 v l)] := by
  refine ic_gen 6 ?_
  iterate 2 refine (seq_nx (ρ' := [.d (F3 v l)]) (by rfl)).trans ?_
  rfl
theorem ic_F4' (l : Int) : f_is_counted 6 [.d (F4' l)] = .ok (.d (.bl true)) [.d (F4' l)] := by
  refine ic_gen 5 ?_
  iterate 2 refine (seq_nx (ρ' := [.d (F4' l)]) (by rfl)).trans ?_
  rfl
theorem ic_F4 (l : Int) : g_is_counted [.d (F4 l)] = .ok (.d (.bl true)) [.d (F4 l)] := by
  refine ic_gen 6 ?_
  refine seq_rt ?_
  refine (if_tt (ρ' := [.d (F4 l)]) (by rfl)).trans (rt_ok ?_)
  have : W1 (eCall (f_is_counted 6) [] (aCons (eOp ixD (eVar 0) (eC (.int 1))) aNil) [.d (F4 l)]) (fun v ρ => v = .d (.bl true) ∧ ρ = [.d (F4 l)]) := by
    simp
    unfold F4
    have a1 : L2.atI [D.str "not", F4' l] 1 = some (F4' l) := rfl
    simp [a1]
    refine w_call (as := [.d (F4' l)]) rfl (by simp [slotsOf]) ?_
    rw [ic_F4' l]
    exact ⟨rfl, rfl⟩
  obtain ⟨v, ρ, e, rfl, rfl⟩ := this.ex
  exact e
theorem cc_eq {X : D} (h : g_is_counted [.d X] = .ok (.d (.bl true)) [.d X]) : g_check_counted [.d X] = .ok (.d .non) [.d X] := by
  have : W1 (g_check_counted [.d X]) (fun v ρ => v = .d .non ∧ ρ = [.d X]) := by
    refine i_body fun TT t1 t2 t3 => ?_
    unfold s_check_counted argE
    simp only [List.map_cons, List.map_nil, mkPar, List.length_cons, List.length_nil, List.cons_append, List.nil_append]
    simp
    refine w_call (as := [.d X]) rfl (by simp [slotsOf]) ?_
    rw [h]
    simp [putBack, merge]
  obtain ⟨v, ρ, e, rfl, rfl⟩ := this.ex
  exact e
end K

set_option linter.all false
set_option maxRecDepth 100000
set_option maxHeartbeats 4000000
namespace K
open PySem PySem.Spec PyProof.Rows L2 L3
variable {P : Vl → Rho → Prop}
structure POk (n : Int) (k : Nat) (h : List Int) : Prop where
  len : h.length = k + 1
  el : ∀ x ∈ h, 0 ≤ x ∧ x ≤ n
theorem prof_ok {n : Int} (h0 : 0 ≤ n) {k : Nat} {p : List Int} (hp : p ∈ prof n k) : POk n k p := by
  unfold prof at hp
  obtain ⟨h, hh, rfl⟩ := List.mem_map.mp hp
  obtain ⟨a, b, c, d⟩ := heads_ok h0 hh
  refine ⟨by rw [List.length_append, a]; rfl, fun x hx => ?_⟩
  rcases List.mem_append.mp hx with z | z
  · exact d x z
  · have : x = n - h.sum := by simpa using z
    omega
theorem prof_len {n : Int} (h0 : 0 ≤ n) (h1 : n ≤ 60) {k : Nat} (hk : k ≤ 3) (hc : pcV n k ≤ 400) : (prof n k).length ≤ 3721 := by
  unfold prof
  rw [List.length_map]
  exact heads_small h0 h1 hk hc (Nat.le_refl k)
def unI : D → List Int
  | .tup xs => (intsD xs).getD []
  | _ => []
theorem unI_tI (p : List Int) : unI (tI p) = p := by
  show (intsD (p.map D.int)).getD [] = p
  rw [ints_map]
  rfl
def mxV (p : List Int) : Int := (maxL p).getD 0
theorem max_tI {p : List Int} (h : 0 < p.length) : maxD [tI p] = some (.d (.int (mxV p))) := by
  cases p with
  | nil => cases h
  | cons x xs =>
    show ((intsD ((x :: xs).map D.int)).bind fun ns => (maxL ns).map fun m => Vl.d (.int m)) = _
    rw [ints_map]
    rfl
theorem at_tI {p : List Int} {v : Int} (h0 : 0 ≤ v) (h1 : v < p.length) : L2.atI (p.map D.int) v = some (.int (p.getD v.toNat 0)) := by
  obtain ⟨h, e⟩ := atI_in (xs := p.map D.int) h0 (by rw [List.length_map]; exact h1)
  rw [e]
  rw [List.length_map] at h
  simp [List.getD, h]
theorem fil_ok {n : Int} {k : Nat} {fi : Rho → R (List D)} {ρ0 ρ : Rho} {i : Nat} {tt : Rho → R Bool} (q : List Int → Bool) (hf : fi ρ0 = .ok ((prof n k).map tI) ρ) (hi : i < ρ.length) (hl : (prof n k).length ≤ 100000)
    (h : ∀ p ∈ prof n k, tt (ρ.set i (.d (tI p))) = .ok (q p) (ρ.set i (.d (tI p)))) : eLc fi (gNm i) tt (eFz (eVar i)) [i] ρ0 = .ok (.f (.lst (((prof n k).filter q).map tI))) ρ := by
  rw [eLc_eq (fun x => q (unI x)) (fun x => x) hf hi (by rw [List.length_map]; exact hl)]
  · rw [List.map_id', List.filter_map]
    have : ((fun x => q (unI x)) ∘ tI) = q := by
      funext p
      show q (unI (tI p)) = q p
      rw [unI_tI]
    rw [this]
  · intro x hx
    obtain ⟨p, hp, rfl⟩ := List.mem_map.mp hx
    refine ⟨by rw [h p hp, unI_tI], fun _ => ?_⟩
    have gi : (ρ.set i (.d (tI p)))[i]? = some (.d (tI p)) := List.getElem?_set_self hi
    simp [bnd, eVar, gi]
theorem it_ok {n m : Int} {k a b : Nat} {ρ : Rho} (ha : ρ[a]? = some (.d (.int n))) (hb : ρ[b]? = some (.d (.int m))) (h0 : 0 ≤ n) (h1 : n ≤ 60) (hk : k ≤ 3) (e : m = k + 1) (hc : pcV n k ≤ 400) :
    iSq (eCall g_all_profiles [] (aCons (eVar a) (aCons (eVar b) (aNil)))) ρ = .ok ((prof n k).map tI) ρ := by
  have : W1 (iSq (eCall g_all_profiles [] (aCons (eVar a) (aCons (eVar b) (aNil)))) ρ) (fun v ρ' => v = (prof n k).map tI ∧ ρ' = ρ) := by
    simp [ha, hb]
    refine w_call (as := [.d (.int n), .d (.int m)]) rfl (by simp [slotsOf]) ?_
    rw [ap_ok h0 h1 hk e hc]
    simp [putBack]
  obtain ⟨v, ρ, e, rfl, rfl⟩ := this.ex
  exact e
theorem call_ex {g : Rho → R Vl} {a b : Nat} {x y : D} {ρ : Rho} {c : Str} {fs : List (Str × D)} (ha : ρ[a]? = some (.d x)) (hb : ρ[b]? = some (.d y)) (h : g [.d x, .d y] = .ex c fs [.d x, .d y]) :
    eCall g [] (aCons (eVar a) (aCons (eVar b) (aNil))) ρ = .ex c fs ρ := by
  simp [bnd, ha, hb, callG, argsOf, argOf, slotsOf, h]
  rfl
/-- all the ways to ask, ahead of the limit -/
theorem lc_ex {a b i : Nat} {tt : Rho → R Bool} {te : Rho → R Vl} {n m : Int} {k : Nat} {ρ : Rho} (ha : ρ[a]? = some (.d (.int n))) (hb : ρ[b]? = some (.d (.int m))) (h0 : 0 ≤ n) (h1 : n ≤ 60) (hk : k ≤ 3) (e : m = k + 1) (hc : 400 < pcV n k) :
    eLc (iSq (eCall g_all_profiles [] (aCons (eVar a) (aCons (eVar b) (aNil))))) (gNm i) tt te [i] ρ = .ex "TooMany" (putF ["what", "limit"] [.str "profiles", .int 400] [("name", .str "TooMany")]) ρ := by
  unfold eLc iSq eFz bnd
  rw [call_ex ha hb (ap_ex h0 h1 hk e hc)]
theorem srt_ex {f : Rho → R Vl} {ρ ρ' : Rho} {c : Str} {fs : List (Str × D)} (h : f ρ = .ex c fs ρ') : sRt f ρ = .ex c fs ρ' := by
  unfold sRt sB
  rw [h]
theorem rtf_ok {f : Rho → R Vl} {ρ ρ' : Rho} {x : Vl} (h : f ρ = .ok x ρ') : sRt f ρ = .rt x ρ' := rt_ok h
abbrev TMf : List (Str × D) := putF ["what", "limit"] [.str "profiles", .int 400] [("name", .str "TooMany")]
theorem le_ok {n m l : Int} {k : Nat} (h0 : 0 ≤ n) (h1 : n ≤ 60) (hk : k ≤ 3) (e : m = k + 1) (hc : pcV n k ≤ 400) : g_at_least [.d (.int n), .d (.int m), .d (.int l)] = .ok (.f (.lst (((prof n k).filter fun p => decide (l ≤ mxV p)).map tI))) [.d (.int n), .d (.int m), .d (.int l)] := by
  refine body_rf (ρ := [.d (.int n), .d (.int m), .d (.int l), .un]) (rt_ok ?_)
  refine fil_ok _ (it_ok (a := 0) (b := 1) rfl rfl h0 h1 hk e hc) (by simp) (by have := prof_len h0 h1 hk hc; omega) fun p hp => ?_
  have hm := max_tI (p := p) (by rw [(prof_ok h0 hp).len]; omega)
  simp [bnd, eOp, eCB, eVar, aCons, aNil, opN, views, view, hm, op2, okV, geD, tV, asB]
theorem le_ex {n m l : Int} {k : Nat} (h0 : 0 ≤ n) (h1 : n ≤ 60) (hk : k ≤ 3) (e : m = k + 1) (hc : 400 < pcV n k) : g_at_least [.d (.int n), .d (.int m), .d (.int l)] = .ex "TooMany" TMf [.d (.int n), .d (.int m), .d (.int l)] := by
  exact body_ex (ρ := [.d (.int n), .d (.int m), .d (.int l), .un]) (srt_ex (lc_ex (a := 0) (b := 1) rfl rfl h0 h1 hk e hc))
theorem pr_ok {n m v l : Int} {k : Nat} (h0 : 0 ≤ n) (h1 : n ≤ 60) (hk : k ≤ 3) (e : m = k + 1) (v0 : 0 ≤ v) (v1 : v < m) (hc : pcV n k ≤ 400) : g_preferred [.d (.int n), .d (.int m), .d (.int v), .d (.int l)] = .ok (.f (.lst (((prof n k).filter fun p => decide (l ≤ p.getD v.toNat 0)).map tI))) [.d (.int n), .d (.int m), .d (.int v), .d (.int l)] := by
  refine body_rf (ρ := [.d (.int n), .d (.int m), .d (.int v), .d (.int l), .un]) (rt_ok ?_)
  refine fil_ok _ (it_ok (a := 0) (b := 1) rfl rfl h0 h1 hk e hc) (by simp) (by have := prof_len h0 h1 hk hc; omega) fun p hp => ?_
  have hm := at_tI (p := p) v0 (by rw [(prof_ok h0 hp).len]; omega)
  simp [bnd, eOp, eVar, tI, hm, op2, okV, geD, tV, asB]
theorem pr_ex {n m v l : Int} {k : Nat} (h0 : 0 ≤ n) (h1 : n ≤ 60) (hk : k ≤ 3) (e : m = k + 1) (hc : 400 < pcV n k) : g_preferred [.d (.int n), .d (.int m), .d (.int v), .d (.int l)] = .ex "TooMany" TMf [.d (.int n), .d (.int m), .d (.int v), .d (.int l)] := by
  exact body_ex (ρ := [.d (.int n), .d (.int m), .d (.int v), .d (.int l), .un]) (srt_ex (lc_ex (a := 0) (b := 1) rfl rfl h0 h1 hk e hc))
theorem cc_call {X : D} {r : Rho} (h : g_is_counted [.d X] = .ok (.d (.bl true)) [.d X]) : sEx (eCall g_check_counted [] (aCons (eVar 0) aNil)) (.d X :: r) = .nx (.d X :: r) := by
  unfold sEx sB
  simp [bnd, callG, argsOf, argOf, slotsOf, cc_eq h]
  rfl
theorem pw_ok {X : D} {n m : Int} {k : Nat} (q : List Int → Bool) (h0 : 0 ≤ n) (h1 : n ≤ 60) (hk : k ≤ 3) (e : m = k + 1) (hc : pcV n k ≤ 400) (hX : g_is_counted [.d X] = .ok (.d (.bl true)) [.d X])
    (hq : ∀ p, p ∈ prof n k → g_is_true [.d X, .d (tI p), .d (.tup [])] = .ok (.d (.bl (q p))) [.d X, .d (tI p), .d (.tup [])]) :
    g_profiles_where [.d X, .d (.int n), .d (.int m)] = .ok (.f (.lst (((prof n k).filter q).map tI))) [.d X, .d (.int n), .d (.int m)] := by
  refine body_rf (ρ := [.d X, .d (.int n), .d (.int m), .un]) ?_
  refine (seq_nx (cc_call hX)).trans (rt_ok ?_)
  refine fil_ok _ (it_ok (a := 1) (b := 2) rfl rfl h0 h1 hk e hc) (by simp) (by have := prof_len h0 h1 hk hc; omega) fun p hp => ?_
  have hm := hq p hp
  have : W1 (tV (eCall g_is_true [] (aCons (eVar 0) (aCons (eVar 3) (aCons (eTup aNil) aNil)))) [.d X, .d (.int n), .d (.int m), .d (tI p)]) (fun b ρ => b = q p ∧ ρ = [.d X, .d (.int n), .d (.int m), .d (tI p)]) := by
    simp
    refine w_call (as := [.d X, .d (tI p), .d (.tup [])]) rfl (by simp [slotsOf]) ?_
    rw [hm]
    simp [putBack]
  obtain ⟨v, ρ, e, rfl, rfl⟩ := this.ex
  exact e
theorem pw_ex {X : D} {n m : Int} {k : Nat} (h0 : 0 ≤ n) (h1 : n ≤ 60) (hk : k ≤ 3) (e : m = k + 1) (hc : 400 < pcV n k) (hX : g_is_counted [.d X] = .ok (.d (.bl true)) [.d X]) :
    g_profiles_where [.d X, .d (.int n), .d (.int m)] = .ex "TooMany" TMf [.d X, .d (.int n), .d (.int m)] := by
  refine body_ex (ρ := [.d X, .d (.int n), .d (.int m), .un]) ?_
  refine (seq_nx (cc_call hX)).trans ?_
  exact srt_ex (lc_ex (a := 1) (b := 2) rfl rfl h0 h1 hk e hc)
end K

set_option linter.all false
set_option maxRecDepth 100000
set_option maxHeartbeats 4000000
namespace K
open PySem PySem.Spec PyProof.Rows L2 L3
theorem try_rt {cl : List Str} {s : Rho → SR} {hs : List HC} {ρ ρ' : Rho} {x : Vl} (h : s ρ = .rt x ρ') : sTry cl s hs ρ = .rt x ρ' := by
  unfold sTry
  rw [h]
theorem try_ex {cl : List Str} {s : Rho → SR} {hs : List HC} {ρ ρ' : Rho} {c : Str} {fs : List (Str × D)} {r : SR} (h : s ρ = .ex c fs ρ') (h2 : (if cl.contains c = true then hTry c fs hs ρ' else .no) = r) : sTry cl s hs ρ = r := by
  unfold sTry
  rw [h]
  exact h2
def ansL (w : Nat) (n : Int) (k : Nat) (v l : Int) : List (List Int) := match w with
  | 0 => (prof n k).filter fun p => decide (l ≤ mxV p)
  | 1 => (prof n k).filter fun p => decide (l ≤ mxV p)
  | 2 => (prof n k).filter fun p => decide (l ≤ p.getD v.toNat 0)
  | 3 => (prof n k).filter fun p => decide (l ≤ p.getD v.toNat 0)
  | 4 => (prof n k).filter fun p => decide (l < mxV p)
  | _ => prof n k
def NOL : List D := [.str "refused", .str "profiles", .int 400, .str "TooMany"]
def ANS (w : Nat) (n : Int) (k : Nat) (v l : Int) : List D := if pcV n k ≤ 400 then (ansL w n k v l).map tI else NOL
theorem ec1 {g : Rho → R Vl} {a : Nat} {x : D} {ρ : Rho} {y : MO} (ha : ρ[a]? = some (.d x)) (h : g [.d x] = .ok (.f y) [.d x]) :
    eCall g [] (aCons (eVar a) aNil) ρ = .ok (.f y) ρ := by
  simp [bnd, ha, callG, argsOf, argOf, slotsOf, h]
  rfl
section
variable {g : Rho → R Vl} {f1 f2 f3 f4 : Rho → R Vl} {x1 x2 x3 x4 : D} {ρ : Rho} {y : MO} {c : Str} {fs : List (Str × D)}
theorem ec2 (a1 : f1 ρ = .ok (.d x1) ρ) (a2 : f2 ρ = .ok (.d x2) ρ) (h : g [.d x1, .d x2] = .ok (.f y) [.d x1, .d x2]) : eCall g [] (aCons f1 (aCons f2 aNil)) ρ = .ok (.f y) ρ := by
  simp [bnd, a1, a2, callG, argsOf, argOf, slotsOf, h]
  rfl
theorem ec3 (a1 : f1 ρ = .ok (.d x1) ρ) (a2 : f2 ρ = .ok (.d x2) ρ) (a3 : f3 ρ = .ok (.d x3) ρ) (h : g [.d x1, .d x2, .d x3] = .ok (.f y) [.d x1, .d x2, .d x3]) : eCall g [] (aCons f1 (aCons f2 (aCons f3 aNil))) ρ = .ok (.f y) ρ := by
  simp [bnd, a1, a2, a3, callG, argsOf, argOf, slotsOf, h]
  rfl
theorem ec4 (a1 : f1 ρ = .ok (.d x1) ρ) (a2 : f2 ρ = .ok (.d x2) ρ) (a3 : f3 ρ = .ok (.d x3) ρ) (a4 : f4 ρ = .ok (.d x4) ρ) (h : g [.d x1, .d x2, .d x3, .d x4] = .ok (.f y) [.d x1, .d x2, .d x3, .d x4]) : eCall g [] (aCons f1 (aCons f2 (aCons f3 (aCons f4 aNil)))) ρ = .ok (.f y) ρ := by
  simp [bnd, a1, a2, a3, a4, callG, argsOf, argOf, slotsOf, h]
  rfl
theorem ex2 (a1 : f1 ρ = .ok (.d x1) ρ) (a2 : f2 ρ = .ok (.d x2) ρ) (h : g [.d x1, .d x2] = .ex c fs [.d x1, .d x2]) : eCall g [] (aCons f1 (aCons f2 aNil)) ρ = .ex c fs ρ := by
  simp [bnd, a1, a2, callG, argsOf, argOf, slotsOf, h]
  rfl
theorem ex3 (a1 : f1 ρ = .ok (.d x1) ρ) (a2 : f2 ρ = .ok (.d x2) ρ) (a3 : f3 ρ = .ok (.d x3) ρ) (h : g [.d x1, .d x2, .d x3] = .ex c fs [.d x1, .d x2, .d x3]) : eCall g [] (aCons f1 (aCons f2 (aCons f3 aNil))) ρ = .ex c fs ρ := by
  simp [bnd, a1, a2, a3, callG, argsOf, argOf, slotsOf, h]
  rfl
theorem ex4 (a1 : f1 ρ = .ok (.d x1) ρ) (a2 : f2 ρ = .ok (.d x2) ρ) (a3 : f3 ρ = .ok (.d x3) ρ) (a4 : f4 ρ = .ok (.d x4) ρ) (h : g [.d x1, .d x2, .d x3, .d x4] = .ex c fs [.d x1, .d x2, .d x3, .d x4]) : eCall g [] (aCons f1 (aCons f2 (aCons f3 (aCons f4 aNil)))) ρ = .ex c fs ρ := by
  simp [bnd, a1, a2, a3, a4, callG, argsOf, argOf, slotsOf, h]
  rfl
end
section
variable {n m v l : Int} {k : Nat}
def tAsk (w : Int) (n m v l : Int) : Rho := [.d (.int w), .d (.int n), .d (.int m), .d (.int v), .d (.int l), .un]
theorem told_ok (h0 : 0 ≤ n) (h1 : n ≤ 60) (hk : k ≤ 3) (e : m = k + 1) (v0 : 0 ≤ v) (v1 : v < m) (hc : pcV n k ≤ 400) {w : Nat} (hw : w ≤ 5) :
    g_u_law_told [.d (.int w), .d (.int n), .d (.int m), .d (.int v), .d (.int l)] = .ok (.f (.lst ((ansL w n k v l).map tI))) [.d (.int w), .d (.int n), .d (.int m), .d (.int v), .d (.int l)] := by
  refine body_rf (ρ := tAsk w n m v l) (try_rt ?_)
  have hm : ∀ p ∈ prof n k, maxD [tI p] = some (.d (.int (mxV p))) := fun p hp => max_tI (by rw [(prof_ok h0 hp).len]; omega)
  have ha : ∀ p ∈ prof n k, v < p.length := fun p hp => by rw [(prof_ok h0 hp).len]; omega
  rcases (by omega : w = 0 ∨ w = 1 ∨ w = 2 ∨ w = 3 ∨ w = 4 ∨ w = 5) with rfl | rfl | rfl | rfl | rfl | rfl
  · refine seq_rt ?_
    refine (if_tt (ρ' := tAsk 0 n m v l) (by rfl)).trans (rt_ok ?_)
    exact ec3 rfl rfl rfl (le_ok h0 h1 hk e hc)
  · refine (seq_nx (ρ' := tAsk 1 n m v l) (by rfl)).trans (seq_rt ?_)
    refine (if_tt (ρ' := tAsk 1 n m v l) (by rfl)).trans (rt_ok ?_)
    exact ec3 (x1 := F1 l) rfl rfl rfl (pw_ok _ h0 h1 hk e hc (ic_F1 l) fun p hp => is_F1 l _ (hm p hp))
  · iterate 2 refine (seq_nx (ρ' := tAsk 2 n m v l) (by rfl)).trans ?_
    refine seq_rt ?_
    refine (if_tt (ρ' := tAsk 2 n m v l) (by rfl)).trans (rt_ok ?_)
    exact ec4 rfl rfl rfl rfl (pr_ok h0 h1 hk e v0 v1 hc)
  · iterate 3 refine (seq_nx (ρ' := tAsk 3 n m v l) (by rfl)).trans ?_
    refine seq_rt ?_
    refine (if_tt (ρ' := tAsk 3 n m v l) (by rfl)).trans (rt_ok ?_)
    exact ec3 (x1 := F3 v l) rfl rfl rfl (pw_ok _ h0 h1 hk e hc (ic_F3 v l) fun p hp => is_F3 v l _ v0 (ha p hp) (at_tI v0 (ha p hp)))
  · iterate 4 refine (seq_nx (ρ' := tAsk 4 n m v l) (by rfl)).trans ?_
    refine seq_rt ?_
    refine (if_tt (ρ' := tAsk 4 n m v l) (by rfl)).trans (rt_ok ?_)
    refine ec3 (x1 := F4 l) rfl rfl rfl (pw_ok _ h0 h1 hk e hc (ic_F4 l) fun p hp => ?_)
    rw [is_F4 l _ (hm p hp)]
    have : (!decide (mxV p ≤ l)) = decide (l < mxV p) := by
      by_cases z : l < mxV p
      · rw [decide_eq_true z, decide_eq_false (by omega)]; rfl
      · rw [decide_eq_false z, decide_eq_true (by omega)]; rfl
    rw [this]
  · iterate 5 refine (seq_nx (ρ' := tAsk 5 n m v l) (by rfl)).trans ?_
    refine rt_ok ?_
    exact ec2 rfl rfl (ap_ok h0 h1 hk e hc)
theorem told_no (h0 : 0 ≤ n) (h1 : n ≤ 60) (hk : k ≤ 3) (e : m = k + 1) (hc : 400 < pcV n k) {w : Nat} (hw : w ≤ 5) :
    g_u_law_told [.d (.int w), .d (.int n), .d (.int m), .d (.int v), .d (.int l)] = .ok (.f (.lst NOL)) [.d (.int w), .d (.int n), .d (.int m), .d (.int v), .d (.int l)] := by
  refine body_rf (ρ := tAsk w n m v l) (try_ex (c := "TooMany") (fs := TMf) (ρ' := tAsk w n m v l) ?_ (by rfl))
  rcases (by omega : w = 0 ∨ w = 1 ∨ w = 2 ∨ w = 3 ∨ w = 4 ∨ w = 5) with rfl | rfl | rfl | rfl | rfl | rfl
  · refine seq_ex ?_
    refine (if_tt (ρ' := tAsk 0 n m v l) (by rfl)).trans (srt_ex ?_)
    exact ex3 rfl rfl rfl (le_ex h0 h1 hk e hc)
  · refine (seq_nx (ρ' := tAsk 1 n m v l) (by rfl)).trans (seq_ex ?_)
    refine (if_tt (ρ' := tAsk 1 n m v l) (by rfl)).trans (srt_ex ?_)
    exact ex3 (x1 := F1 l) rfl rfl rfl (pw_ex h0 h1 hk e hc (ic_F1 l))
  · iterate 2 refine (seq_nx (ρ' := tAsk 2 n m v l) (by rfl)).trans ?_
    refine seq_ex ?_
    refine (if_tt (ρ' := tAsk 2 n m v l) (by rfl)).trans (srt_ex ?_)
    exact ex4 rfl rfl rfl rfl (pr_ex h0 h1 hk e hc)
  · iterate 3 refine (seq_nx (ρ' := tAsk 3 n m v l) (by rfl)).trans ?_
    refine seq_ex ?_
    refine (if_tt (ρ' := tAsk 3 n m v l) (by rfl)).trans (srt_ex ?_)
    exact ex3 (x1 := F3 v l) rfl rfl rfl (pw_ex h0 h1 hk e hc (ic_F3 v l))
  · iterate 4 refine (seq_nx (ρ' := tAsk 4 n m v l) (by rfl)).trans ?_
    refine seq_ex ?_
    refine (if_tt (ρ' := tAsk 4 n m v l) (by rfl)).trans (srt_ex ?_)
    exact ex3 (x1 := F4 l) rfl rfl rfl (pw_ex h0 h1 hk e hc (ic_F4 l))
  · iterate 5 refine (seq_nx (ρ' := tAsk 5 n m v l) (by rfl)).trans ?_
    refine srt_ex ?_
    exact ex2 rfl rfl (ap_ex h0 h1 hk e hc)
end
end K

set_option linter.all false
set_option maxRecDepth 100000
set_option maxHeartbeats 4000000
namespace K
open PySem PySem.Spec PyProof.Rows L2 L3
section
variable {n m v l : Int} {k : Nat}
theorem ed2 {g f1 f2 : Rho → R Vl} {x1 x2 y : D} {ρ : Rho} (a1 : f1 ρ = .ok (.d x1) ρ) (a2 : f2 ρ = .ok (.d x2) ρ) (h : g [.d x1, .d x2] = .ok (.d y) [.d x1, .d x2]) : eCall g [] (aCons f1 (aCons f2 aNil)) ρ = .ok (.d y) ρ := by
  simp [bnd, a1, a2, callG, argsOf, argOf, slotsOf, h]
  rfl
theorem body_rs {s : Rho → SR} {n i : Nat} {as ρ : Rho} {x : MO} (h : s (argE n as) = .rt (.s i) ρ) (h2 : ρ[i]? = some (.o false x)) : bodyR n s as = .ok (.f x) (merge as ρ) := by
  unfold bodyR
  rw [h]
  dsimp only
  rw [h2]
theorem sset_ok {f : Rho → R Vl} {ρ ρ' : Rho} {i : Nat} {x : Vl} {r : SR} (h : f ρ = .ok x ρ') (h2 : setSl i x ρ' = r) : sSet i f ρ = r := by
  unfold sSet sB
  rw [h]
  exact h2
def dA (w : Int) (n m v l : Int) (X : Sl) : Rho := [.d (.int w), .d (.int n), .d (.int m), .d (.int v), .d (.int l), X, .un]
theorem due_test (h0 : 0 ≤ n) (h1 : n ≤ 60) (hk : k ≤ 3) (e : m = k + 1) (w : Int) :
    tV (eOp gtD (eCall g_u_law_profile_count [] (aCons (eVar 1) (aCons (eVar 2) (aNil)))) (eC (.int 400))) (dA w n m v l .un) = .ok (decide (400 < pcV n k)) (dA w n m v l .un) := by
  have hc := pcount_eq (n := n) (m := m) h0 h1 (by omega) (by omega)
  have e2 : (m - 1).toNat = k := by omega
  rw [e2] at hc
  have : eCall g_u_law_profile_count [] (aCons (eVar 1) (aCons (eVar 2) (aNil))) (dA w n m v l .un) = .ok (.d (.int (pcV n k))) (dA w n m v l .un) := ed2 (x1 := .int n) (x2 := .int m) (by rfl) (by rfl) hc
  rw [q_tV]
  unfold bnd
  rw [q_eOp]
  unfold bnd
  rw [this]
  rfl
theorem due_no (h0 : 0 ≤ n) (h1 : n ≤ 60) (hk : k ≤ 3) (e : m = k + 1) (hc : 400 < pcV n k) {w : Nat} :
    g_u_law_due [.d (.int w), .d (.int n), .d (.int m), .d (.int v), .d (.int l)] = .ok (.f (.lst NOL)) [.d (.int w), .d (.int n), .d (.int m), .d (.int v), .d (.int l)] := by
  refine body_rf (ρ := dA w n m v l .un) (seq_rt ?_)
  refine (if_tt (ρ' := dA w n m v l .un) ?_).trans (rt_ok (by rfl))
  have := due_test (v := v) (l := l) h0 h1 hk e w
  rw [decide_eq_true hc] at this
  exact this
def pD (n : Int) (k : Nat) : D := .lst ((prof n k).map tI)
theorem it5 (w : Int) : iSq (eVar 5) (dA w n m v l (.o false (.lst ((prof n k).map tI)))) = .ok ((prof n k).map tI) (dA w n m v l (.d (pD n k))) := rfl
theorem due_ok (h0 : 0 ≤ n) (h1 : n ≤ 60) (hk : k ≤ 3) (e : m = k + 1) (v0 : 0 ≤ v) (v1 : v < m) (hc : pcV n k ≤ 400) {w : Nat} (hw : w ≤ 5) :
    g_u_law_due [.d (.int w), .d (.int n), .d (.int m), .d (.int v), .d (.int l)] = .ok (.f (.lst ((ansL w n k v l).map tI))) [.d (.int w), .d (.int n), .d (.int m), .d (.int v), .d (.int l)] := by
  have hm : ∀ p ∈ prof n k, maxD [tI p] = some (.d (.int (mxV p))) := fun p hp => max_tI (by rw [(prof_ok h0 hp).len]; omega)
  have ha : ∀ p ∈ prof n k, L2.atI (p.map D.int) v = some (.int (p.getD v.toNat 0)) := fun p hp => at_tI v0 (by rw [(prof_ok h0 hp).len]; omega)
  have hl : (prof n k).length ≤ 100000 := by have := prof_len h0 h1 hk hc; omega
  have t := due_test (v := v) (l := l) h0 h1 hk e w
  rw [decide_eq_false (by omega)] at t
  have st : sSet 5 (eCall g_u_law_all_profiles [] (aCons (eVar 1) (aCons (eVar 2) (aNil)))) (dA w n m v l .un) = .nx (dA w n m v l (.o false (.lst ((prof n k).map tI)))) :=
    sset_ok (ec2 (x1 := .int n) (x2 := .int m) (by rfl) (by rfl) (al_ok h0 h1 hk e hc)) (by rfl)
  have pre : ∀ {t : Rho → SR} {r : SR}, t (dA w n m v l (.o false (.lst ((prof n k).map tI)))) = r → sSeq (sIf (tV (eOp gtD (eCall g_u_law_profile_count [] (aCons (eVar 1) (aCons (eVar 2) (aNil)))) (eC (.int 400)))) (sRt (eLst (aCons (eC (.str "refused")) (aCons (eC (.str "profiles")) (aCons (eC (.int 400)) (aCons (eC (.str "TooMany")) (aNil))))))) (sNx)) (sSeq (sSet 5 (eCall g_u_law_all_profiles [] (aCons (eVar 1) (aCons (eVar 2) (aNil))))) t) (dA w n m v l .un) = r := fun h => ((seq_nx ((if_ff t).trans (by rfl))).trans (seq_nx st)).trans h
  rcases (by omega : w = 0 ∨ w = 1 ∨ w = 2 ∨ w = 3 ∨ w = 4 ∨ w = 5) with rfl | rfl | rfl | rfl | rfl | rfl
  · refine body_rf (ρ := dA 0 n m v l (.d (pD n k))) (pre ?_)
    refine seq_rt ((if_tt (ρ' := dA 0 n m v l (.o false (.lst ((prof n k).map tI)))) (by rfl)).trans (rt_ok ?_))
    refine fil_ok _ (it5 _) (by simp [dA]) hl fun p hp => ?_
    simp [bnd, dA, eOp, eCB, eVar, aCons, aNil, opN, views, view, hm p hp, op2, okV, geD, tV, asB]
  · refine body_rf (ρ := dA 1 n m v l (.d (pD n k))) (pre ?_)
    refine seq_rt ((if_tt (ρ' := dA 1 n m v l (.o false (.lst ((prof n k).map tI)))) (by rfl)).trans (rt_ok ?_))
    refine fil_ok _ (it5 _) (by simp [dA]) hl fun p hp => ?_
    simp [bnd, dA, eOp, eCB, eVar, aCons, aNil, opN, views, view, hm p hp, op2, okV, geD, tV, asB]
  · refine body_rf (ρ := dA 2 n m v l (.d (pD n k))) (pre ?_)
    iterate 2 refine (seq_nx (ρ' := dA 2 n m v l (.o false (.lst ((prof n k).map tI)))) (by rfl)).trans ?_
    refine seq_rt ((if_tt (ρ' := dA 2 n m v l (.o false (.lst ((prof n k).map tI)))) (by rfl)).trans (rt_ok ?_))
    refine fil_ok _ (it5 _) (by simp [dA]) hl fun p hp => ?_
    simp [bnd, dA, eOp, eVar, tI, ha p hp, op2, okV, geD, tV, asB]
  · refine body_rf (ρ := dA 3 n m v l (.d (pD n k))) (pre ?_)
    iterate 2 refine (seq_nx (ρ' := dA 3 n m v l (.o false (.lst ((prof n k).map tI)))) (by rfl)).trans ?_
    refine seq_rt ((if_tt (ρ' := dA 3 n m v l (.o false (.lst ((prof n k).map tI)))) (by rfl)).trans (rt_ok ?_))
    refine fil_ok _ (it5 _) (by simp [dA]) hl fun p hp => ?_
    simp [bnd, dA, eOp, eVar, tI, ha p hp, op2, okV, geD, tV, asB]
  · refine body_rf (ρ := dA 4 n m v l (.d (pD n k))) (pre ?_)
    refine (seq_nx (ρ' := dA 4 n m v l (.o false (.lst ((prof n k).map tI)))) (by rfl)).trans ?_
    refine seq_rt ((if_tt (ρ' := dA 4 n m v l (.o false (.lst ((prof n k).map tI)))) (by rfl)).trans (rt_ok ?_))
    refine fil_ok _ (it5 _) (by simp [dA]) hl fun p hp => ?_
    simp [bnd, dA, eOp, eCB, eVar, aCons, aNil, opN, views, view, hm p hp, op2, okV, gtD, tV, asB]
  · refine body_rs (i := 5) (ρ := dA 5 n m v l (.o false (.lst ((prof n k).map tI)))) (pre ?_) rfl
    iterate 3 refine (seq_nx (ρ' := dA 5 n m v l (.o false (.lst ((prof n k).map tI)))) (by rfl)).trans ?_
    rfl
end
end K

set_option linter.all false
set_option maxRecDepth 100000
set_option maxHeartbeats 4000000
namespace K
open PySem PySem.Spec PyProof.Rows L2 L3
theorem shDs_ints : ∀ {p : List Int}, (∀ x ∈ p, x.natAbs < 10 ^ 100) → shDs (p.map .int) = true
  | [], _ => rfl
  | x :: xs, h => by
    rw [List.map_cons]
    unfold shDs shD
    rw [decide_eq_true (h x (List.mem_cons_self ..)), shDs_ints fun y hy => h y (List.mem_cons_of_mem _ hy)]
    rfl
theorem bulk_ints : ∀ p : List Int, PyData.bulkAll (toPs (p.map .int)) = p.length
  | [] => rfl
  | x :: xs => by
    rw [List.map_cons]
    unfold toPs PyData.bulkAll
    rw [bulk_ints xs]
    unfold toP PyData.bulk
    rw [List.length_cons]
    omega
theorem depth_ints : ∀ p : List Int, PyData.depthAll (toPs (p.map .int)) ≤ 1
  | [] => by decide
  | x :: xs => by
    have := depth_ints xs
    rw [List.map_cons]
    unfold toPs PyData.depthAll toP PyData.depth
    omega
theorem nat_lt {x : Int} (h0 : 0 ≤ x) (h1 : x ≤ 60) : x.natAbs < 10 ^ 100 := Nat.lt_of_le_of_lt (m := 60) (by omega) (by decide +kernel)
theorem shDs_tI : ∀ {ps : List (List Int)}, (∀ p ∈ ps, ∀ x ∈ p, 0 ≤ x ∧ x ≤ 60) → shDs (ps.map tI) = true
  | [], _ => rfl
  | p :: ps, h => by
    rw [List.map_cons]
    unfold shDs
    rw [shDs_tI fun y hy => h y (List.mem_cons_of_mem _ hy)]
    unfold tI shD
    rw [shDs_ints fun x hx => nat_lt (h p (List.mem_cons_self ..) x hx).1 (h p (List.mem_cons_self ..) x hx).2]
    rfl
theorem bulk_tI {b : Nat} : ∀ {ps : List (List Int)}, (∀ p ∈ ps, p.length ≤ b) → PyData.bulkAll (toPs (ps.map tI)) ≤ ps.length * (b + 1)
  | [], _ => by simp [toPs, PyData.bulkAll]
  | p :: ps, h => by
    have i := bulk_tI (ps := ps) fun y hy => h y (List.mem_cons_of_mem _ hy)
    have hp := h p (List.mem_cons_self ..)
    rw [List.map_cons]
    unfold toPs PyData.bulkAll tI toP PyData.bulk
    rw [bulk_ints p, List.length_cons, Nat.succ_mul]
    have i : PyData.bulkAll (toPs (List.map (fun xs => D.tup (List.map D.int xs)) ps)) ≤ ps.length * (b + 1) := i
    show p.length + 1 + PyData.bulkAll (toPs (List.map (fun xs => D.tup (List.map D.int xs)) ps)) ≤ _
    omega
theorem depth_tI : ∀ ps : List (List Int), PyData.depthAll (toPs (ps.map tI)) ≤ 3
  | [] => by decide
  | p :: ps => by
    have i := depth_tI ps
    have d := depth_ints p
    rw [List.map_cons]
    unfold toPs PyData.depthAll
    have : (toP (tI p)).depth ≤ 2 := by
      unfold tI toP PyData.depth
      omega
    omega
theorem repr_tI {ps : List (List Int)} (h : ∀ p ∈ ps, p.length ≤ 4 ∧ ∀ x ∈ p, 0 ≤ x ∧ x ≤ 60) (hl : ps.length ≤ 4000) : ∃ s, reprD [.lst (ps.map tI)] = some (.d (.str s)) := by
  have h1 := shDs_tI fun p hp => (h p hp).2
  have h2 := bulk_tI fun p hp => (h p hp).1
  have h3 := depth_tI ps
  refine ⟨(toP (.lst (ps.map tI))).shown, ?_⟩
  have g1 : shD (.lst (ps.map tI)) = true := by
    unfold shD
    exact h1
  have g2 : (toP (.lst (ps.map tI))).bulk ≤ 100000 := by
    unfold toP PyData.bulk
    omega
  have g3 : (toP (.lst (ps.map tI))).depth ≤ 60 := by
    unfold toP PyData.depth
    omega
  show (if _ then _ else none) = _
  rw [if_pos ⟨g1, g2, g3⟩]
theorem repr_NOL : ∃ s, reprD [.lst NOL] = some (.d (.str s)) := ⟨_, by rfl⟩
end K

set_option linter.all false
set_option maxRecDepth 100000
set_option maxHeartbeats 4000000
namespace K
open PySem PySem.Spec PyProof.Rows L2 L3
theorem ansL_sub {w : Nat} {n : Int} {k : Nat} {v l : Int} : (∀ p ∈ ansL w n k v l, p ∈ prof n k) ∧ (ansL w n k v l).length ≤ (prof n k).length := by
  unfold ansL
  split <;> first | exact ⟨fun p hp => hp, Nat.le_refl _⟩ | exact ⟨fun p hp => (List.mem_filter.mp hp).1, List.length_filter_le ..⟩
theorem ask {n m v l : Int} {k : Nat} (h0 : 0 ≤ n) (h1 : n ≤ 60) (hk : k ≤ 3) (e : m = k + 1) (v0 : 0 ≤ v) (v1 : v < m) {w : Nat} (hw : w ≤ 5) :
    ∃ (xs : List D) (s : Str), g_u_law_told [.d (.int w), .d (.int n), .d (.int m), .d (.int v), .d (.int l)] = .ok (.f (.lst xs)) [.d (.int w), .d (.int n), .d (.int m), .d (.int v), .d (.int l)] ∧
      g_u_law_due [.d (.int w), .d (.int n), .d (.int m), .d (.int v), .d (.int l)] = .ok (.f (.lst xs)) [.d (.int w), .d (.int n), .d (.int m), .d (.int v), .d (.int l)] ∧ reprD [.lst xs] = some (.d (.str s)) ∧ xs.length < 100000 := by
  by_cases hc : pcV n k ≤ 400
  · obtain ⟨a, b⟩ := ansL_sub (w := w) (n := n) (k := k) (v := v) (l := l)
    have pl := prof_len h0 h1 hk hc
    obtain ⟨s, hs⟩ := repr_tI (ps := ansL w n k v l) (fun p hp => by
      have o := prof_ok h0 (a p hp)
      refine ⟨by rw [o.len]; omega, fun x hx => ?_⟩
      have := o.el x hx
      omega) (by omega)
    exact ⟨_, s, told_ok h0 h1 hk e v0 v1 hc hw, due_ok h0 h1 hk e v0 v1 hc hw, hs, by rw [List.length_map]; omega⟩
  · obtain ⟨s, hs⟩ := repr_NOL
    exact ⟨_, s, told_no h0 h1 hk e (by omega) hw, due_no h0 h1 hk e (by omega), hs, by decide⟩
end K

set_option linter.all false
set_option maxRecDepth 100000
set_option maxHeartbeats 4000000
namespace K
open PySem PySem.Spec PyProof.Rows L2 L3
def bad (f : Str) : List D := [.str "refused", .str f, .str "BadGreat", .bl true]
abbrev BGf (f : Str) : List (Str × D) := putF ["field"] [.str f] [("name", .str "BadGreat")]
/-- the first wrong field -/
def wrong (n a b c d : Int) : Option Str :=
  if n < 2 ∨ 60 < n then some "n" else if a < 0 ∨ n < a + 2 then some "silent" else if b < 0 ∨ n < a + 2 * b + 2 then some "liars" else if c < 0 ∨ a < c then some "easy_silent" else if d < 0 ∨ b < d then some "easy_liars" else none
def lvOf (n a b c d : Int) : Int := (n + (2 * c + a + 2 * b + 2 * d)) / 2 + 1
def levD (n a b c d : Int) : List D := match wrong n a b c d with
  | some f => bad f
  | none => [.str "level", if n < lvOf n a b c d then .non else .int (lvOf n a b c d)]
def sA (n a b c d : Int) : Rho := [.d (.int n), .d (.int 2), .d (.int a), .d (.int b), .d (.int c), .d (.int d), .un, .un]
section
variable {n a b c d : Int}
theorem or_test {f g : Rho → R Bool} {ρ : Rho} {x y : Bool} (h1 : f ρ = .ok x ρ) (h2 : x = false → g ρ = .ok y ρ) : tOr' f g ρ = .ok (x || y) ρ := by
  unfold tOr' bnd
  rw [h1]
  cases x with
  | true => rfl
  | false =>
    dsimp only
    rw [h2 rfl]
    rfl
theorem lt_test {f g : Rho → R Vl} {ρ : Rho} {i j : Int} (h1 : f ρ = .ok (.d (.int i)) ρ) (h2 : g ρ = .ok (.d (.int j)) ρ) : tV (eOp ltD f g) ρ = .ok (decide (i < j)) ρ := by
  unfold tV eOp bnd
  rw [h1]
  dsimp only
  rw [h2]
  rfl
theorem gt_test {f g : Rho → R Vl} {ρ : Rho} {i j : Int} (h1 : f ρ = .ok (.d (.int i)) ρ) (h2 : g ρ = .ok (.d (.int j)) ρ) : tV (eOp gtD f g) ρ = .ok (decide (j < i)) ρ := by
  unfold tV eOp bnd
  rw [h1]
  dsimp only
  rw [h2]
  rfl
theorem add_e {f g : Rho → R Vl} {ρ : Rho} {i j : Int} (h1 : f ρ = .ok (.d (.int i)) ρ) (h2 : g ρ = .ok (.d (.int j)) ρ) : eOp addD f g ρ = .ok (.d (.int (i + j))) ρ := by
  unfold eOp bnd
  rw [h1]
  dsimp only
  rw [h2]
  rfl
theorem mul_e {f g : Rho → R Vl} {ρ : Rho} {i j : Int} (h1 : f ρ = .ok (.d (.int i)) ρ) (h2 : g ρ = .ok (.d (.int j)) ρ) (si : sm i = true) (sj : sm j = true) : eOp mulD f g ρ = .ok (.d (.int (i * j))) ρ := by
  unfold eOp bnd
  rw [h1]
  dsimp only
  rw [h2]
  dsimp only
  show okV (if sm i = true ∧ sm j = true then _ else none) ρ = _
  rw [if_pos ⟨si, sj⟩]
  rfl
theorem or_dec {p q : Prop} [Decidable p] [Decidable q] : (decide p || decide q) = decide (p ∨ q) := by
  by_cases h : p <;> by_cases h' : q <;> simp [h, h']
theorem spans_wrong (hb : sm b = true) {f : Str} (h : wrong n a b c d = some f) : g_spans_of [.d (.int n), .d (.int 2), .d (.int a), .d (.int b), .d (.int c), .d (.int d)] = .ex "BadGreat" (BGf f) [.d (.int n), .d (.int 2), .d (.int a), .d (.int b), .d (.int c), .d (.int d)] := by
  refine body_ex (ρ := sA n a b c d) ?_
  have t1 : tOr' (tV (eOp ltD (eVar 0) (eC (.int 2)))) (tV (eOp gtD (eVar 0) (eC (.int 60)))) (sA n a b c d) = .ok (decide (n < 2) || decide (60 < n)) (sA n a b c d) := or_test (lt_test rfl rfl) fun _ => gt_test rfl rfl
  have t3 : tOr' (tV (eOp ltD (eVar 2) (eC (.int 0)))) (tV (eOp ltD (eVar 0) (eOp addD (eVar 2) (eC (.int 2))))) (sA n a b c d) = .ok (decide (a < 0) || decide (n < a + 2)) (sA n a b c d) := or_test (lt_test rfl rfl) fun _ => lt_test rfl (add_e rfl rfl)
  have t4 : tOr' (tV (eOp ltD (eVar 3) (eC (.int 0)))) (tV (eOp ltD (eVar 0) (eOp addD (eOp addD (eVar 2) (eOp mulD (eC (.int 2)) (eVar 3))) (eC (.int 2))))) (sA n a b c d) = .ok (decide (b < 0) || decide (n < a + 2 * b + 2)) (sA n a b c d) := or_test (lt_test rfl rfl) fun _ => lt_test rfl (add_e (add_e rfl (mul_e rfl rfl (by decide) hb)) rfl)
  have t5 : tOr' (tV (eOp ltD (eVar 4) (eC (.int 0)))) (tV (eOp gtD (eVar 4) (eVar 2))) (sA n a b c d) = .ok (decide (c < 0) || decide (a < c)) (sA n a b c d) := or_test (lt_test rfl rfl) fun _ => gt_test rfl rfl
  have t6 : tOr' (tV (eOp ltD (eVar 5) (eC (.int 0)))) (tV (eOp gtD (eVar 5) (eVar 3))) (sA n a b c d) = .ok (decide (d < 0) || decide (b < d)) (sA n a b c d) := or_test (lt_test rfl rfl) fun _ => gt_test rfl rfl
  rw [or_dec] at t1 t3 t4 t5 t6
  unfold wrong at h
  by_cases c1 : n < 2 ∨ 60 < n
  · rw [if_pos c1] at h
    cases h
    rw [decide_eq_true c1] at t1
    exact seq_ex ((if_tt t1).trans (by rfl))
  rw [if_neg c1] at h
  rw [decide_eq_false c1] at t1
  refine (seq_nx ((if_ff t1).trans (by rfl))).trans ?_
  refine (seq_nx (ρ' := sA n a b c d) (by rfl)).trans ?_
  by_cases c3 : a < 0 ∨ n < a + 2
  · rw [if_pos c3] at h
    cases h
    rw [decide_eq_true c3] at t3
    exact seq_ex ((if_tt t3).trans (by rfl))
  rw [if_neg c3] at h
  rw [decide_eq_false c3] at t3
  refine (seq_nx ((if_ff t3).trans (by rfl))).trans ?_
  by_cases c4 : b < 0 ∨ n < a + 2 * b + 2
  · rw [if_pos c4] at h
    cases h
    rw [decide_eq_true c4] at t4
    exact seq_ex ((if_tt t4).trans (by rfl))
  rw [if_neg c4] at h
  rw [decide_eq_false c4] at t4
  refine (seq_nx ((if_ff t4).trans (by rfl))).trans ?_
  by_cases c5 : c < 0 ∨ a < c
  · rw [if_pos c5] at h
    cases h
    rw [decide_eq_true c5] at t5
    exact seq_ex ((if_tt t5).trans (by rfl))
  rw [if_neg c5] at h
  rw [decide_eq_false c5] at t5
  refine (seq_nx ((if_ff t5).trans (by rfl))).trans ?_
  by_cases c6 : d < 0 ∨ b < d
  · rw [if_pos c6] at h
    cases h
    rw [decide_eq_true c6] at t6
    exact seq_ex ((if_tt t6).trans (by rfl))
  rw [if_neg c6] at h
  cases h
end
end K

set_option linter.all false
set_option maxRecDepth 100000
set_option maxHeartbeats 4000000
set_option exponentiation.threshold 2000
namespace K
open PySem PySem.Spec PyProof.Rows L2 L3
section
variable {n a b c d : Int}
structure Rt (n a b c d : Int) : Prop where
  n0 : 2 ≤ n
  n1 : n ≤ 60
  a0 : 0 ≤ a
  a1 : a + 2 ≤ n
  b0 : 0 ≤ b
  b1 : a + 2 * b + 2 ≤ n
  c0 : 0 ≤ c
  c1 : c ≤ a
  d0 : 0 ≤ d
  d1 : d ≤ b
theorem right (h : wrong n a b c d = none) : Rt n a b c d := by
  unfold wrong at h
  by_cases c1 : n < 2 ∨ 60 < n
  · rw [if_pos c1] at h; cases h
  rw [if_neg c1] at h
  by_cases c3 : a < 0 ∨ n < a + 2
  · rw [if_pos c3] at h; cases h
  rw [if_neg c3] at h
  by_cases c4 : b < 0 ∨ n < a + 2 * b + 2
  · rw [if_pos c4] at h; cases h
  rw [if_neg c4] at h
  by_cases c5 : c < 0 ∨ a < c
  · rw [if_pos c5] at h; cases h
  rw [if_neg c5] at h
  by_cases c6 : d < 0 ∨ b < d
  · rw [if_pos c6] at h; cases h
  constructor <;> omega
theorem spans_right (h : wrong n a b c d = none) : g_spans_of [.d (.int n), .d (.int 2), .d (.int a), .d (.int b), .d (.int c), .d (.int d)] = .ok (.d (.tup [.int (2 * c + a + 2 * b + 2 * d), .int (c + a + 2 * b + d)])) [.d (.int n), .d (.int 2), .d (.int a), .d (.int b), .d (.int c), .d (.int d)] := by
  obtain ⟨n0, n1, a0, a1, b0, b1, c0, c1, d0, d1⟩ := right h
  have hb : sm b = true := sm_of (by omega) (by omega)
  have hc : sm c = true := sm_of (by omega) (by omega)
  have hd : sm d = true := sm_of (by omega) (by omega)
  have : W1 (g_spans_of [.d (.int n), .d (.int 2), .d (.int a), .d (.int b), .d (.int c), .d (.int d)]) (fun v ρ => v = .d (.tup [.int (2 * c + a + 2 * b + 2 * d), .int (c + a + 2 * b + d)]) ∧ ρ = [.d (.int n), .d (.int 2), .d (.int a), .d (.int b), .d (.int c), .d (.int d)]) := by
    refine i_body fun TT t1 t2 t3 => ?_
    unfold s_spans_of argE
    simp only [List.map_cons, List.map_nil, mkPar, List.length_cons, List.length_nil, List.cons_append, List.nil_append]
    refine i_seq fun N1 n1 => ?_
    simp
    refine ⟨by omega, fun _ => ⟨by omega, fun _ => n1 _ ?_⟩⟩
    refine i_seq fun N2 n2 => ?_
    simp
    refine n2 _ ?_
    refine i_seq fun N3 n3 => ?_
    simp
    refine ⟨by omega, fun _ => ⟨by omega, fun _ => n3 _ ?_⟩⟩
    refine i_seq fun N4 n4 => ?_
    simp [hb]
    refine ⟨by omega, fun _ => ⟨by decide, by omega, fun _ => n4 _ ?_⟩⟩
    refine i_seq fun N5 n5 => ?_
    simp
    refine ⟨by omega, fun _ => ⟨by omega, fun _ => n5 _ ?_⟩⟩
    refine i_seq fun N6 n6 => ?_
    simp
    refine ⟨by omega, fun _ => ⟨by omega, fun _ => n6 _ ?_⟩⟩
    refine i_seq fun N7 n7 => ?_
    simp [hb, hc, hd]
    refine ⟨by decide, n7 _ ?_⟩
    refine i_seq fun N8 n8 => ?_
    simp [hb]
    refine ⟨by decide, n8 _ ?_⟩
    simp
    exact t1 _ _ ⟨rfl, rfl⟩
  obtain ⟨v, ρ, e, rfl, rfl⟩ := this.ex
  exact e
end
end K

set_option linter.all false
set_option maxRecDepth 100000
set_option maxHeartbeats 4000000
set_option exponentiation.threshold 2000
namespace K
open PySem PySem.Spec PyProof.Rows L2 L3
section
variable {n a b c d : Int}
def lA (n a b c d : Int) : Rho := [.d (.int n), .d (.int a), .d (.int b), .d (.int c), .d (.int d)]
theorem sset_ex {f : Rho → R Vl} {ρ ρ' : Rho} {i : Nat} {c : Str} {fs : List (Str × D)} (h : f ρ = .ex c fs ρ') : sSet i f ρ = .ex c fs ρ' := by
  unfold sSet sB
  rw [h]
theorem sp_call {r : Rho} : eCall g_spans_of [] (aApp (aCons (eVar 0) (aCons (eC (.int 2)) (aNil))) (aCons (eVar 1) (aCons (eVar 2) (aCons (eVar 3) (aCons (eVar 4) (aNil)))))) (lA n a b c d ++ r) = match g_spans_of [.d (.int n), .d (.int 2), .d (.int a), .d (.int b), .d (.int c), .d (.int d)] with
    | .ok (.d x) _ => .ok (.d x) (lA n a b c d ++ r)
    | .ok (.f m) _ => .ok (.f m) (lA n a b c d ++ r)
    | .ok (.s _) _ => .no
    | .ex cc fs _ => .ex cc fs (lA n a b c d ++ r)
    | .no => .no := by
  have : eCall g_spans_of [] (aApp (aCons (eVar 0) (aCons (eC (.int 2)) (aNil))) (aCons (eVar 1) (aCons (eVar 2) (aCons (eVar 3) (aCons (eVar 4) (aNil)))))) (lA n a b c d ++ r) = callG g_spans_of [] [.d (.int n), .d (.int 2), .d (.int a), .d (.int b), .d (.int c), .d (.int d)] (lA n a b c d ++ r) := rfl
  rw [this]
  unfold callG
  have e1 : argsOf (lA n a b c d ++ r) [.d (.int n), .d (.int 2), .d (.int a), .d (.int b), .d (.int c), .d (.int d)] = some [.d (.int n), .d (.int 2), .d (.int a), .d (.int b), .d (.int c), .d (.int d)] := rfl
  have e2 : ∀ as', putBack (lA n a b c d ++ r) [.d (.int n), .d (.int 2), .d (.int a), .d (.int b), .d (.int c), .d (.int d)] as' = lA n a b c d ++ r := by
    intro as'
    unfold putBack
    rcases as' with _ | ⟨x1, _ | ⟨x2, _ | ⟨x3, _ | ⟨x4, _ | ⟨x5, _ | ⟨x6, as'⟩⟩⟩⟩⟩⟩ <;> rfl
  rw [e1]
  dsimp only
  rw [if_pos (by simp [slotsOf])]
  show (match g_spans_of [.d (.int n), .d (.int 2), .d (.int a), .d (.int b), .d (.int c), .d (.int d)] with | .ok (.d x) as' => _ | .ok (.f m) as' => _ | .ok (.s _) _ => _ | .ex c fs as' => _ | .no => _) = _
  cases g_spans_of [.d (.int n), .d (.int 2), .d (.int a), .d (.int b), .d (.int c), .d (.int d)] with
  | no => rfl
  | ex cc fs ρ => dsimp only; rw [e2]
  | ok v ρ => cases v <;> dsimp only <;> first | rfl | rw [e2]
theorem least_wrong (hb : sm b = true) {f : Str} (h : wrong n a b c d = some f) : g_least_level (lA n a b c d) = .ex "BadGreat" (BGf f) (lA n a b c d) := by
  refine body_ex (ρ := lA n a b c d ++ [.un, .un]) (seq_ex (sset_ex ?_))
  show eCall _ _ _ (lA n a b c d ++ [.un, .un]) = _
  rw [sp_call, spans_wrong hb h]
theorem least_right (h : wrong n a b c d = none) : g_least_level (lA n a b c d) = .ok (.d (if n < lvOf n a b c d then .non else .int (lvOf n a b c d))) (lA n a b c d) := by
  have st : sSet 5 (eCall g_spans_of [] (aApp (aCons (eVar 0) (aCons (eC (.int 2)) (aNil))) (aCons (eVar 1) (aCons (eVar 2) (aCons (eVar 3) (aCons (eVar 4) (aNil))))))) (lA n a b c d ++ [.un, .un]) = .nx (lA n a b c d ++ [.d (.tup [.int (2 * c + a + 2 * b + 2 * d), .int (c + a + 2 * b + d)]), .un]) := sset_ok (by rw [sp_call, spans_right h]) rfl
  have s2 : sSet 6 (eOp addD (eOp fdivD (eOp addD (eVar 0) (eOp ixD (eVar 5) (eC (.int 0)))) (eC (.int 2))) (eC (.int 1))) (lA n a b c d ++ [.d (.tup [.int (2 * c + a + 2 * b + 2 * d), .int (c + a + 2 * b + d)]), .un]) = .nx (lA n a b c d ++ [.d (.tup [.int (2 * c + a + 2 * b + 2 * d), .int (c + a + 2 * b + d)]), .d (.int (lvOf n a b c d))]) := by rfl
  have t : tV (eOp gtD (eVar 6) (eVar 0)) (lA n a b c d ++ [.d (.tup [.int (2 * c + a + 2 * b + 2 * d), .int (c + a + 2 * b + d)]), .d (.int (lvOf n a b c d))]) = .ok (decide (n < lvOf n a b c d)) _ := gt_test rfl rfl
  by_cases hl : n < lvOf n a b c d
  · rw [if_pos hl]
    rw [decide_eq_true hl] at t
    exact body_rt ((seq_nx st).trans ((seq_nx s2).trans (seq_rt ((if_tt t).trans (by rfl)))))
  · rw [if_neg hl]
    rw [decide_eq_false hl] at t
    exact body_rt ((seq_nx st).trans ((seq_nx s2).trans ((seq_nx ((if_ff t).trans (by rfl))).trans (by rfl))))
end
end K

set_option linter.all false
set_option maxRecDepth 100000
set_option maxHeartbeats 4000000
set_option exponentiation.threshold 2000
namespace K
open PySem PySem.Spec PyProof.Rows L2 L3
section
theorem bnd_ok {α β : Type} {f : Rho → R α} {k : α → Rho → R β} {ρ ρ' : Rho} {a : α} (h : f ρ = .ok a ρ') : bnd f k ρ = k a ρ' := by
  unfold bnd
  rw [h]
theorem bnd_ex {α β : Type} {f : Rho → R α} {k : α → Rho → R β} {ρ ρ' : Rho} {c : Str} {fs : List (Str × D)} (h : f ρ = .ex c fs ρ') : bnd f k ρ = .ex c fs ρ' := by
  unfold bnd
  rw [h]
variable {f : Rho → R Vl} {g : Rho → R (List Vl)} {ρ ρ' ρ2 : Rho} {x : Vl} {xs : List Vl} {cc : Str} {fs : List (Str × D)}
theorem ac_ok (h : f ρ = .ok x ρ') (h2 : g ρ' = .ok xs ρ2) : aCons f g ρ = .ok (x :: xs) ρ2 := by
  unfold aCons bnd
  rw [h]
  dsimp only
  rw [h2]
theorem ac_ex (h : f ρ = .ex cc fs ρ') : aCons f g ρ = .ex cc fs ρ' := bnd_ex h
theorem ac_ex2 (h : f ρ = .ok x ρ') (h2 : g ρ' = .ex cc fs ρ2) : aCons f g ρ = .ex cc fs ρ2 := by
  unfold aCons bnd
  rw [h]
  dsimp only
  rw [h2]
theorem el_ex (h : g ρ = .ex cc fs ρ') : eLst g ρ = .ex cc fs ρ' := bnd_ex h
theorem el_ok {ds : List D} (h : g ρ = .ok xs ρ') (h2 : dats xs = some ds) (h3 : ds.length ≤ 1000) : eLst g ρ = .ok (.f (.lst ds)) ρ' := by
  unfold eLst bnd
  rw [h]
  dsimp only
  unfold onD
  rw [h2]
  dsimp only
  rw [if_pos h3]
theorem ef_ex (h : f ρ = .ex cc fs ρ') : eFz f ρ = .ex cc fs ρ' := bnd_ex h
theorem ef_d {y : D} (h : f ρ = .ok (.d y) ρ') : eFz f ρ = .ok (.d y) ρ' := by
  unfold eFz bnd
  rw [h]
  rfl
end
section
variable {n a b c d : Int}
def nums (a b c d : Int) : MO := .lst [.int a, .int b, .int c, .int d]
theorem ll_call {r : Rho} : eCall g_least_level [] (aApp (aCons (eVar 0) (aNil)) (aCons (eOp ixD (eVar 1) (eC (.int 0))) (aCons (eOp ixD (eVar 1) (eC (.int 1))) (aCons (eOp ixD (eVar 1) (eC (.int 2))) (aCons (eOp ixD (eVar 1) (eC (.int 3))) (aNil)))))) (.d (.int n) :: .o true (nums a b c d) :: r) = callG g_least_level [] [.d (.int n), .d (.int a), .d (.int b), .d (.int c), .d (.int d)] (.d (.int n) :: .o true (nums a b c d) :: r) := rfl
theorem cal5 {g : Rho → R Vl} {x1 x2 x3 x4 x5 y : D} {ρ : Rho} (h : g [.d x1, .d x2, .d x3, .d x4, .d x5] = .ok (.d y) [.d x1, .d x2, .d x3, .d x4, .d x5]) : callG g [] [.d x1, .d x2, .d x3, .d x4, .d x5] ρ = .ok (.d y) ρ := by
  simp [callG, argsOf, argOf, slotsOf, h]
  rfl
theorem cax5 {g : Rho → R Vl} {x1 x2 x3 x4 x5 : D} {ρ : Rho} {cc : Str} {fs : List (Str × D)} (h : g [.d x1, .d x2, .d x3, .d x4, .d x5] = .ex cc fs [.d x1, .d x2, .d x3, .d x4, .d x5]) : callG g [] [.d x1, .d x2, .d x3, .d x4, .d x5] ρ = .ex cc fs ρ := by
  simp [callG, argsOf, argOf, slotsOf, h]
  rfl
theorem told_level (hb : sm b = true) : g_u_law_told_level [.d (.int n), .o true (nums a b c d)] = .ok (.f (.lst (levD n a b c d))) [.d (.int n), .o true (nums a b c d)] := by
  unfold levD
  cases h : wrong n a b c d with
  | some f =>
    have e := cax5 (ρ := [.d (.int n), .o true (nums a b c d), .un]) (least_wrong hb h)
    refine body_rf (ρ := [.d (.int n), .o true (nums a b c d), .un]) (try_ex (c := "BadGreat") (fs := BGf f) (ρ' := [.d (.int n), .o true (nums a b c d), .un]) (srt_ex ?_) (by rfl))
    exact el_ex (ac_ex2 (x := .d (.str "level")) (ρ' := [.d (.int n), .o true (nums a b c d), .un]) (by rfl) (ac_ex (ef_ex e)))
  | none =>
    have e := cal5 (ρ := [.d (.int n), .o true (nums a b c d), .un]) (least_right h)
    refine body_rf (ρ := [.d (.int n), .o true (nums a b c d), .un]) (try_rt (rt_ok ?_))
    exact el_ok (ac_ok (x := .d (.str "level")) (ρ' := [.d (.int n), .o true (nums a b c d), .un]) (by rfl) (ac_ok (ef_d e) (by rfl))) (by rfl) (by simp)
end
end K

set_option linter.all false
set_option maxRecDepth 100000
set_option maxHeartbeats 4000000
set_option exponentiation.threshold 2000
namespace K
open PySem PySem.Spec PyProof.Rows L2 L3
theorem first_ge (lv : Nat) : ∀ N : Nat, ((List.range N).filter fun i => decide (lv ≤ i)).head? = if lv < N then some lv else none
  | 0 => by simp
  | N + 1 => by
    rw [List.range_succ, List.filter_append, List.head?_append, first_ge lv N]
    by_cases h : lv < N
    · rw [if_pos h, if_pos (by omega)]
      rfl
    · rw [if_neg h]
      by_cases h2 : lv = N
      · subst h2
        simp
      · rw [if_neg (by omega)]
        have : ¬ lv ≤ N := by omega
        simp [this]
section
variable {n a b c d : Int}
def dL (n a b c d : Int) (r : Rho) : Rho := .d (.int n) :: .o true (nums a b c d) :: .d (.int a) :: .d (.int b) :: .d (.int c) :: .d (.int d) :: r
theorem due_levels {n t : Int} {ρ : Rho} (n0 : 0 ≤ n) (n1 : n ≤ 60) (t0 : 0 ≤ t) (h0 : ρ[0]? = some (.d (.int n))) (h6 : ρ[6]? = some (.d (.int t))) (hi : 8 < ρ.length) :
    eLc (iR1 (eOp addD (eVar 0) (eC (.int 1)))) (gNm 8) (tV (eOp gtD (eOp mulD (eC (.int 2)) (eVar 8)) (eVar 6))) (eFz (eVar 8)) [8] ρ = .ok (.f (.lst (((List.range (n.toNat + 1)).filter fun i => decide ((t / 2 + 1).toNat ≤ i)).map fun (i : Nat) => D.int i))) ρ := by
  have e1 : rngD 0 (n + 1) = (List.range (n.toNat + 1)).map fun (i : Nat) => D.int i := by
    unfold rngD
    have : (n + 1 - 0).toNat = n.toNat + 1 := by omega
    rw [this]
    refine List.map_congr_left fun i _ => ?_
    rw [Int.zero_add]
  have hf : iR1 (eOp addD (eVar 0) (eC (.int 1))) ρ = .ok (rngD 0 (n + 1)) ρ := by
    have : W1 (iR1 (eOp addD (eVar 0) (eC (.int 1))) ρ) fun xs ρ' => xs = rngD 0 (n + 1) ∧ ρ' = ρ := by
      simp [h0]
      omega
    obtain ⟨v, ρ, e, rfl, rfl⟩ := this.ex
    exact e
  rw [eLc_eq (fun x => match x with | .int i => decide (t < 2 * i) | _ => false) (fun x => x) hf hi (by rw [rngD_len]; omega)]
  · rw [List.map_id', e1, List.filter_map]
    have : ((fun x => match x with | D.int i => decide (t < 2 * i) | _ => false) ∘ fun (i : Nat) => D.int (i : Int)) = fun i => decide ((t / 2 + 1).toNat ≤ i) := by
      funext i
      show decide (t < 2 * (i : Int)) = _
      by_cases h : t < 2 * (i : Int)
      · rw [decide_eq_true h, decide_eq_true (by omega)]
      · rw [decide_eq_false h, decide_eq_false (by omega)]
    rw [this]
  · intro x hx
    obtain ⟨j, hj⟩ := List.mem_iff_getElem?.mp hx
    obtain ⟨rfl, hj2⟩ := rngD_at hj
    have g8 : (ρ.set 8 (.d (.int (j : Int))))[8]? = some (.d (.int (j : Int))) := List.getElem?_set_self hi
    have g6 : (ρ.set 8 (.d (.int (j : Int))))[6]? = some (.d (.int t)) := by
      rw [List.getElem?_set_ne (by decide)]
      exact h6
    generalize ρ.set 8 (.d (.int (j : Int))) = ρ2 at g8 g6
    have q8 : eVar 8 ρ2 = .ok (.d (.int (j : Int))) ρ2 := by unfold eVar; rw [g8]
    have q6 : eVar 6 ρ2 = .ok (.d (.int t)) ρ2 := by unfold eVar; rw [g6]
    exact ⟨gt_test (mul_e rfl q8 (by decide) (sm_of (by omega) (by omega))) q6, fun _ => ef_d q8⟩
end
end K

set_option linter.all false
set_option maxRecDepth 100000
set_option maxHeartbeats 4000000
set_option exponentiation.threshold 2000
namespace K
open PySem PySem.Spec PyProof.Rows L2 L3
section
variable {n a b c d : Int}
theorem due_level (hb : sm b = true) : g_u_law_due_level [.d (.int n), .o true (nums a b c d)] = .ok (.f (.lst (levD n a b c d))) [.d (.int n), .o true (nums a b c d)] := by
  have t1 : tOr' (tV (eOp ltD (eVar 0) (eC (.int 2)))) (tV (eOp gtD (eVar 0) (eC (.int 60)))) (dL n a b c d [.un, .un, .un]) = .ok (decide (n < 2) || decide (60 < n)) (dL n a b c d [.un, .un, .un]) := or_test (lt_test rfl rfl) fun _ => gt_test rfl rfl
  have t3 : tOr' (tV (eOp ltD (eVar 2) (eC (.int 0)))) (tV (eOp ltD (eVar 0) (eOp addD (eVar 2) (eC (.int 2))))) (dL n a b c d [.un, .un, .un]) = .ok (decide (a < 0) || decide (n < a + 2)) (dL n a b c d [.un, .un, .un]) := or_test (lt_test rfl rfl) fun _ => lt_test rfl (add_e rfl rfl)
  have t4 : tOr' (tV (eOp ltD (eVar 3) (eC (.int 0)))) (tV (eOp ltD (eVar 0) (eOp addD (eOp addD (eVar 2) (eOp mulD (eC (.int 2)) (eVar 3))) (eC (.int 2))))) (dL n a b c d [.un, .un, .un]) = .ok (decide (b < 0) || decide (n < a + 2 * b + 2)) (dL n a b c d [.un, .un, .un]) := or_test (lt_test rfl rfl) fun _ => lt_test rfl (add_e (add_e rfl (mul_e rfl rfl (by decide) hb)) rfl)
  have t5 : tOr' (tV (eOp ltD (eVar 4) (eC (.int 0)))) (tV (eOp gtD (eVar 4) (eVar 2))) (dL n a b c d [.un, .un, .un]) = .ok (decide (c < 0) || decide (a < c)) (dL n a b c d [.un, .un, .un]) := or_test (lt_test rfl rfl) fun _ => gt_test rfl rfl
  have t6 : tOr' (tV (eOp ltD (eVar 5) (eC (.int 0)))) (tV (eOp gtD (eVar 5) (eVar 3))) (dL n a b c d [.un, .un, .un]) = .ok (decide (d < 0) || decide (b < d)) (dL n a b c d [.un, .un, .un]) := or_test (lt_test rfl rfl) fun _ => gt_test rfl rfl
  rw [or_dec] at t1 t3 t4 t5 t6
  have key : ∃ r, s_u_law_due_level (argE 9 [.d (.int n), .o true (nums a b c d)]) = .rt (.f (.lst (levD n a b c d))) (dL n a b c d r) := by
    have up : sUnp (eVar 1) [gNm 2, gNm 3, gNm 4, gNm 5] (argE 9 [.d (.int n), .o true (nums a b c d)]) = .nx (dL n a b c d [.un, .un, .un]) := by rfl
    unfold levD
    unfold s_u_law_due_level
    rw [seq_nx up]
    unfold wrong
    by_cases c1 : n < 2 ∨ 60 < n
    · rw [if_pos c1]
      rw [decide_eq_true c1] at t1
      exact ⟨_, seq_rt ((if_tt t1).trans (by rfl))⟩
    rw [if_neg c1]
    rw [decide_eq_false c1] at t1
    rw [seq_nx ((if_ff t1).trans (by rfl))]
    by_cases c3 : a < 0 ∨ n < a + 2
    · rw [if_pos c3]
      rw [decide_eq_true c3] at t3
      exact ⟨_, seq_rt ((if_tt t3).trans (by rfl))⟩
    rw [if_neg c3]
    rw [decide_eq_false c3] at t3
    rw [seq_nx ((if_ff t3).trans (by rfl))]
    by_cases c4 : b < 0 ∨ n < a + 2 * b + 2
    · rw [if_pos c4]
      rw [decide_eq_true c4] at t4
      exact ⟨_, seq_rt ((if_tt t4).trans (by rfl))⟩
    rw [if_neg c4]
    rw [decide_eq_false c4] at t4
    rw [seq_nx ((if_ff t4).trans (by rfl))]
    by_cases c5 : c < 0 ∨ a < c
    · rw [if_pos c5]
      rw [decide_eq_true c5] at t5
      exact ⟨_, seq_rt ((if_tt t5).trans (by rfl))⟩
    rw [if_neg c5]
    rw [decide_eq_false c5] at t5
    rw [seq_nx ((if_ff t5).trans (by rfl))]
    by_cases c6 : d < 0 ∨ b < d
    · rw [if_pos c6]
      rw [decide_eq_true c6] at t6
      exact ⟨_, seq_rt ((if_tt t6).trans (by rfl))⟩
    rw [if_neg c6]
    rw [decide_eq_false c6] at t6
    rw [seq_nx ((if_ff t6).trans (by rfl))]
    dsimp only
    have hc : sm c = true := sm_of (by omega) (by omega)
    have hd : sm d = true := sm_of (by omega) (by omega)
    have s6 : sSet 6 (eOp addD (eOp addD (eOp addD (eOp addD (eVar 0) (eOp mulD (eC (.int 2)) (eVar 4))) (eVar 2)) (eOp mulD (eC (.int 2)) (eVar 3))) (eOp mulD (eC (.int 2)) (eVar 5))) (dL n a b c d [.un, .un, .un]) = .nx (dL n a b c d [.d (.int (n + 2 * c + a + 2 * b + 2 * d)), .un, .un]) :=
      sset_ok (add_e (add_e (add_e (add_e rfl (mul_e rfl rfl (by decide) hc)) rfl) (mul_e rfl rfl (by decide) hb)) (mul_e rfl rfl (by decide) hd)) rfl
    rw [seq_nx s6]
    have lv : lvOf n a b c d = (n + 2 * c + a + 2 * b + 2 * d) / 2 + 1 := by
      unfold lvOf
      omega
    rw [lv]
    generalize ht : n + 2 * c + a + 2 * b + 2 * d = t
    have t0 : 0 ≤ t := by omega
    have s7 := sset_ok (i := 7) (due_levels (n := n) (t := t) (ρ := dL n a b c d [.d (.int t), .un, .un]) (by omega) (by omega) t0 rfl rfl (by simp [dL])) rfl
    rw [seq_nx s7]
    have fg := first_ge (t / 2 + 1).toNat (n.toNat + 1)
    cases hl : (List.range (n.toNat + 1)).filter fun i => decide ((t / 2 + 1).toNat ≤ i) with
    | nil =>
      rw [hl] at fg
      have : n < t / 2 + 1 := by
        by_cases z : (t / 2 + 1).toNat < n.toNat + 1
        · rw [if_pos z] at fg
          cases fg
        · omega
      rw [if_pos this]
      exact ⟨_, seq_rt ((if_tt (by rfl)).trans (by rfl))⟩
    | cons i is =>
      rw [hl] at fg
      by_cases z : (t / 2 + 1).toNat < n.toNat + 1
      · rw [if_pos z] at fg
        cases fg
        rw [if_neg (by omega)]
        have ez : (((t / 2 + 1).toNat : Nat) : Int) = t / 2 + 1 := by omega
        rw [← ez]
        generalize (t / 2 + 1).toNat = i
        have tz : tV (eOp eqD (eCB lenD (aCons (eVar 7) (aNil))) (eC (.int 0))) (dL n a b c d [.d (.int t), .o false (.lst (((i :: is).map fun (i : Nat) => D.int i))), .un]) = .ok (decide ((((i :: is).map fun (i : Nat) => D.int i).length : Int) = 0)) (dL n a b c d [.d (.int t), .o false (.lst (((i :: is).map fun (i : Nat) => D.int i))), .un]) := by rfl
        rw [decide_eq_false (by simp; omega)] at tz
        have a0 : L2.atI ((i :: is).map fun (i : Nat) => D.int i) 0 = some (.int i) := by
          obtain ⟨h, e⟩ := atI_in (xs := (i :: is).map fun (i : Nat) => D.int i) (i := 0) (by decide) (by simp)
          rw [e]
          rfl
        have ix : eOp ixD (eVar 7) (eC (.int 0)) (dL n a b c d [.d (.int t), .o false (.lst (((i :: is).map fun (i : Nat) => D.int i))), .un]) = .ok (.d (.int i)) (dL n a b c d [.d (.int t), .o false (.lst (((i :: is).map fun (i : Nat) => D.int i))), .un]) := by
          show okV ((L2.atI ((i :: is).map fun (i : Nat) => D.int i) 0).map Vl.d) _ = _
          rw [a0]
          rfl
        exact ⟨_, (seq_nx ((if_ff tz).trans (by rfl))).trans (rt_ok (el_ok (ac_ok (x := .d (.str "level")) (by rfl) (ac_ok (ef_d ix) (by rfl))) (by rfl) (by simp)))⟩
      · rw [if_neg z] at fg
        cases fg
  obtain ⟨r, e⟩ := key
  exact body_rf e
end
end K

set_option linter.all false
set_option maxRecDepth 100000
set_option maxHeartbeats 4000000
set_option exponentiation.threshold 2000
namespace K
open PySem PySem.Spec PyProof.Rows L2 L3
section
variable {n a b c d : Int}
theorem wrong_five {f : Str} (h : wrong n a b c d = some f) : f = "n" ∨ f = "silent" ∨ f = "liars" ∨ f = "easy_silent" ∨ f = "easy_liars" := by
  unfold wrong at h
  split at h
  · cases h; simp
  split at h
  · cases h; simp
  split at h
  · cases h; simp
  split at h
  · cases h; simp
  split at h
  · cases h; simp
  · cases h
theorem repr_int {x : Int} (h : x.natAbs < 10 ^ 100) : ∃ s, reprD [.lst [.str "level", .int x]] = some (.d (.str s)) := by
  refine ⟨(toP (.lst [.str "level", .int x])).shown, ?_⟩
  have g1 : shD (.lst [.str "level", .int x]) = true := by
    unfold shD shDs shD shDs shD shDs
    rw [decide_eq_true h]
    rfl
  have g2 : (toP (.lst [.str "level", .int x])).bulk ≤ 100000 := by
    have : (toP (.lst [.str "level", .int x])).bulk = (toP (.lst [.str "level", .int 0])).bulk := rfl
    rw [this]
    decide +kernel
  have g3 : (toP (.lst [.str "level", .int x])).depth ≤ 60 := by
    have : (toP (.lst [.str "level", .int x])).depth = (toP (.lst [.str "level", .int 0])).depth := rfl
    rw [this]
    decide +kernel
  show (if _ then _ else none) = _
  rw [if_pos ⟨g1, g2, g3⟩]
theorem repr_lev : ∃ s, reprD [.lst (levD n a b c d)] = some (.d (.str s)) := by
  unfold levD
  cases h : wrong n a b c d with
  | some f =>
    rcases wrong_five h with rfl | rfl | rfl | rfl | rfl <;> exact ⟨_, by rfl⟩
  | none =>
    obtain ⟨n0, n1, a0, a1, b0, b1, c0, c1, d0, d1⟩ := right h
    dsimp only
    by_cases z : n < lvOf n a b c d
    · rw [if_pos z]
      exact ⟨_, by rfl⟩
    · rw [if_neg z]
      refine repr_int (nat_lt ?_ ?_)
      · unfold lvOf
        omega
      · omega
theorem set_same {ρ : Rho} {j : Nat} {s : Sl} (h : ρ[j]? = some s) : ρ.set j s = ρ := by
  obtain ⟨hl, rfl⟩ := List.getElem?_eq_some_iff.mp h
  exact List.set_getElem_self hl
theorem lev_call {g : Rho → R Vl} {ρ : Rho} {j : Nat} {m : MO} {r : List D} (h1 : ρ[1]? = some (.d (.int n))) (hj : ρ[j]? = some (.o false m)) (h : g [.d (.int n), .o true m] = .ok (.f (.lst r)) [.d (.int n), .o true m]) :
    eCall g [] (aCons (eVar 1) (aCons (eVar j) (aNil))) ρ = .ok (.f (.lst r)) ρ := by
  have e : (aCons (eVar 1) (aCons (eVar j) (aNil))) ρ = .ok [.d (.int n), .s j] ρ := by simp [bnd, h1, hj]
  unfold eCall bnd
  rw [e]
  dsimp only
  unfold callG
  have e1 : argsOf ρ [.d (.int n), .s j] = some [.d (.int n), .o true m] := by simp [argsOf, argOf, hj]
  have e2 : slotsOf ρ [.d (.int n), .s j] = [j] := by simp [slotsOf, hj]
  rw [e1, e2]
  dsimp only
  rw [if_pos (by simp), List.map_nil, List.append_nil, h]
  dsimp only
  have e3 : putBack ρ [.d (.int n), .s j] [.d (.int n), .o true m] = ρ := by
    simp [putBack, hj, set_same hj]
  rw [e3]
theorem lev_repr {f : Rho → R Vl} {ρ : Rho} {xs : List D} {s : Str} (h : f ρ = .ok (.f (.lst xs)) ρ) (hs : reprD [.lst xs] = some (.d (.str s))) : eCB reprD (aCons f (aNil)) ρ = .ok (.d (.str s)) ρ := by
  unfold eCB bnd aCons bnd
  rw [h]
  dsimp only [aNil]
  unfold opN
  have : views ρ [.f (.lst xs)] = some [.lst xs] := rfl
  rw [this]
  dsimp only
  rw [hs]
  rfl
theorem lev_ne {ρ : Rho} {j : Nat} (hb : sm b = true) (h1 : ρ[1]? = some (.d (.int n))) (hj : ρ[j]? = some (.o false (nums a b c d))) :
    tV (eOp neD (eCB reprD (aCons (eCall g_u_law_told_level [] (aCons (eVar 1) (aCons (eVar j) (aNil)))) (aNil))) (eCB reprD (aCons (eCall g_u_law_due_level [] (aCons (eVar 1) (aCons (eVar j) (aNil)))) (aNil)))) ρ = .ok false ρ := by
  obtain ⟨s, hs⟩ := repr_lev (n := n) (a := a) (b := b) (c := c) (d := d)
  have e1 := lev_repr (lev_call h1 hj (told_level hb)) hs
  have e2 := lev_repr (lev_call h1 hj (due_level hb)) hs
  unfold tV eOp bnd
  rw [e1]
  dsimp only
  rw [e2]
  show asB (Vl.d (D.bl (!decide (s = s)))) ρ = _
  simp
theorem lev_eq {ρ : Rho} {j : Nat} (hb : sm b = true) (h1 : ρ[1]? = some (.d (.int n))) (hj : ρ[j]? = some (.o false (nums a b c d))) :
    eOp eqD (eCB reprD (aCons (eCall g_u_law_told_level [] (aCons (eVar 1) (aCons (eVar j) (aNil)))) (aNil))) (eCB reprD (aCons (eCall g_u_law_due_level [] (aCons (eVar 1) (aCons (eVar j) (aNil)))) (aNil))) ρ = .ok (.d (.bl true)) ρ := by
  obtain ⟨s, hs⟩ := repr_lev (n := n) (a := a) (b := b) (c := c) (d := d)
  have e1 := lev_repr (lev_call h1 hj (told_level hb)) hs
  have e2 := lev_repr (lev_call h1 hj (due_level hb)) hs
  unfold eOp bnd
  rw [e1]
  dsimp only
  rw [e2]
  show R.ok (Vl.d (D.bl (decide (s = s)))) ρ = _
  simp
end
end K

set_option linter.all false
set_option maxRecDepth 100000
set_option maxHeartbeats 4000000
set_option exponentiation.threshold 2000
namespace K
open PySem PySem.Spec PyProof.Rows L2 L3
variable {n : Nat} {s : St} {P : Vl → Rho → Prop}
theorem pick_w2 (g : Good n s) (hn : n < 100000000) {xs : List D} (h0 : 0 < xs.length) (hm : xs.length < 1000000) (h : ∀ (x : D) (s' : St), Good (n + 1) s' → x ∈ xs → P (.d x) [.o true (.lst s'.D), .o true (.lst xs)]) :
    W1 (g_u_law_pick [.o true (.lst s.D), .o true (.lst xs)]) P := by
  refine i_body fun TT t1 t2 t3 => ?_
  unfold s_u_law_pick argE
  simp [mkPar]
  refine w_call rfl (by simp [slotsOf]) (take_w g hn (by omega) fun r s' g' r0 r1 => ?_)
  simp [putBack]
  obtain ⟨x, hx, e⟩ := atI_mem (xs := xs) r0 (by omega)
  rw [e]
  refine t1 _ _ ?_
  simp [merge]
  exact h _ s' g' hx
def Bg (x : Int) : Prop := -big < x ∧ x < big
theorem Bg.sm {x : Int} (h : Bg x) : sm x = true := by
  unfold Bg at h
  rw [big_eq] at h
  exact sm_big (by rw [bigbig]; omega) (by rw [bigbig]; omega)
theorem Bg.of {x : Int} (h : -1000 < x) (h' : x < 1000) : Bg x := by
  unfold Bg
  rw [big_eq]
  omega
theorem w_ok1 {α : Type} {r : R α} {x : α} {ρ : Rho} {Q : α → Rho → Prop} (e : r = .ok x ρ) (h : Q x ρ) : W1 r Q := by
  rw [e]
  exact h
def Lo (x : Int) : Prop := 0 ≤ x ∧ x ≤ 100
theorem Lo.bg {x : Int} (h : Lo x) : Bg x := .of (by have := h.1; omega) (by have := h.2; omega)
def lvT (j : Nat) : Rho → R Bool := tV (eOp neD (eCB reprD (aCons (eCall g_u_law_told_level [] (aCons (eVar 1) (aCons (eVar j) (aNil)))) (aNil))) (eCB reprD (aCons (eCall g_u_law_due_level [] (aCons (eVar 1) (aCons (eVar j) (aNil)))) (aNil))))
theorem set4 {a b c d x : Int} {j : Nat} (h : j < 4) (ha : Bg a) (hb : Bg b) (hc : Bg c) (hd : Bg d) (hx : Bg x) : ∃ a' b' c' d' : Int, Bg a' ∧ Bg b' ∧ Bg c' ∧ Bg d' ∧ [D.int a, .int b, .int c, .int d].set j (.int x) = [.int a', .int b', .int c', .int d'] := by
  rcases (by omega : j = 0 ∨ j = 1 ∨ j = 2 ∨ j = 3) with rfl | rfl | rfl | rfl
  · exact ⟨x, b, c, d, hx, hb, hc, hd, rfl⟩
  · exact ⟨a, x, c, d, ha, hx, hc, hd, rfl⟩
  · exact ⟨a, b, x, d, ha, hb, hx, hd, rfl⟩
  · exact ⟨a, b, c, x, ha, hb, hc, hx, rfl⟩
theorem level_holds_w (g : Good n s) (hn : n < 8000000) (h : ∀ s' : St, Good (n + 100) s' → P (.d (.bl true)) [.o true (.lst s'.D)]) : W1 (g_u_law_level_holds [.o true (.lst s.D)]) P := by
  refine i_body fun TT t1 t2 t3 => ?_
  unfold s_u_law_level_holds argE
  simp only [List.map_cons, List.map_nil, mkPar, List.length_cons, List.length_nil, List.cons_append, List.nil_append]
  refine i_seq fun N1 n1 => ?_
  simp
  refine w_call rfl (by simp [slotsOf]) (take_w g (by omega) (by omega) fun r s1 g1 r0 r1 => ?_)
  simp [putBack]
  refine w_call rfl (by simp [slotsOf]) (pick_w g1 (by omega) (by simp) (by simp) fun x s2 g2 hx => ?_)
  simp [putBack]
  simp at hx
  obtain ⟨m, rfl, m0, m1⟩ : ∃ m : Int, x = .int m ∧ 2 ≤ m ∧ m ≤ 60 := by
    rcases hx with rfl | rfl | rfl | rfl | rfl | rfl | rfl | rfl <;> exact ⟨_, rfl, by omega, by omega⟩
  refine n1 _ ?_
  refine i_seq fun N2 n2 => ?_
  simp
  refine w_call rfl (by simp [slotsOf]) (numbers_w g2 (by omega) m0 m1 fun a b c d s3 g3 a0 a1 b0 b1 c0 c1 d0 d1 => ?_)
  simp [putBack]
  refine n2 _ ?_
  refine i_seq fun N3 n3 => ?_
  have a3 : ∀ (s4 : St) (a b c d : Int), Good (n + 20) s4 → Lo a → Lo b → Lo c → Lo d → N3 [.o true (.lst s4.D), .d (.int m), .o false (nums a b c d), .un, .un, .un] := by
    intro s4 a b c d g4 la lb lc ld
    have ha := la.bg
    have hb := lb.bg
    have hc := lc.bg
    have hd := ld.bg
    refine n3 _ ?_
    refine i_seq fun N4 n4 => ?_
    rw [w_if]
    refine w_ok1 (lev_ne hb.sm rfl rfl) ⟨fun z => (nomatch z), fun _ => ?_⟩
    refine n4 _ ?_
    refine i_seq fun N5 n5 => ?_
    simp [nums]
    refine n5 _ ?_
    refine i_seq fun N6 n6 => ?_
    simp
    refine w_call rfl (by simp [slotsOf]) (take_w g4 (by omega) (by omega) fun y s5 g5 y0 y1 => ?_)
    simp [putBack]
    refine ⟨by omega, ?_⟩
    refine w_for (fun k ρ => ∃ (s' : St) (a' b' c' d' : Int) (X Y : Sl), k ≤ 2 ∧ (∀ q m, X ≠ .o q m) ∧ (∀ m, Y ≠ .o true m) ∧ Good (n + 21 + 20 * k) s' ∧ Bg a' ∧ Bg b' ∧ Bg c' ∧ Bg d' ∧ ρ = [.o true (.lst s'.D), .d (.int m), .o false (nums a b c d), .o false (nums a' b' c' d'), X, Y]) ⟨s5, a, b, c, d, .un, .un, by omega, fun _ _ z => (nomatch z), fun _ z => (nomatch z), g5, ha, hb, hc, hd, rfl⟩ ?_ ?_
    · rintro k x ρ hk ⟨s', a', b', c', d', X, Y, k2, hX, hY, g', ha', hb', hc', hd', rfl⟩
      obtain ⟨rfl, hk5⟩ := rngD_at hk
      have e1 : gNm 4 (.int k) [.o true (.lst s'.D), .d (.int m), .o false (nums a b c d), .o false (nums a' b' c' d'), X, Y] = some [.o true (.lst s'.D), .d (.int m), .o false (nums a b c d), .o false (nums a' b' c' d'), .d (.int k), Y] := by
        cases X with
        | o q m => exact absurd rfl (hX q m)
        | _ => rfl
      rw [e1]
      refine i_keep fun NN nn => ?_
      refine i_seq fun N7 n7 => ?_
      have e5 : ∀ (s2 : St) (v : List D), setSl 5 (.f (.lst v)) [.o true (.lst s2.D), .d (.int m), .o false (nums a b c d), .o false (nums a' b' c' d'), .d (.int k), Y] = .nx [.o true (.lst s2.D), .d (.int m), .o false (nums a b c d), .o false (nums a' b' c' d'), .d (.int k), .o false (.lst v)] := fun s2 v => by
        cases Y with
        | o q m => cases q with
          | true => exact absurd rfl (hY m)
          | false => rfl
        | _ => rfl
      simp [-q_setSl, nums, L2.atI, L2.ixN]
      refine w_call rfl (by simp [slotsOf]) (any_w g' (by omega) fun r s6 g6 r0 r1 => ?_)
      simp [putBack, -q_setSl]
      have e5' := e5 s6
      unfold nums at e5'
      rw [e5']
      refine n7 _ ?_
      simp
      refine w_call rfl (by simp [slotsOf]) (pick_w2 g6 (by omega) (by simp) (by simp) fun x s7 g7 hx => ?_)
      simp [putBack]
      refine w_call rfl (by simp [slotsOf]) (take_w g7 (by omega) (by omega) fun z s8 g8 z0 z1 => ?_)
      simp [putBack]
      simp at hx
      obtain ⟨v, rfl, hv⟩ : ∃ v : Int, x = .int v ∧ Bg v := by
        rcases hx with rfl | rfl | rfl | rfl | rfl | rfl
        · exact ⟨_, rfl, .of (by omega) (by omega)⟩
        · exact ⟨_, rfl, .of (by omega) (by omega)⟩
        · exact ⟨_, rfl, .of (by omega) (by omega)⟩
        · exact ⟨_, rfl, .of (by have := la.1; omega) (by have := la.2; omega)⟩
        · exact ⟨_, rfl, .of (by have := lb.1; omega) (by have := lb.2; omega)⟩
        · exact ⟨_, rfl, r0, r1⟩
      have ez : L2.ixN 4 z = some z.toNat := ixN_in (m := 4) (by omega) (by omega)
      rw [ez]
      obtain ⟨a2, b2, c2, d2, ha2, hb2, hc2, hd2, e2⟩ := set4 (j := z.toNat) (by omega) ha' hb' hc' hd' hv
      simp
      rw [e2]
      exact nn _ ⟨s8, a2, b2, c2, d2, .d (.int k), .o false (.lst _), by omega, fun _ _ z => (nomatch z), fun _ z => (nomatch z), g8.mono (by omega), ha2, hb2, hc2, hd2, rfl⟩
    · rintro ρ ⟨s', a', b', c', d', X, Y, k2, hX, hY, g', ha', hb', hc', hd', rfl⟩
      refine n6 _ ?_
      refine i_seq fun N8 n8 => ?_
      rw [w_if]
      refine w_ok1 (lev_ne hb'.sm rfl rfl) ⟨fun z => (nomatch z), fun _ => ?_⟩
      refine n8 _ ?_
      refine i_seq fun N9 n9 => ?_
      simp
      refine w_call rfl (by simp [slotsOf]) (any_w g' (by omega) fun r s6 g6 r0 r1 => ?_)
      simp [putBack]
      refine w_call rfl (by simp [slotsOf]) (pick_w g6 (by omega) (by simp) (by simp) fun x s7 g7 hx => ?_)
      simp [putBack]
      simp at hx
      obtain ⟨m', rfl⟩ : ∃ m' : Int, x = .int m' := by
        rcases hx with rfl | rfl | rfl | rfl | rfl | rfl | rfl <;> exact ⟨_, rfl⟩
      refine n9 _ ?_
      rw [w_srt]
      refine w_ok1 (lev_eq hb'.sm rfl rfl) ?_
      refine t1 _ _ ?_
      simp [merge]
      exact h _ (g7.mono (by omega))
  simp
  refine w_call rfl (by simp [slotsOf]) (chance_w g3 (by omega) (by omega) fun bb s4 g4 => ?_)
  simp [putBack]
  refine ⟨fun hb => ?_, fun hb => a3 s4 a b c d (g4.mono (by omega)) ⟨by omega, by omega⟩ ⟨by omega, by omega⟩ ⟨by omega, by omega⟩ ⟨by omega, by omega⟩⟩
  refine w_call rfl (by simp [slotsOf]) (take_w g4 (by omega) (by omega) fun x s5 g5 x0 x1 => ?_)
  simp [putBack]
  refine w_call rfl (by simp [slotsOf]) (take_w g5 (by omega) (by omega) fun y s6 g6 y0 y1 => ?_)
  simp [putBack, L2.atI, L2.ixN]
  refine w_call rfl (by simp [slotsOf]) (take_w g6 (by omega) (by omega) fun u s7 g7 u0 u1 => ?_)
  simp [putBack, L2.ixN]
  exact a3 s7 x y u 0 (g7.mono (by omega)) ⟨by omega, by omega⟩ ⟨by omega, by omega⟩ ⟨by omega, by omega⟩ ⟨by omega, by omega⟩
end K

set_option linter.all false
set_option maxRecDepth 100000
set_option maxHeartbeats 4000000
set_option exponentiation.threshold 2000
namespace K
open PySem PySem.Spec PyProof.Rows L2 L3
section
variable {g : Rho → R Vl} {f1 f2 f3 f4 f5 : Rho → R Vl} {x1 x2 x3 x4 x5 : D} {ρ : Rho} {y : MO}
theorem ec5 (a1 : f1 ρ = .ok (.d x1) ρ) (a2 : f2 ρ = .ok (.d x2) ρ) (a3 : f3 ρ = .ok (.d x3) ρ) (a4 : f4 ρ = .ok (.d x4) ρ) (a5 : f5 ρ = .ok (.d x5) ρ) (h : g [.d x1, .d x2, .d x3, .d x4, .d x5] = .ok (.f y) [.d x1, .d x2, .d x3, .d x4, .d x5]) : eCall g [] (aCons f1 (aCons f2 (aCons f3 (aCons f4 (aCons f5 aNil))))) ρ = .ok (.f y) ρ := by
  simp [bnd, a1, a2, a3, a4, a5, callG, argsOf, argOf, slotsOf, h]
  rfl
end
theorem var_d {ρ : Rho} {i : Nat} {x : D} (h : ρ[i]? = some (.d x)) : eVar i ρ = .ok (.d x) ρ := by
  unfold eVar
  rw [h]
theorem rep_var {ρ : Rho} {i : Nat} {xs : List D} {s : Str} (h : ρ[i]? = some (.o false (.lst xs))) (hs : reprD [.lst xs] = some (.d (.str s))) : eCB reprD (aCons (eVar i) (aNil)) ρ = .ok (.d (.str s)) ρ := by
  unfold eCB bnd aCons bnd eVar
  rw [h]
  dsimp only [aNil]
  unfold opN
  have : views ρ [.s i] = some [.lst xs] := by simp [h]
  rw [this]
  dsimp only
  rw [hs]
  rfl
theorem ne_test {f h : Rho → R Vl} {ρ : Rho} {s : Str} (e1 : f ρ = .ok (.d (.str s)) ρ) (e2 : h ρ = .ok (.d (.str s)) ρ) : tV (eOp neD f h) ρ = .ok false ρ := by
  unfold tV eOp bnd
  rw [e1]
  dsimp only
  rw [e2]
  show asB (Vl.d (D.bl (!decide (s = s)))) ρ = _
  simp
def cT (j : Nat) : Rho → R Vl := eCall g_u_law_told [] (aCons (eVar 7) (aCons (eVar 2) (aCons (eVar 3) (aCons (eVar 4) (aCons (eVar j) (aNil))))))
def cD (j : Nat) : Rho → R Vl := eCall g_u_law_due [] (aCons (eVar 7) (aCons (eVar 2) (aCons (eVar 3) (aCons (eVar 4) (aCons (eVar j) (aNil))))))
theorem ask_c {n m v l : Int} {ρ : Rho} {j : Nat} (h0 : 0 ≤ n) (h1 : n ≤ 60) (m0 : 1 ≤ m) (m1 : m ≤ 4) (v0 : 0 ≤ v) (v1 : v < m) {w : Nat} (hw : w ≤ 5)
    (r7 : ρ[7]? = some (.d (.int w))) (r2 : ρ[2]? = some (.d (.int n))) (r3 : ρ[3]? = some (.d (.int m))) (r4 : ρ[4]? = some (.d (.int v))) (rj : ρ[j]? = some (.d (.int l))) :
    ∃ (xs : List D) (s : Str), cT j ρ = .ok (.f (.lst xs)) ρ ∧ cD j ρ = .ok (.f (.lst xs)) ρ ∧ reprD [.lst xs] = some (.d (.str s)) ∧ xs.length < 100000 := by
  obtain ⟨xs, s, e1, e2, e3, e4⟩ := ask (n := n) (m := m) (v := v) (l := l) (k := (m - 1).toNat) h0 h1 (by omega) (by omega) v0 v1 hw
  exact ⟨xs, s, ec5 (var_d r7) (var_d r2) (var_d r3) (var_d r4) (var_d rj) e1, ec5 (var_d r7) (var_d r2) (var_d r3) (var_d r4) (var_d rj) e2, e3, e4⟩
theorem ask_ne {n m v l : Int} {ρ : Rho} {j : Nat} (h0 : 0 ≤ n) (h1 : n ≤ 60) (m0 : 1 ≤ m) (m1 : m ≤ 4) (v0 : 0 ≤ v) (v1 : v < m) {w : Nat} (hw : w ≤ 5)
    (r7 : ρ[7]? = some (.d (.int w))) (r2 : ρ[2]? = some (.d (.int n))) (r3 : ρ[3]? = some (.d (.int m))) (r4 : ρ[4]? = some (.d (.int v))) (rj : ρ[j]? = some (.d (.int l))) :
    tV (eOp neD (eCB reprD (aCons (cT j) (aNil))) (eCB reprD (aCons (cD j) (aNil)))) ρ = .ok false ρ := by
  obtain ⟨xs, s, e1, e2, e3, e4⟩ := ask_c h0 h1 m0 m1 v0 v1 hw r7 r2 r3 r4 rj
  exact ne_test (lev_repr e1 e3) (lev_repr e2 e3)
theorem law_body {n m v l o : Int} {S : MO} {w : Nat} {Y : Sl} {x0 : D} {NN : Rho → Prop} {TT : Vl → Rho → Prop} (h0 : 0 ≤ n) (h1 : n ≤ 60) (m0 : 1 ≤ m) (m1 : m ≤ 4) (v0 : 0 ≤ v) (v1 : v < m) (hw : w ≤ 5) (hY : ∀ m, Y ≠ .o true m)
    (hN : ∀ xs, NN [.d x0, .o false S, .d (.int n), .d (.int m), .d (.int v), .d (.int l), .d (.int o), .d (.int w), .o false (.lst xs)]) :
    WS ((sSeq (sSet 8 (cT 5)) (sSeq (sIf (tV (eOp neD (eCB reprD (aCons (eVar 8) (aNil))) (eCB reprD (aCons (cD 5) (aNil))))) (sRt (eC (.bl false))) (sNx)) (sSeq (sEx (eApp 8 (eTup (aCons (eFz (eVar 2)) (aNil))))) (sSeq (sIf (tV (eOp neD (eCB reprD (aCons (cT 6) (aNil))) (eCB reprD (aCons (cD 6) (aNil))))) (sRt (eC (.bl false))) (sNx)) (sIf (tV (eOp neD (eCB reprD (aCons (cT 5) (aNil))) (eCB reprD (aCons (cD 5) (aNil))))) (sRt (eC (.bl false))) (sNx))))))
      [.d x0, .o false S, .d (.int n), .d (.int m), .d (.int v), .d (.int l), .d (.int o), .d (.int w), Y]) NN TT := by
  obtain ⟨xs, s, e1, e2, e3, e4⟩ := ask_c (ρ := [.d x0, .o false S, .d (.int n), .d (.int m), .d (.int v), .d (.int l), .d (.int o), .d (.int w), Y]) (j := 5) (l := l) h0 h1 m0 m1 v0 v1 hw rfl rfl rfl rfl rfl
  have e8 : setSl 8 (.f (.lst xs)) [.d x0, .o false S, .d (.int n), .d (.int m), .d (.int v), .d (.int l), .d (.int o), .d (.int w), Y] = .nx [.d x0, .o false S, .d (.int n), .d (.int m), .d (.int v), .d (.int l), .d (.int o), .d (.int w), .o false (.lst xs)] := by
    cases Y with
    | o q m => cases q with
      | true => exact absurd rfl (hY m)
      | false => rfl
    | _ => rfl
  refine i_seq fun N1 n1 => ?_
  rw [w_sset]
  refine w_ok1 e1 ?_
  rw [e8]
  refine n1 _ ?_
  refine i_seq fun N2 n2 => ?_
  obtain ⟨xs', s', f1, f2, f3, f4⟩ := ask_c (ρ := [.d x0, .o false S, .d (.int n), .d (.int m), .d (.int v), .d (.int l), .d (.int o), .d (.int w), .o false (.lst xs)]) (j := 5) (l := l) h0 h1 m0 m1 v0 v1 hw rfl rfl rfl rfl rfl
  have ex : xs' = xs := by
    obtain ⟨ys, z, q1, q2, q3, q4⟩ := ask (n := n) (m := m) (v := v) (l := l) (k := (m - 1).toNat) h0 h1 (by omega) (by omega) v0 v1 hw
    have a1 : cT 5 [.d x0, .o false S, .d (.int n), .d (.int m), .d (.int v), .d (.int l), .d (.int o), .d (.int w), .o false (.lst xs)] = .ok (.f (.lst ys)) [.d x0, .o false S, .d (.int n), .d (.int m), .d (.int v), .d (.int l), .d (.int o), .d (.int w), .o false (.lst xs)] := ec5 rfl rfl rfl rfl rfl q1
    have a2 : cT 5 [.d x0, .o false S, .d (.int n), .d (.int m), .d (.int v), .d (.int l), .d (.int o), .d (.int w), Y] = .ok (.f (.lst ys)) [.d x0, .o false S, .d (.int n), .d (.int m), .d (.int v), .d (.int l), .d (.int o), .d (.int w), Y] := ec5 rfl rfl rfl rfl rfl q1
    rw [e1] at a2
    rw [f1] at a1
    injection a1 with a1
    injection a2 with a2
    injection a1 with a1
    injection a2 with a2
    injection a1 with a1
    injection a2 with a2
    rw [a1, a2]
  subst ex
  rw [w_if]
  refine w_ok1 (ne_test (rep_var rfl f3) (lev_repr f2 f3)) ⟨fun z => (nomatch z), fun _ => n2 _ ?_⟩
  refine i_seq fun N3 n3 => ?_
  simp
  refine ⟨f4, n3 _ ?_⟩
  refine i_seq fun N4 n4 => ?_
  rw [w_if]
  refine w_ok1 (ask_ne (l := o) h0 h1 m0 m1 v0 v1 hw rfl rfl rfl rfl rfl) ⟨fun z => (nomatch z), fun _ => n4 _ ?_⟩
  rw [w_if]
  refine w_ok1 (ask_ne (l := l) h0 h1 m0 m1 v0 v1 hw rfl rfl rfl rfl rfl) ⟨fun z => (nomatch z), fun _ => ?_⟩
  exact hN _
theorem law_w {ns : List Int} (hl : ns.length ≤ 63) : W1 (g_law [.d (.ro (ns.map D.int))]) fun v _ => v = .d (.bl true) := by
  refine i_body fun TT t1 t2 t3 => ?_
  unfold s_law argE
  simp only [List.map_cons, List.map_nil, mkPar, List.length_cons, List.length_nil, List.cons_append, List.nil_append]
  refine i_seq fun N1 n1 => ?_
  simp
  refine w_call rfl (by simp [slotsOf]) (store_w hl fun s1 g1 => ?_)
  simp [putBack]
  refine n1 _ ?_
  refine i_seq fun N2 n2 => ?_
  simp
  refine w_call rfl (by simp [slotsOf]) (size_w g1 (by omega) fun n m s2 g2 n0 n1' m0 m1 => ?_)
  simp [putBack]
  refine n2 _ ?_
  refine i_seq fun N3 n3 => ?_
  simp
  refine w_call rfl (by simp [slotsOf]) (take_w g2 (by omega) (by omega) fun v s3 g3 v0 v1 => ?_)
  simp [putBack]
  refine n3 _ ?_
  refine i_seq fun N4 n4 => ?_
  simp
  refine w_call rfl (by simp [slotsOf]) (level_w g3 (by omega) (by omega) n1' fun l s4 g4 l0 l1 => ?_)
  simp [putBack]
  refine n4 _ ?_
  refine i_seq fun N5 n5 => ?_
  simp
  refine w_call rfl (by simp [slotsOf]) (level_w g4 (by omega) (by omega) n1' fun o s5 g5 o0 o1 => ?_)
  simp [putBack]
  refine n5 _ ?_
  refine i_seq fun N6 n6 => ?_
  rw [w_sfor, w_iSq]
  simp [eSl, sNo, sSo]
  refine w_call rfl (by simp [slotsOf]) (order_w g5 (by omega) fun xs s6 g6 h6 => ?_)
  simp [putBack, slD, okV]
  refine w_for (fun k ρ => ∃ (Y Z : Sl), (∀ q m, Z ≠ .o q m) ∧ (∀ m, Y ≠ .o true m) ∧ ρ = [.d (.ro (ns.map D.int)), .o false (.lst s6.D), .d (.int n), .d (.int m), .d (.int v), .d (.int l), .d (.int o), Z, Y]) ⟨.un, .un, fun _ _ z => (nomatch z), fun _ z => (nomatch z), rfl⟩ ?_ ?_
  · rintro k x ρ hk ⟨Y, Z, hZ, hY, rfl⟩
    have mx : x ∈ xs := by
      have q := List.mem_of_getElem? hk
      unfold L3.cutD at q
      exact List.mem_of_mem_drop (List.mem_of_mem_take q)
    obtain ⟨i, rfl, i0, i1⟩ := h6.2 x mx
    have e1 : gNm 7 (.int i) [.d (.ro (ns.map D.int)), .o false (.lst s6.D), .d (.int n), .d (.int m), .d (.int v), .d (.int l), .d (.int o), Z, Y] = some [.d (.ro (ns.map D.int)), .o false (.lst s6.D), .d (.int n), .d (.int m), .d (.int v), .d (.int l), .d (.int o), .d (.int i), Y] := by
      cases Z with
      | o q m => exact absurd rfl (hZ q m)
      | _ => rfl
    rw [e1]
    obtain ⟨w, rfl⟩ : ∃ w : Nat, i = w := ⟨i.toNat, by omega⟩
    refine law_body (by omega) n1' m0 m1 v0 (by omega) (by omega) hY fun xs => ⟨_, _, ?_, ?_, rfl⟩
    · exact fun _ _ z => (nomatch z)
    · exact fun _ z => (nomatch z)
  · rintro ρ ⟨Y, Z, hZ, hY, rfl⟩
    refine n6 _ ?_
    simp [eAn]
    refine w_call rfl (by simp [slotsOf]) (level_holds_w g6 (by omega) fun s7 g7 => ?_)
    simp [putBack]
    refine w_call rfl (by simp [slotsOf]) (level_holds_w g7 (by omega) fun s8 g8 => ?_)
    simp [putBack]
    exact t1 _ _ rfl
theorem law_pure (ns : List Int) (hl : ns.length ≤ 63) : ∃ ρ', g_law [.d (.ro (ns.map D.int))] = .ok (.d (.bl true)) ρ' := by
  obtain ⟨v, ρ, e, rfl⟩ := (law_w hl).ex
  exact ⟨ρ, e⟩
end K

set_option Elab.async false
set_option linter.all false
set_option maxRecDepth 100000
set_option maxHeartbeats 4000000
namespace KE
open PySem PySem.Spec PyProof.Rows L2 L3 K
open KH (clsIni fa fn sp chk file)

section
variable {P : Program} {w : World} {K : PySem.W.Frag} {mg : Str → Option Value} {base : Heap}
theorem ss_HearingError : SupScope ["self", "name", "message"] ["self", "name", "message"] (defScope (clsIni (KH.top 1))) := ⟨rfl, rfl, rfl, by decide +kernel, rfl, by decide +kernel, by decide +kernel, by decide +kernel, rfl, rfl⟩
theorem base_fn {fd : FuncData} {cda cc : Addr} (G : SupD P K (He.ga K "HearingError") KH.p_HearingError.qual KH.p_HearingError.params KH.p_HearingError.body KH.p_HearingError.scope (He.ma K (He.ga K "HearingError") "__init__") fd cda cc)
    (e : ∃ (name : Str) (kV doc pm ct : Value) (an : Option Addr), fd = PySem.W.ksFn name KH.p_HearingError.qual KH.p_HearingError.params KH.p_HearingError.body KH.p_HearingError.scope .none kV doc pm an (.ref cda) ct cc) (hs : mg "super" = none) :
    FnR P w K mg base (L2.CX P w) 1 (He.ma K (He.ga K "HearingError") "__init__") (spB K (He.ga K "HearingError")) := by
  obtain ⟨name, kV, doc, pm, ct, an, e⟩ := e
  have bd : Binds K fd ["self", "name", "message"] [] := by
    subst e
    exact Binds.all fun us hl => match us, hl with | [_, _, _], _ => rfl
  have F := base_ok (w := w) (mg := mg) (base := base) (k := 0) G ss_HearingError rfl rfl hs ⟨⟨_, fun L f cd cc => rfl⟩, fun L f cd cc => rfl, fun L f cd cc r hr => by
    rcases List.mem_singleton.mp hr with rfl
    rfl⟩
  exact (F.raw bd .nil).imp fun vs H Q E h => by rw [List.append_nil]; exact h
theorem ss_BadFormula : SupScope ["self", "at"] ["self", "at"] (defScope (clsIni (KH.top 7))) := ⟨rfl, rfl, rfl, by decide +kernel, rfl, by decide +kernel, by decide +kernel, by decide +kernel, rfl, rfl⟩
theorem rai_BadFormula {fd : FuncData} {cda cc : Addr} (m : mg "BadFormula" = some (.ref (He.ga K "BadFormula"))) (x : ExK K "BadFormula" "HearingError" ["at"]) (FB : FnR P w K mg base (L2.CX P w) 1 (He.ma K (He.ga K "HearingError") "__init__") (spB K (He.ga K "HearingError")))
    (G : SupD P K (He.ga K "BadFormula") KH.p_BadFormula.qual KH.p_BadFormula.params KH.p_BadFormula.body KH.p_BadFormula.scope (He.ma K (He.ga K "BadFormula") "__init__") fd cda cc)
    (e : ∃ (name : Str) (kV doc pm ct : Value) (an : Option Addr), fd = PySem.W.ksFn name KH.p_BadFormula.qual KH.p_BadFormula.params KH.p_BadFormula.body KH.p_BadFormula.scope .none kV doc pm an (.ref cda) ct cc) (hs : mg "super" = none) : Rai P w K mg base "BadFormula" 2 ["at"] := by
  obtain ⟨name, kV, doc, pm, ct, an, e⟩ := e
  have bd : Binds K fd ["self", "at"] [] := by
    subst e
    exact Binds.all fun us hl => match us, hl with | [_, _], _ => rfl
  refine ⟨m, ⟨_, x⟩, fd, ["self", "at"], bd, ?_⟩
  exact sub1_ok (w := w) (mg := mg) (base := base) (k := 1) (kI := 0) (fdI := fd) G ss_BadFormula rfl rfl hs (by decide) (by decide) ⟨⟨_, fun L f cd cc => rfl⟩, fun L f cd cc => rfl, fun L f cd cc r hr => by
    rcases List.mem_singleton.mp hr with rfl
    rfl⟩ x.U x.UB x.nn (x.nf _ (by simp)) x.fnB x.tyB FB
theorem ss_BadGreat : SupScope ["self", "field"] ["self", "field"] (defScope (clsIni (KH.top 17))) := ⟨rfl, rfl, rfl, by decide +kernel, rfl, by decide +kernel, by decide +kernel, by decide +kernel, rfl, rfl⟩
theorem rai_BadGreat {fd : FuncData} {cda cc : Addr} (m : mg "BadGreat" = some (.ref (He.ga K "BadGreat"))) (x : ExK K "BadGreat" "HearingError" ["field"]) (FB : FnR P w K mg base (L2.CX P w) 1 (He.ma K (He.ga K "HearingError") "__init__") (spB K (He.ga K "HearingError")))
    (G : SupD P K (He.ga K "BadGreat") KH.p_BadGreat.qual KH.p_BadGreat.params KH.p_BadGreat.body KH.p_BadGreat.scope (He.ma K (He.ga K "BadGreat") "__init__") fd cda cc)
    (e : ∃ (name : Str) (kV doc pm ct : Value) (an : Option Addr), fd = PySem.W.ksFn name KH.p_BadGreat.qual KH.p_BadGreat.params KH.p_BadGreat.body KH.p_BadGreat.scope .none kV doc pm an (.ref cda) ct cc) (hs : mg "super" = none) : Rai P w K mg base "BadGreat" 2 ["field"] := by
  obtain ⟨name, kV, doc, pm, ct, an, e⟩ := e
  have bd : Binds K fd ["self", "field"] [] := by
    subst e
    exact Binds.all fun us hl => match us, hl with | [_, _], _ => rfl
  refine ⟨m, ⟨_, x⟩, fd, ["self", "field"], bd, ?_⟩
  exact sub1_ok (w := w) (mg := mg) (base := base) (k := 1) (kI := 0) (fdI := fd) G ss_BadGreat rfl rfl hs (by decide) (by decide) ⟨⟨_, fun L f cd cc => rfl⟩, fun L f cd cc => rfl, fun L f cd cc r hr => by
    rcases List.mem_singleton.mp hr with rfl
    rfl⟩ x.U x.UB x.nn (x.nf _ (by simp)) x.fnB x.tyB FB
theorem ss_TooMany : SupScope ["self", "what", "limit"] ["self", "what", "limit"] (defScope (clsIni (KH.top 20))) := ⟨rfl, rfl, rfl, by decide +kernel, rfl, by decide +kernel, by decide +kernel, by decide +kernel, rfl, rfl⟩
theorem rai_TooMany {fd : FuncData} {cda cc : Addr} (m : mg "TooMany" = some (.ref (He.ga K "TooMany"))) (x : ExK K "TooMany" "HearingError" ["what", "limit"]) (FB : FnR P w K mg base (L2.CX P w) 1 (He.ma K (He.ga K "HearingError") "__init__") (spB K (He.ga K "HearingError")))
    (G : SupD P K (He.ga K "TooMany") KH.p_TooMany.qual KH.p_TooMany.params KH.p_TooMany.body KH.p_TooMany.scope (He.ma K (He.ga K "TooMany") "__init__") fd cda cc)
    (e : ∃ (name : Str) (kV doc pm ct : Value) (an : Option Addr), fd = PySem.W.ksFn name KH.p_TooMany.qual KH.p_TooMany.params KH.p_TooMany.body KH.p_TooMany.scope .none kV doc pm an (.ref cda) ct cc) (hs : mg "super" = none) : Rai P w K mg base "TooMany" 2 ["what", "limit"] := by
  obtain ⟨name, kV, doc, pm, ct, an, e⟩ := e
  have bd : Binds K fd ["self", "what", "limit"] [] := by
    subst e
    exact Binds.all fun us hl => match us, hl with | [_, _, _], _ => rfl
  refine ⟨m, ⟨_, x⟩, fd, ["self", "what", "limit"], bd, ?_⟩
  exact sub2_ok (w := w) (mg := mg) (base := base) (k := 1) (kI := 0) (fdI := fd) G ss_TooMany rfl rfl hs (by decide) (by decide) (by decide) (by decide) ⟨⟨_, fun L f cd cc => rfl⟩, fun L f cd cc => rfl, fun L f cd cc r hr => by
    rcases List.mem_cons.mp hr with rfl | hr
    · rfl
    · rcases List.mem_singleton.mp hr with rfl
      rfl⟩ x.U x.UB x.nn (x.nf _ (by simp)) (x.nf _ (by simp)) x.fnB x.tyB FB
end
theorem facts {P : Program} {w : World} {K : PySem.W.Frag} {mg : Str → Option Value} {base : Heap} {h : Heap} (top : (P.main.scope.names.lookup ("super" : Str)).isSome = false) (ef : file = P.main.file) (X : K.In h) (G : h.Ns mainGlobals mg) (c : SaysX file fa fn sp chk K) :
    ∃ fd : FuncData, (∀ (s : Shared) (u : Value), BindsTo s fd ⟨[u], []⟩ [("script", u)]) ∧ ∀ base : Heap, Cal P w K mg base "law" 11 (He.ga K "law") fd ["script"] [] g_law := by
  have h_ValueError : mg "ValueError" = none := He.free_ok X G (c.d.fact 52 (f := .free "ValueError") rfl)
  have h_abs : mg "abs" = none := He.free_ok X G (c.d.fact 53 (f := .free "abs") rfl)
  have h_int : mg "int" = none := He.free_ok X G (c.d.fact 54 (f := .free "int") rfl)
  have h_isinstance : mg "isinstance" = none := He.free_ok X G (c.d.fact 55 (f := .free "isinstance") rfl)
  have h_len : mg "len" = none := He.free_ok X G (c.d.fact 56 (f := .free "len") rfl)
  have h_list : mg "list" = none := He.free_ok X G (c.d.fact 57 (f := .free "list") rfl)
  have h_max : mg "max" = none := He.free_ok X G (c.d.fact 58 (f := .free "max") rfl)
  have h_min : mg "min" = none := He.free_ok X G (c.d.fact 59 (f := .free "min") rfl)
  have h_range : mg "range" = none := He.free_ok X G (c.d.fact 60 (f := .free "range") rfl)
  have h_repr : mg "repr" = none := He.free_ok X G (c.d.fact 61 (f := .free "repr") rfl)
  have h_sum : mg "sum" = none := He.free_ok X G (c.d.fact 62 (f := .free "sum") rfl)
  have h_super : mg "super" = none := He.free_ok X G (c.d.fact 63 (f := .free "super") rfl)
  obtain ⟨t_MOST_PROFILES, h_MOST_PROFILES⟩ := He.int_ok X G (c.d.fact 64 (f := .int "MOST_PROFILES" 400) rfl)
  have m_BadRow : mg "BadRow" = some (.ref (He.ga K "BadRow")) := He.glo_ok X G (c.d.fact 32 (f := .glo "BadRow") rfl)
  have m_BadLot : mg "BadLot" = some (.ref (He.ga K "BadLot")) := He.glo_ok X G (c.d.fact 33 (f := .glo "BadLot") rfl)
  have m_BadFamily : mg "BadFamily" = some (.ref (He.ga K "BadFamily")) := He.glo_ok X G (c.d.fact 34 (f := .glo "BadFamily") rfl)
  have m_BadValue : mg "BadValue" = some (.ref (He.ga K "BadValue")) := He.glo_ok X G (c.d.fact 35 (f := .glo "BadValue") rfl)
  have m_BadHand : mg "BadHand" = some (.ref (He.ga K "BadHand")) := He.glo_ok X G (c.d.fact 36 (f := .glo "BadHand") rfl)
  have m_BadFormula : mg "BadFormula" = some (.ref (He.ga K "BadFormula")) := He.glo_ok X G (c.d.fact 37 (f := .glo "BadFormula") rfl)
  have m_BadHouse : mg "BadHouse" = some (.ref (He.ga K "BadHouse")) := He.glo_ok X G (c.d.fact 38 (f := .glo "BadHouse") rfl)
  have m_BadText : mg "BadText" = some (.ref (He.ga K "BadText")) := He.glo_ok X G (c.d.fact 39 (f := .glo "BadText") rfl)
  have m_BadView : mg "BadView" = some (.ref (He.ga K "BadView")) := He.glo_ok X G (c.d.fact 40 (f := .glo "BadView") rfl)
  have m_BadWorld : mg "BadWorld" = some (.ref (He.ga K "BadWorld")) := He.glo_ok X G (c.d.fact 41 (f := .glo "BadWorld") rfl)
  have m_BadGroup : mg "BadGroup" = some (.ref (He.ga K "BadGroup")) := He.glo_ok X G (c.d.fact 42 (f := .glo "BadGroup") rfl)
  have m_BadTables : mg "BadTables" = some (.ref (He.ga K "BadTables")) := He.glo_ok X G (c.d.fact 43 (f := .glo "BadTables") rfl)
  have m_BadPaper : mg "BadPaper" = some (.ref (He.ga K "BadPaper")) := He.glo_ok X G (c.d.fact 44 (f := .glo "BadPaper") rfl)
  have m_BadEars : mg "BadEars" = some (.ref (He.ga K "BadEars")) := He.glo_ok X G (c.d.fact 45 (f := .glo "BadEars") rfl)
  have m_BadRenaming : mg "BadRenaming" = some (.ref (He.ga K "BadRenaming")) := He.glo_ok X G (c.d.fact 46 (f := .glo "BadRenaming") rfl)
  have m_BadGreat : mg "BadGreat" = some (.ref (He.ga K "BadGreat")) := He.glo_ok X G (c.d.fact 47 (f := .glo "BadGreat") rfl)
  have m_BadNight : mg "BadNight" = some (.ref (He.ga K "BadNight")) := He.glo_ok X G (c.d.fact 48 (f := .glo "BadNight") rfl)
  have m_NotFit : mg "NotFit" = some (.ref (He.ga K "NotFit")) := He.glo_ok X G (c.d.fact 49 (f := .glo "NotFit") rfl)
  have m_TooMany : mg "TooMany" = some (.ref (He.ga K "TooMany")) := He.glo_ok X G (c.d.fact 50 (f := .glo "TooMany") rfl)
  have m_Unborne : mg "Unborne" = some (.ref (He.ga K "Unborne")) := He.glo_ok X G (c.d.fact 51 (f := .glo "Unborne") rfl)
  have ck := c.more
  have ck : (catB K KH.CL && exB K "BadFormula" "HearingError" ["at"] && exB K "BadGreat" "HearingError" ["field"] && exB K "TooMany" "HearingError" ["what", "limit"]) = true := ck
  obtain ⟨ck, e_TooMany⟩ := He.ba ck
  obtain ⟨ck, e_BadGreat⟩ := He.ba ck
  obtain ⟨ck, e_BadFormula⟩ := He.ba ck
  have hck : catB K CL = true := ck
  have hcm : ∀ c ∈ CL, mg c = some (.ref (He.ga K c)) := by
    intro c hc
    simp only [CL, List.mem_cons, List.not_mem_nil, or_false] at hc
    rcases hc with rfl | rfl | rfl | rfl | rfl | rfl | rfl | rfl | rfl | rfl | rfl | rfl | rfl | rfl | rfl | rfl | rfl | rfl | rfl | rfl <;> assumption
  obtain ⟨fd_HearingError, cda_HearingError, cc_HearingError, G_HearingError, v_HearingError⟩ := c.sup top ef 0 (d := KH.p_HearingError) rfl
  obtain ⟨fd_BadFormula, cda_BadFormula, cc_BadFormula, G_BadFormula, v_BadFormula⟩ := c.sup top ef 1 (d := KH.p_BadFormula) rfl
  obtain ⟨fd_BadGreat, cda_BadGreat, cc_BadGreat, G_BadGreat, v_BadGreat⟩ := c.sup top ef 2 (d := KH.p_BadGreat) rfl
  obtain ⟨fd_TooMany, cda_TooMany, cc_TooMany, G_TooMany, v_TooMany⟩ := c.sup top ef 3 (d := KH.p_TooMany) rfl
  obtain ⟨fd_compares, F_compares⟩ := c.d.def_ 0 (d := KH.d_compares) rfl
  have n_compares : mg "compares" = some (.ref (He.ga K "compares")) := He.glo_ok X G (c.d.fact 0 (f := .glo "compares") rfl)
  obtain ⟨fd_measure, F_measure⟩ := c.d.def_ 1 (d := KH.d_measure) rfl
  have n_measure : mg "measure" = some (.ref (He.ga K "measure")) := He.glo_ok X G (c.d.fact 1 (f := .glo "measure") rfl)
  obtain ⟨fd_is_true, F_is_true⟩ := c.d.def_ 2 (d := KH.d_is_true) rfl
  have n_is_true : mg "is_true" = some (.ref (He.ga K "is_true")) := He.glo_ok X G (c.d.fact 2 (f := .glo "is_true") rfl)
  obtain ⟨fd_is_counted, F_is_counted⟩ := c.d.def_ 3 (d := KH.d_is_counted) rfl
  have n_is_counted : mg "is_counted" = some (.ref (He.ga K "is_counted")) := He.glo_ok X G (c.d.fact 3 (f := .glo "is_counted") rfl)
  obtain ⟨fd_check_counted, F_check_counted⟩ := c.d.def_ 4 (d := KH.d_check_counted) rfl
  have n_check_counted : mg "check_counted" = some (.ref (He.ga K "check_counted")) := He.glo_ok X G (c.d.fact 4 (f := .glo "check_counted") rfl)
  obtain ⟨fd_choices, F_choices⟩ := c.d.def_ 5 (d := KH.d_choices) rfl
  have n_choices : mg "choices" = some (.ref (He.ga K "choices")) := He.glo_ok X G (c.d.fact 5 (f := .glo "choices") rfl)
  obtain ⟨fd_all_profiles, F_all_profiles⟩ := c.d.def_ 6 (d := KH.d_all_profiles) rfl
  have n_all_profiles : mg "all_profiles" = some (.ref (He.ga K "all_profiles")) := He.glo_ok X G (c.d.fact 6 (f := .glo "all_profiles") rfl)
  obtain ⟨fd_profiles_where, F_profiles_where⟩ := c.d.def_ 7 (d := KH.d_profiles_where) rfl
  have n_profiles_where : mg "profiles_where" = some (.ref (He.ga K "profiles_where")) := He.glo_ok X G (c.d.fact 7 (f := .glo "profiles_where") rfl)
  obtain ⟨fd_spans_of, F_spans_of⟩ := c.d.def_ 8 (d := KH.d_spans_of) rfl
  have n_spans_of : mg "spans_of" = some (.ref (He.ga K "spans_of")) := He.glo_ok X G (c.d.fact 8 (f := .glo "spans_of") rfl)
  obtain ⟨fd_at_least, F_at_least⟩ := c.d.def_ 9 (d := KH.d_at_least) rfl
  have n_at_least : mg "at_least" = some (.ref (He.ga K "at_least")) := He.glo_ok X G (c.d.fact 9 (f := .glo "at_least") rfl)
  obtain ⟨fd_preferred, F_preferred⟩ := c.d.def_ 10 (d := KH.d_preferred) rfl
  have n_preferred : mg "preferred" = some (.ref (He.ga K "preferred")) := He.glo_ok X G (c.d.fact 10 (f := .glo "preferred") rfl)
  obtain ⟨fd_least_level, F_least_level⟩ := c.d.def_ 11 (d := KH.d_least_level) rfl
  have n_least_level : mg "least_level" = some (.ref (He.ga K "least_level")) := He.glo_ok X G (c.d.fact 11 (f := .glo "least_level") rfl)
  obtain ⟨fd_u_law_mixed, F_u_law_mixed⟩ := c.d.def_ 12 (d := KH.d_u_law_mixed) rfl
  have n_u_law_mixed : mg "_law_mixed" = some (.ref (He.ga K "_law_mixed")) := He.glo_ok X G (c.d.fact 12 (f := .glo "_law_mixed") rfl)
  obtain ⟨fd_u_law_store, F_u_law_store⟩ := c.d.def_ 13 (d := KH.d_u_law_store) rfl
  have n_u_law_store : mg "_law_store" = some (.ref (He.ga K "_law_store")) := He.glo_ok X G (c.d.fact 13 (f := .glo "_law_store") rfl)
  obtain ⟨fd_u_law_take, F_u_law_take⟩ := c.d.def_ 14 (d := KH.d_u_law_take) rfl
  have n_u_law_take : mg "_law_take" = some (.ref (He.ga K "_law_take")) := He.glo_ok X G (c.d.fact 14 (f := .glo "_law_take") rfl)
  obtain ⟨fd_u_law_between, F_u_law_between⟩ := c.d.def_ 15 (d := KH.d_u_law_between) rfl
  have n_u_law_between : mg "_law_between" = some (.ref (He.ga K "_law_between")) := He.glo_ok X G (c.d.fact 15 (f := .glo "_law_between") rfl)
  obtain ⟨fd_u_law_chance, F_u_law_chance⟩ := c.d.def_ 16 (d := KH.d_u_law_chance) rfl
  have n_u_law_chance : mg "_law_chance" = some (.ref (He.ga K "_law_chance")) := He.glo_ok X G (c.d.fact 16 (f := .glo "_law_chance") rfl)
  obtain ⟨fd_u_law_pick, F_u_law_pick⟩ := c.d.def_ 17 (d := KH.d_u_law_pick) rfl
  have n_u_law_pick : mg "_law_pick" = some (.ref (He.ga K "_law_pick")) := He.glo_ok X G (c.d.fact 17 (f := .glo "_law_pick") rfl)
  obtain ⟨fd_u_law_order, F_u_law_order⟩ := c.d.def_ 18 (d := KH.d_u_law_order) rfl
  have n_u_law_order : mg "_law_order" = some (.ref (He.ga K "_law_order")) := He.glo_ok X G (c.d.fact 18 (f := .glo "_law_order") rfl)
  obtain ⟨fd_u_law_any_number, F_u_law_any_number⟩ := c.d.def_ 19 (d := KH.d_u_law_any_number) rfl
  have n_u_law_any_number : mg "_law_any_number" = some (.ref (He.ga K "_law_any_number")) := He.glo_ok X G (c.d.fact 19 (f := .glo "_law_any_number") rfl)
  obtain ⟨fd_u_law_numbers, F_u_law_numbers⟩ := c.d.def_ 20 (d := KH.d_u_law_numbers) rfl
  have n_u_law_numbers : mg "_law_numbers" = some (.ref (He.ga K "_law_numbers")) := He.glo_ok X G (c.d.fact 20 (f := .glo "_law_numbers") rfl)
  obtain ⟨fd_u_law_all_profiles, F_u_law_all_profiles⟩ := c.d.def_ 21 (d := KH.d_u_law_all_profiles) rfl
  have n_u_law_all_profiles : mg "_law_all_profiles" = some (.ref (He.ga K "_law_all_profiles")) := He.glo_ok X G (c.d.fact 21 (f := .glo "_law_all_profiles") rfl)
  obtain ⟨fd_u_law_profile_count, F_u_law_profile_count⟩ := c.d.def_ 22 (d := KH.d_u_law_profile_count) rfl
  have n_u_law_profile_count : mg "_law_profile_count" = some (.ref (He.ga K "_law_profile_count")) := He.glo_ok X G (c.d.fact 22 (f := .glo "_law_profile_count") rfl)
  obtain ⟨fd_u_law_size, F_u_law_size⟩ := c.d.def_ 23 (d := KH.d_u_law_size) rfl
  have n_u_law_size : mg "_law_size" = some (.ref (He.ga K "_law_size")) := He.glo_ok X G (c.d.fact 23 (f := .glo "_law_size") rfl)
  obtain ⟨fd_u_law_level, F_u_law_level⟩ := c.d.def_ 24 (d := KH.d_u_law_level) rfl
  have n_u_law_level : mg "_law_level" = some (.ref (He.ga K "_law_level")) := He.glo_ok X G (c.d.fact 24 (f := .glo "_law_level") rfl)
  obtain ⟨fd_u_law_told, F_u_law_told⟩ := c.d.def_ 25 (d := KH.d_u_law_told) rfl
  have n_u_law_told : mg "_law_told" = some (.ref (He.ga K "_law_told")) := He.glo_ok X G (c.d.fact 25 (f := .glo "_law_told") rfl)
  obtain ⟨fd_u_law_due, F_u_law_due⟩ := c.d.def_ 26 (d := KH.d_u_law_due) rfl
  have n_u_law_due : mg "_law_due" = some (.ref (He.ga K "_law_due")) := He.glo_ok X G (c.d.fact 26 (f := .glo "_law_due") rfl)
  obtain ⟨fd_u_law_told_level, F_u_law_told_level⟩ := c.d.def_ 27 (d := KH.d_u_law_told_level) rfl
  have n_u_law_told_level : mg "_law_told_level" = some (.ref (He.ga K "_law_told_level")) := He.glo_ok X G (c.d.fact 27 (f := .glo "_law_told_level") rfl)
  obtain ⟨fd_u_law_due_level, F_u_law_due_level⟩ := c.d.def_ 28 (d := KH.d_u_law_due_level) rfl
  have n_u_law_due_level : mg "_law_due_level" = some (.ref (He.ga K "_law_due_level")) := He.glo_ok X G (c.d.fact 28 (f := .glo "_law_due_level") rfl)
  obtain ⟨fd_u_law_level_holds, F_u_law_level_holds⟩ := c.d.def_ 29 (d := KH.d_u_law_level_holds) rfl
  have n_u_law_level_holds : mg "_law_level_holds" = some (.ref (He.ga K "_law_level_holds")) := He.glo_ok X G (c.d.fact 29 (f := .glo "_law_level_holds") rfl)
  obtain ⟨fd_law, F_law⟩ := c.d.def_ 30 (d := KH.d_law) rfl
  have n_law : mg "law" = some (.ref (He.ga K "law")) := He.glo_ok X G (c.d.fact 30 (f := .glo "law") rfl)
  refine ⟨fd_law, fun s u => FunD.bindsA (ps := ["script"]) F_law (fun _ _ _ _ _ _ us hl => match us, hl with | [_], _ => rfl) s [u] rfl, fun base => ?_⟩
  have fb := base_fn (w := w) (mg := mg) (base := base) G_HearingError v_HearingError h_super
  have r_BadFormula := rai_BadFormula (P := P) (w := w) (base := base) m_BadFormula (exB_ok e_BadFormula) fb G_BadFormula v_BadFormula h_super
  have r_BadGreat := rai_BadGreat (P := P) (w := w) (base := base) m_BadGreat (exB_ok e_BadGreat) fb G_BadGreat v_BadGreat h_super
  have r_TooMany := rai_TooMany (P := P) (w := w) (base := base) m_TooMany (exB_ok e_TooMany) fb G_TooMany v_TooMany h_super
  have c_compares := ok_compares (P := P) (w := w) (base := base) F_compares n_compares 
  have c_measure := ok_measure (P := P) (w := w) (base := base) F_measure n_measure h_len h_max h_range h_sum
  have z0_is_true : Cal P w K mg base "is_true" (1 + 0) (He.ga K "is_true") fd_is_true ["formula", "counts", "row"] [] (f_is_true 0) := Cal.zero n_is_true F_is_true.kp (kw_of F_is_true fun _ _ _ _ _ _ us ws h1 h2 => match us, ws, h1, h2 with | [_, _, _], [], _, _ => rfl)
  have z1_is_true : Cal P w K mg base "is_true" (1 + 1) (He.ga K "is_true") fd_is_true ["formula", "counts", "row"] [] (f_is_true 1) := ok_is_true (P := P) (w := w) (base := base) (j := 0) F_is_true n_is_true c_compares z0_is_true c_measure
  have z2_is_true : Cal P w K mg base "is_true" (1 + 2) (He.ga K "is_true") fd_is_true ["formula", "counts", "row"] [] (f_is_true 2) := ok_is_true (P := P) (w := w) (base := base) (j := 1) F_is_true n_is_true c_compares z1_is_true c_measure
  have z3_is_true : Cal P w K mg base "is_true" (1 + 3) (He.ga K "is_true") fd_is_true ["formula", "counts", "row"] [] (f_is_true 3) := ok_is_true (P := P) (w := w) (base := base) (j := 2) F_is_true n_is_true c_compares z2_is_true c_measure
  have z4_is_true : Cal P w K mg base "is_true" (1 + 4) (He.ga K "is_true") fd_is_true ["formula", "counts", "row"] [] (f_is_true 4) := ok_is_true (P := P) (w := w) (base := base) (j := 3) F_is_true n_is_true c_compares z3_is_true c_measure
  have z5_is_true : Cal P w K mg base "is_true" (1 + 5) (He.ga K "is_true") fd_is_true ["formula", "counts", "row"] [] (f_is_true 5) := ok_is_true (P := P) (w := w) (base := base) (j := 4) F_is_true n_is_true c_compares z4_is_true c_measure
  have z6_is_true : Cal P w K mg base "is_true" (1 + 6) (He.ga K "is_true") fd_is_true ["formula", "counts", "row"] [] (f_is_true 6) := ok_is_true (P := P) (w := w) (base := base) (j := 5) F_is_true n_is_true c_compares z5_is_true c_measure
  have z7_is_true : Cal P w K mg base "is_true" (1 + 7) (He.ga K "is_true") fd_is_true ["formula", "counts", "row"] [] (f_is_true 7) := ok_is_true (P := P) (w := w) (base := base) (j := 6) F_is_true n_is_true c_compares z6_is_true c_measure
  have c_is_true : Cal P w K mg base "is_true" 8 (He.ga K "is_true") fd_is_true ["formula", "counts", "row"] [] g_is_true := z7_is_true
  have z0_is_counted : Cal P w K mg base "is_counted" (0 + 0) (He.ga K "is_counted") fd_is_counted ["formula"] [] (f_is_counted 0) := Cal.zero n_is_counted F_is_counted.kp (kw_of F_is_counted fun _ _ _ _ _ _ us ws h1 h2 => match us, ws, h1, h2 with | [_], [], _, _ => rfl)
  have z1_is_counted : Cal P w K mg base "is_counted" (0 + 1) (He.ga K "is_counted") fd_is_counted ["formula"] [] (f_is_counted 1) := ok_is_counted (P := P) (w := w) (base := base) (j := 0) F_is_counted n_is_counted z0_is_counted
  have z2_is_counted : Cal P w K mg base "is_counted" (0 + 2) (He.ga K "is_counted") fd_is_counted ["formula"] [] (f_is_counted 2) := ok_is_counted (P := P) (w := w) (base := base) (j := 1) F_is_counted n_is_counted z1_is_counted
  have z3_is_counted : Cal P w K mg base "is_counted" (0 + 3) (He.ga K "is_counted") fd_is_counted ["formula"] [] (f_is_counted 3) := ok_is_counted (P := P) (w := w) (base := base) (j := 2) F_is_counted n_is_counted z2_is_counted
  have z4_is_counted : Cal P w K mg base "is_counted" (0 + 4) (He.ga K "is_counted") fd_is_counted ["formula"] [] (f_is_counted 4) := ok_is_counted (P := P) (w := w) (base := base) (j := 3) F_is_counted n_is_counted z3_is_counted
  have z5_is_counted : Cal P w K mg base "is_counted" (0 + 5) (He.ga K "is_counted") fd_is_counted ["formula"] [] (f_is_counted 5) := ok_is_counted (P := P) (w := w) (base := base) (j := 4) F_is_counted n_is_counted z4_is_counted
  have z6_is_counted : Cal P w K mg base "is_counted" (0 + 6) (He.ga K "is_counted") fd_is_counted ["formula"] [] (f_is_counted 6) := ok_is_counted (P := P) (w := w) (base := base) (j := 5) F_is_counted n_is_counted z5_is_counted
  have z7_is_counted : Cal P w K mg base "is_counted" (0 + 7) (He.ga K "is_counted") fd_is_counted ["formula"] [] (f_is_counted 7) := ok_is_counted (P := P) (w := w) (base := base) (j := 6) F_is_counted n_is_counted z6_is_counted
  have c_is_counted : Cal P w K mg base "is_counted" 7 (He.ga K "is_counted") fd_is_counted ["formula"] [] g_is_counted := z7_is_counted
  have c_check_counted := ok_check_counted (P := P) (w := w) (base := base) F_check_counted n_check_counted c_is_counted r_BadFormula
  have c_choices := ok_choices (P := P) (w := w) (base := base) F_choices n_choices h_range
  have c_all_profiles := ok_all_profiles (P := P) (w := w) (base := base) F_all_profiles n_all_profiles c_choices h_range h_sum h_MOST_PROFILES r_TooMany
  have c_profiles_where := ok_profiles_where (P := P) (w := w) (base := base) F_profiles_where n_profiles_where c_all_profiles c_check_counted c_is_true
  have c_spans_of := ok_spans_of (P := P) (w := w) (base := base) F_spans_of n_spans_of r_BadGreat
  have c_at_least := ok_at_least (P := P) (w := w) (base := base) F_at_least n_at_least c_all_profiles h_max
  have c_preferred := ok_preferred (P := P) (w := w) (base := base) F_preferred n_preferred c_all_profiles
  have c_least_level := ok_least_level (P := P) (w := w) (base := base) F_least_level n_least_level c_spans_of
  have c_u_law_mixed := ok_u_law_mixed (P := P) (w := w) (base := base) F_u_law_mixed n_u_law_mixed h_int
  have c_u_law_store := ok_u_law_store (P := P) (w := w) (base := base) F_u_law_store n_u_law_store h_abs h_int
  have c_u_law_take := ok_u_law_take (P := P) (w := w) (base := base) F_u_law_take n_u_law_take c_u_law_mixed h_abs h_int h_len
  have c_u_law_between := ok_u_law_between (P := P) (w := w) (base := base) F_u_law_between n_u_law_between c_u_law_take
  have c_u_law_chance := ok_u_law_chance (P := P) (w := w) (base := base) F_u_law_chance n_u_law_chance c_u_law_take
  have c_u_law_pick := ok_u_law_pick (P := P) (w := w) (base := base) F_u_law_pick n_u_law_pick c_u_law_take h_len
  have c_u_law_order := ok_u_law_order (P := P) (w := w) (base := base) F_u_law_order n_u_law_order c_u_law_take h_list h_range
  have c_u_law_any_number := ok_u_law_any_number (P := P) (w := w) (base := base) F_u_law_any_number n_u_law_any_number c_u_law_between c_u_law_chance c_u_law_pick c_u_law_take h_range
  have c_u_law_numbers := ok_u_law_numbers (P := P) (w := w) (base := base) F_u_law_numbers n_u_law_numbers c_u_law_chance c_u_law_take h_min
  have c_u_law_all_profiles := ok_u_law_all_profiles (P := P) (w := w) (base := base) F_u_law_all_profiles n_u_law_all_profiles h_list h_range h_sum
  have c_u_law_profile_count := ok_u_law_profile_count (P := P) (w := w) (base := base) F_u_law_profile_count n_u_law_profile_count h_range
  have c_u_law_size := ok_u_law_size (P := P) (w := w) (base := base) F_u_law_size n_u_law_size c_u_law_pick c_u_law_take
  have c_u_law_level := ok_u_law_level (P := P) (w := w) (base := base) F_u_law_level n_u_law_level c_u_law_any_number c_u_law_between c_u_law_chance
  have c_u_law_told := ok_u_law_told (P := P) (w := w) (base := base) F_u_law_told n_u_law_told c_all_profiles c_at_least c_preferred c_profiles_where r_TooMany m_BadEars m_BadFamily m_BadFormula m_BadGreat m_BadGroup m_BadHand m_BadHouse m_BadLot m_BadNight m_BadPaper m_BadRenaming m_BadRow m_BadTables m_BadText m_BadValue m_BadView m_BadWorld m_NotFit m_TooMany m_Unborne hcm hck
  have c_u_law_due := ok_u_law_due (P := P) (w := w) (base := base) F_u_law_due n_u_law_due c_u_law_all_profiles c_u_law_profile_count h_max
  have c_u_law_told_level := ok_u_law_told_level (P := P) (w := w) (base := base) F_u_law_told_level n_u_law_told_level c_least_level h_ValueError h_isinstance r_BadGreat m_BadEars m_BadFamily m_BadFormula m_BadGreat m_BadGroup m_BadHand m_BadHouse m_BadLot m_BadNight m_BadPaper m_BadRenaming m_BadRow m_BadTables m_BadText m_BadValue m_BadView m_BadWorld m_NotFit m_TooMany m_Unborne hcm hck
  have c_u_law_due_level := ok_u_law_due_level (P := P) (w := w) (base := base) F_u_law_due_level n_u_law_due_level h_len h_range
  have c_u_law_level_holds := ok_u_law_level_holds (P := P) (w := w) (base := base) F_u_law_level_holds n_u_law_level_holds c_u_law_any_number c_u_law_chance c_u_law_due_level c_u_law_numbers c_u_law_pick c_u_law_take c_u_law_told_level h_list h_range h_repr
  have c_law := ok_law (P := P) (w := w) (base := base) F_law n_law c_u_law_due c_u_law_level c_u_law_level_holds c_u_law_order c_u_law_size c_u_law_store c_u_law_take c_u_law_told h_repr
  exact c_law
theorem start_ok {K : PySem.W.Frag} {mg : Str → Option Value} {g : Rho → R Vl} (hp : ∀ ns : List Int, ns.length ≤ 63 → ∃ ρ', g [.d (.ro (ns.map D.int))] = .ok (.d (.bl true)) ρ') (H : Hp) (a : Addr) (ns : List Int) (hl : ns.length ≤ 63) (hS : SqL K H a (ns.map V.int)) :
    spG K ⟨mg, none⟩ 1 g [.ref a] H (fun v _ => v = .bl true) fun _ _ _ => False := by
  obtain ⟨ρ', e⟩ := hp ns hl
  refine ⟨rfl, H, [.d (.ro (ns.map D.int))], ⟨rfl, Sub.refl H, fun {i x} q => ?_, fun {i q m} q' => ?_, fun {i j q q' m m' p} z => ?_, fun {i fs} z => ?_⟩, ?_⟩
  · cases i with
    | zero =>
      cases q
      exact ⟨_, rfl, a, _, rfl, hS, Reps.map_of _ _ fun _ _ => rfl⟩
    | succ i => cases i <;> cases q
  · cases i with
    | zero => cases q'
    | succ i => cases i <;> cases q'
  · cases i with
    | zero => cases z
    | succ i => cases i <;> cases z
  · cases i with
    | zero => cases z
    | succ i => cases i <;> cases z
  · rw [e]
    exact fun v F' H' _ r => r
end KE
open PySem PySem.W PySem.Calls PyProof.Rows
theorem law_end (hp : ∀ ns : List Int, ns.length ≤ 63 → ∃ ρ', K.g_law [.d (.ro (ns.map L3.D.int))] = .ok (.d (.bl true)) ρ') : PySem.Challenge.rw_onehearing_k79_levels_and_formulas.Holds := by
  w_on; o_law
  refine HandSHeadRun.head_any (r := OpenLaw.row PySem.Challenge.rw_onehearing_k79_levels_and_formulas) (q := view (OpenLaw.row PySem.Challenge.rw_onehearing_k79_levels_and_formulas).prog [58]) (H := KH.hk) (ob := KH.ob) (M := 20000) (loose := KH.names) (d := HandSHeadRun.topDef (OpenLaw.row PySem.Challenge.rw_onehearing_k79_levels_and_formulas).prog 58) (kwd := []) KH.ob_eq
    (by kernel_rfl) (fun s => by kernel_rfl) KH.run (by kernel_rfl) (by kernel_rfl) (by kernel_rfl) (by rfl) (by first | assumption | decide +kernel) (by decide +kernel) ⟨rfl, rfl, rfl, rfl, rfl, by decide +kernel⟩ ?hw ?hc
  case hw => w_witness2
  case hc =>
    refine L3.walk_end (l := PySem.Challenge.rw_onehearing_k79_levels_and_formulas) (n := 63) (k := 11) (x := "script") rfl (by decide) (by kernel_rfl) ⟨rfl, by decide, by decide⟩ ?F
    intro w mg fa h Y G hmg0
    obtain ⟨KK, KX, c⟩ := Y
    obtain ⟨fd, hb, hF⟩ := KE.facts (P := (PySem.Challenge.rw_onehearing_k79_levels_and_formulas).prog) (w := w) (base := h) (by kernel_rfl) (by kernel_rfl) KX G c
    have hmg : mg ("law" : PySem.Str) = some (.ref fa) := by
      have e : (HandSHeadRun.topDef (OpenLaw.row PySem.Challenge.rw_onehearing_k79_levels_and_formulas).prog 58).name = ("law" : PySem.Str) := by kernel_rfl
      rw [← e]
      exact hmg0
    have e := hmg.symm.trans (hF h).m
    cases e
    exact ⟨KK, fd, _, KX, hb, fun H a ns hl _ hS => KE.start_ok hp H a ns hl hS, fun B _ _ => (hF B).fn⟩


theorem PySem.Challenge.cw_onehearing_k79_levels_and_formulas_holds : PySem.Challenge.rw_onehearing_k79_levels_and_formulas.Holds := by
  exact law_end K.law_pure
