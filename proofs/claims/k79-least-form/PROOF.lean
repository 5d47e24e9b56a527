import PyProof.Rows.All
import HandS.ForMost
import HandS.IsInst
import HandS.StrMore
import HandS.DictComp
import HandS.Wide
import HandS.WideBits
import HandS.Walk
import HandS.Defaults
import PyProof.ReprRoads
import HandS.HeadEnd
import PyProof.ListStr
import PyProof.StrLawsIn
import PyProof.Rows.StrCut
import PyProof.Rows.RuleB_pow
import PyProof.StrOps2
import PyProof.Rows.StrMeet
import HandS.Head0
import HandS.Head1
import HandS.Head2
import HandS.HeadHook1
import HandS.HeadHook2
import KE.KRevSl
import HandS.Style
import HandS.Iter
import PyProof.Rows.CallKwBuiltin
import PySem.Challenge.RW_skipcounts_k79_whole_one_least_form
set_option Elab.async false
set_option linter.all false
set_option maxRecDepth 100000
set_option maxHeartbeats 4000000
/-! Sk: a def's promise where no repr is under way (the guards are empty), its call, the law's own call. -/
namespace Sk
open PySem PySem.Spec PyProof.Rows L2

/-- a promise kept wherever there is room and no repr is under way -/
structure FnG (P : Program) (w : World) (K : PySem.W.Frag) (mg : Str → Option Value) (base : Heap) (k : Nat) (f : Addr) (fd : FuncData) (ps : List Str) (sp : Sp) : Prop where
  cnt : ∀ vs H Q E, sp vs H Q E → vs.length = ps.length
  go : ∀ (A : Around) (outer : List Env) (s : Shared) (H : Hp) (args : Args) (us : List Value) (vs : List V) (Q : VK) (E : XK),
    A.guards = some [] → Room k A → Env0 P w K mg base A outer s H → BindsTo s fd args (ps.zip us) → Vals vs us → sp vs H Q E →
    codeAny (model P w) A (.call (.ref f) args) (CR CX0 outer P w H s Q E) s

section
variable {P : Program} {w : World} {K : PySem.W.Frag} {mg : Str → Option Value} {base : Heap} {k : Nat} {f : Addr} {fd : FuncData} {ps : List Str} {sp : Sp}
theorem FnG.up {j : Nat} (F : FnG P w K mg base j f fd ps sp) (h : j ≤ k) : FnG P w K mg base k f fd ps sp :=
  ⟨F.cnt, fun A outer s H args us vs Q E hg hr => F.go A outer s H args us vs Q E hg (hr.mono h)⟩

/-- a def by its body -/
theorem fnG_of {name qual : Str} {params : Arguments} {body : List Stmt} {scope : Scope} {dV kV doc pm cdv ct oc : Value} {an od : Option Addr} {osl : Array (Option Value)} {N : List Str}
    (at_ : K.lookup f = some ⟨oc, od, .func (PySem.W.fnOf name qual params body scope dV kV doc pm an cdv ct), osl⟩) (hcd : PySem.W.codeIn K cdv qual = true) (S : FnScope N ps scope)
    (cnt : ∀ vs H Q E, sp vs H Q E → vs.length = ps.length)
    (hb : ∀ (A : Around) (outer : List Env) (s : Shared) (H : Hp) (vs : List V) (Q : VK) (E : XK), A.guards = some [] → Room k (A.deeper (envOfC qual scope s.heap.objs.size f cdv)) → sp vs H Q E →
      ∃ t, PSs (cxOf CX0 P w K mg base N qual scope f cdv A outer s H E) body t ∧ t { nx := fun _ H' => Q .non H', rt := Q } (start N vs) H) :
    FnG P w K mg base (k + 1) f (PySem.W.fnOf name qual params body scope dV kV doc pm an cdv ct) ps sp := by
  constructor
  · exact cnt
  intro A outer s H args us vs Q E hg hr e0 bnd rv hs
  have many := cnt vs H Q E hs
  have inK : K.In s.heap := e0.mod.kin.keeps (fun b o z => (e0.bs b o z).1)
  have nolim : s.heap.NoLimit := e0.mod.nolimit.keeps (fun b o z => (e0.bs b o z).1)
  refine codeAny_call_function hr.depth (inK _ _ at_) rfl S.co S.gen rfl
    (PySem.W.codeRec_of inK hcd) (bnd _ _ _ _ ?_)
  refine wpAny_newFunctionEnv_cells S.kind ?kinds ?rest
  case kinds =>
    rintro ⟨y, u⟩ hy
    cases S.par y (List.of_mem_zip hy).1 with
    | inl l => exact Or.inl l
    | inr c => exact Or.inr ⟨c, PySem.W.cellsFrom_some _ _ _ (.inl c)⟩
  case rest =>
    intro env he s1 x
    subst he
    refine ⟨nolim.keeps x.toInCall.keep, codeAny_func ?_⟩
    obtain ⟨t, ht, hq⟩ := hb A outer s H vs Q E hg (hr.deeper _) hs
    have J := inv_start (CX := CX0) (E := E) S hr.hd e0 many rv x
    refine wpAny_mono (ht.run [] s1 (start N vs) H _ J hq) ?_ (fun e s' z => z)
    intro fl s' z
    cases fl with
    | next =>
      obtain ⟨σ', H', I', q⟩ := z
      exact ⟨V.non, H', I'.os, I'.bare, I'.base, I'.hok, rfl, q⟩
    | ret u =>
      obtain ⟨v, σ', H', I', r', q⟩ := z
      exact ⟨v, H', I'.os, I'.bare, I'.base, I'.hok, r', q⟩
    | brk =>
      obtain ⟨_, _, _, q⟩ := z
      exact q.elim
    | cont =>
      obtain ⟨_, _, _, q⟩ := z
      exact q.elim
end

/-- what a caller knows of a def of the module: its promise, its place -/
def Callee (P : Program) (w : World) (K : PySem.W.Frag) (mg : Str → Option Value) (base : Heap) (k : Nat) (x : Str) (ps : List Str) (sp : Sp) : Prop :=
  ∃ (f : Addr) (fd : FuncData), FnG P w K mg base k f fd ps sp ∧ Binds K fd ps [] ∧ PySem.W.keepIn K (.ref f) = true ∧ mg x = some (.ref f)
theorem Callee.up {P : Program} {w : World} {K : PySem.W.Frag} {mg : Str → Option Value} {base : Heap} {j k : Nat} {x : Str} {ps : List Str} {sp : Sp} (c : Callee P w K mg base j x ps sp) (h : j ≤ k) :
    Callee P w K mg base k x ps sp := by
  obtain ⟨f, fd, F, r⟩ := c
  exact ⟨f, fd, F.up h, r⟩

section
variable {X : Cx} {k : Nat} {f : Addr} {fd : FuncData} {ps : List Str} {sp : Sp} {x : Str} {p pos : Pos} {e : Expr} {es : List Expr} {t : TA}
theorem run_G {pins : List (Addr × Obj)} {σ : L2.St} {H : Hp} {s : Shared} {Q : VK} {us : List Value} {vs : List V} (F : FnG X.prog X.w X.K X.mg X.base k f fd ps sp) (hg : X.A.guards = some []) (hr : Room k X.A) (hb : Binds X.K fd ps [])
    (I : Inv X pins σ H s) (r : Vals vs us) (h : sp vs H Q E0) : wpAny (model X.prog X.w) X.A (call (.ref f) us) (EP X pins σ Q) X.xe s := by
  have n : us.length = ps.length := r.length.symm.trans (F.cnt _ _ _ _ h)
  have b := hb s us I.kIn (by rw [List.append_nil]; exact n)
  rw [List.append_nil] at b
  refine wpAny_call (codeAny_mono (F.go X.A X.stack s H ⟨us, []⟩ us vs Q E0 hg hr I.env0 b r h) ?_)
  intro res s' z
  cases res with
  | error e => exact False.elim z
  | ok fl => cases fl with
    | ret u => exact I.after z
    | next => exact False.elim z
    | brk => exact False.elim z
    | cont => exact False.elim z
/-- f(e, ..) -/
def tCal (sp : Sp) (t : TA) : TE := fun σ H Q => t σ H fun vs H1 => sp vs H1 Q E0
theorem pe_cal (c : Callee X.prog X.w X.K X.mg X.base k x ps sp) (hg : X.A.guards = some []) (hr : Room k X.A) (ha : PA X (e :: es) t) (hgl : Gl X x := by rfl)
    (hdb : (x == ("__debug__" : Str)) = false := by decide) (he : starEach (e :: es) X.env = (false, eval e X.env) :: starEach es X.env := by rfl) (hpl : (backTo pos (starEach es X.env)).any (·.1) = false := by rfl) :
    PE X (.Call (.Name x p) (e :: es) [] pos) (tCal sp t) := by
  obtain ⟨f, fd, F, hb, hk, hm⟩ := c
  constructor
  intro pins s σ H Q I h
  apply wpAny_Call_Name_kw
  apply ld_glob I hgl hm _ hdb
  refine PySem.W.callWith_K (h₀ := X.base) I.ok.mod.kin hk (thn (ha.run pos pins s σ H _ I h) ?_) he hpl
  rintro us s1 ⟨vs, H1, I1, r, q⟩
  exact ⟨I1.kIn, run_G F hg hr hb I1 r q⟩
theorem pe_cal0 (c : Callee X.prog X.w X.K X.mg X.base k x ps sp) (hg : X.A.guards = some []) (hr : Room k X.A) (hgl : Gl X x := by rfl) (hdb : (x == ("__debug__" : Str)) = false := by decide) :
    PE X (.Call (.Name x p) [] [] pos) (tCal sp tNil) := by
  obtain ⟨f, fd, F, hb, hk, hm⟩ := c
  constructor
  intro pins s σ H Q I h
  apply wpAny_Call_Name_kw
  apply ld_glob I hgl hm _ hdb
  exact PySem.W.callWith_K0 I.kIn hk (run_G (us := []) F hg hr hb I .nil h)

/-- repr of data -/
def rRepr (K : PySem.W.Frag) : List V → Hp → VK → Prop := fun vs H Q => ∃ (x : V) (d : PyData), vs = [x] ∧ Dp K H x d ∧ d.showable = true ∧ d.hasDict = false ∧ d.depth ≤ 60 ∧ d.shown.length ≤ sizeLine ∧ Q (.str d.shown) H
end
end Sk

set_option Elab.async false
set_option linter.all false
set_option maxRecDepth 100000
set_option maxHeartbeats 4000000
/-! Sk: repr of data; the law's call over FnG. -/
namespace Sk
open PySem PySem.Spec PyProof.Rows L2

section
variable {X : Cx}
theorem call_repr (hg : X.A.guards = some []) (hu : X.A.units + 64 < cLine) : CallR X (.builtin "repr") (rRepr X.K) := by
  intro pins s σ H xs us Q I r h
  obtain ⟨x, d, rfl, hd, hs, hn, hp, hz, q⟩ := h
  cases r with
  | cons rx rn =>
    rename_i u us'
    cases rn
    have fin : ∀ (h' : Heap) (t tk : Tok), (∀ b o, s.heap.get? b = some o → h'.get? b = some o) → EP X pins σ Q (.str d.shown t) { s with heap := h', toks := tk } :=
      fun h' t tk hk => ⟨.str d.shown, H, (show Inv X pins σ H { s with heap := h', toks := tk } from I.kept hk), ⟨_, rfl⟩, q⟩
    cases hd with
    | non =>
      cases rx
      exact PySem.P.repr_of_none (fin s.heap _ _ fun _ _ z => z)
    | bl b =>
      cases rx
      exact PySem.P.repr_of_bool (by cases b <;> exact fin s.heap _ _ fun _ _ z => z)
    | int i =>
      obtain ⟨t, rfl⟩ := rx
      exact PySem.P.repr_of_int (of_decide_eq_true hs) (fin s.heap _ _ fun _ _ z => z)
    | str y =>
      obtain ⟨t, rfl⟩ := rx
      exact PySem.P.repr_of_str (fin s.heap _ _ fun _ _ z => z) hz
    | lst a b =>
      cases rx
      obtain ⟨as, rd⟩ := Dp.reads I _ _ _ (Dp.lst a b) rfl
      exact repr_of_reads' rd hs (fun z => by rw [hn] at z; cases z) hg (by omega) (fun _ _ z => z) fin hz
    | tup a b =>
      cases rx
      obtain ⟨as, rd⟩ := Dp.reads I _ _ _ (Dp.tup a b) rfl
      exact repr_of_reads' rd hs (fun z => by rw [hn] at z; cases z) hg (by omega) (fun _ _ z => z) fin hz
end
end Sk

set_option Elab.async false
set_option linter.all false
set_option maxRecDepth 100000
set_option maxHeartbeats 4000000
/-! Sk: a law row's end over FnG. -/
namespace Sk
open PySem PySem.Spec PyProof.Rows L2

/-- the call of a law at an abstract heap in which at most the script is tracked -/
theorem law_core {P : Program} {w : World} {K : PySem.W.Frag} {mg mb : Str → Option Value} {k : Nat} {fa a : Addr} {fd : FuncData} {x : Str} {sp : Sp} {s1 : Shared} {oa : Obj} {its : Array Value} {n : Nat} {H : Hp}
    (KX : K.In s1.heap) (hns : s1.heap.Ns mainGlobals mg) (hb : s1.heap.Ns builtinsNs mb) (hbb : ∀ y : Str, y ≠ "__name__" → mb y = bootBuiltins y) (hlim : s1.heap.NoLimit) (hg : s1.gens = #[])
    (ha : s1.heap.get? a = some oa) (hd : oa.data = .seq its n) (hr : Room k callerA)
    (F : ∀ base : Heap, K.In base → base.Ns mainGlobals mg → FnG P w K mg base k fa fd [x] sp) (hbind : ∀ (s : Shared) (u : Value), BindsTo s fd ⟨[u], []⟩ [(x, u)])
    (hsp : sp [.ref a] H (fun v _ => v = .bl true) E0) (hO : Only H) (ok : HOk P w H s1.heap) (hA : ∀ b, H b ≠ none → b = a) (hK : H a ≠ none → K.lookup a = none) :
    codeAny (model P w) callerA (.call (.ref fa) ⟨[.ref a], []⟩) (fun r s' => r = .ok (.ret (.bool true)) ∧ OldK s1.heap s'.heap ∧ s'.os = s1.os ∧ AllBare s'.gens) s1 := by
  have hidden : ∀ {b : Addr} {o : Obj}, s1.heap.get? b = some o → (b = a → H a = none) → (hidT s1.heap H).get? b = some o := by
    intro b o e z
    apply hidT_get e
    apply Classical.byContradiction
    intro q
    have e2 := hA b q
    subst e2
    exact q (z rfl)
  have dicts : ∀ {b : Addr} {m : Str → Option Value}, s1.heap.Ns b m → (hidT s1.heap H).Ns b m := by
    rintro b m ⟨o, es, ep, e, d, r⟩
    refine ⟨o, es, ep, hidden e (fun z => ?_), d, r⟩
    subst z
    rw [ha] at e
    injection e with e
    rw [← e, hd] at d
    cases d
  have kin : K.In (hidT s1.heap H) := by
    intro b o e
    refine hidden (KX b o e) (fun z => Classical.byContradiction fun q => ?_)
    subst z
    have := hK q
    rw [e] at this
    cases this
  obtain ⟨mc, l1, l2⟩ := hlim
  have mo : Mod K mg (hidT s1.heap H) := { kin := kin, glob := dicts hns, blt := ⟨mb, dicts hb, hbb⟩, nolimit := ⟨mc, dicts l1, l2⟩ }
  have en : Env0 P w K mg (hidT s1.heap H) callerA [] s1 H :=
    { frames := rfl, mod := mo, bs := fun b o e => of_hidT e, bsz := Nat.le_of_eq (hidT_size _ _), funs := trivial, frf := (fun b hb => by cases hb), hok := ok, bare := .of_eq hg }
  refine codeAny_mono ((F _ kin (dicts hns)).go callerA [] s1 H ⟨[.ref a], []⟩ [.ref a] [.ref a] (fun v _ => v = .bl true) E0 rfl hr en (hbind s1 (.ref a)) (.cons rfl .nil) hsp) ?_
  intro res s' z
  match res, z with
  | .error e, z => exact False.elim z
  | .ok .next, z => exact False.elim z
  | .ok .brk, z => exact False.elim z
  | .ok .cont, z => exact False.elim z
  | .ok (.ret u), z =>
    obtain ⟨v, H', os, bare, un, ok', rel, q⟩ := z
    subst q
    have eu : u = Value.bool true := rel
    refine ⟨by rw [eu], OldK.of_keep ?_, os, bare⟩
    intro b o e
    by_cases q : H b = none
    · exact un.keep b o e q (by intro z; cases z) (by intro z; cases z)
    · rcases hO b with z | ⟨ob, xs, z⟩
      · exact absurd z q
      · have g1 := (ok b _ z).1
        have g2 := (ok' b _ (un.frzs b ob _ z)).1
        rw [e] at g1
        injection g1 with g1
        rw [g1]
        exact g2

theorem law_G {P : Program} {w : World} {K : PySem.W.Frag} {mg mb : Str → Option Value} {k : Nat} {fa a : Addr} {fd : FuncData} {x : Str} {sp : Sp} {s1 : Shared} {vs : List Value} {ns : List Int}
    (KX : K.In s1.heap) (hns : s1.heap.Ns mainGlobals mg) (hb : s1.heap.Ns builtinsNs mb) (hbb : ∀ y : Str, y ≠ "__name__" → mb y = bootBuiltins y) (hlim : s1.heap.NoLimit) (hg : s1.gens = #[])
    (ha : s1.heap.get? a = some { cls := .type "list", data := .seq vs.toArray }) (hi : IntsAre vs ns) (hl : ns.length ≤ sizeLine) (hr : Room k callerA)
    (F : ∀ base : Heap, K.In base → base.Ns mainGlobals mg → FnG P w K mg base k fa fd [x] sp) (hbind : ∀ (s : Shared) (u : Value), BindsTo s fd ⟨[u], []⟩ [(x, u)])
    (hsp : ∀ H : Hp, Only H → SqL K H a (ns.map V.int) → sp [.ref a] H (fun v _ => v = .bl true) E0) :
    codeAny (model P w) callerA (.call (.ref fa) ⟨[.ref a], []⟩) (fun r s' => r = .ok (.ret (.bool true)) ∧ OldK s1.heap s'.heap ∧ s'.os = s1.os ∧ AllBare s'.gens) s1 := by
  have rv := vals_ints hi
  have ln := hi.length
  by_cases hk : K.lookup a = none
  · let H1 : Hp := upd (fun _ => none) a (.frz { cls := .type "list", data := .seq vs.toArray } (.lst (ns.map V.int)))
    have at1 : H1 a = some (.frz { cls := .type "list", data := .seq vs.toArray } (.lst (ns.map V.int))) := upd_same
    have off : ∀ b, b ≠ a → H1 b = none := fun b hne => by show upd _ _ _ b = _; rw [upd_ne hne]
    have o1 : Only H1 := fun b => by
      by_cases e : b = a
      · subst e; exact Or.inr ⟨_, _, at1⟩
      · exact Or.inl (off b e)
    refine law_core (H := H1) KX hns hb hbb hlim hg ha rfl hr F hbind (hsp H1 o1 (.inl (.inr ⟨_, at1⟩))) o1 ?_ ?_ (fun _ => hk)
    · intro b u e
      by_cases eb : b = a
      · subst eb
        rw [at1] at e
        injection e with e
        subst e
        exact ⟨ha, by rw [List.length_map]; exact hl, vs, _, rv, ha⟩
      · rw [off b eb] at e; cases e
    · intro b q
      apply Classical.byContradiction
      intro eb
      exact q (off b eb)
  · obtain ⟨o, ho⟩ := Option.ne_none_iff_exists'.mp hk
    have e := KX a o ho
    rw [ha] at e
    injection e with e
    subst e
    refine law_core (H := fun _ => none) KX hns hb hbb hlim hg ha rfl hr F hbind (hsp _ (fun _ => Or.inl rfl) (.inr ⟨_, vs.toArray, _, ho, rfl, rfl, rfl, ?_, ?_⟩)) (fun _ => Or.inl rfl) ?_ ?_ ?_
    · rw [List.size_toArray, ln]; exact hl
    · simpa using rv
    · intro b u z; cases z
    · intro b z; exact absurd rfl z
    · intro z; exact absurd rfl z

/-- the goal behind the head, from the promise of the law's def -/
theorem walk_G {l : PySem.W.OpenLaw} {n k : Nat} {q : Program} {loose : List Str} {XP : (Str → Option Value) → Heap → Prop} {YP : World → Heap → Prop} {d : DefRec} {x : Str}
    (hn : l.most = some n) (hn2 : n ≤ sizeLine) (hdf : d.params.defaults = []) (hr : Room k callerA)
    (F : ∀ (w : World) (mg : Str → Option Value) (fa : Addr) (h : Heap), YP w h → h.Ns mainGlobals mg → mg d.name = some (.ref fa) →
      ∃ (K : PySem.W.Frag) (fd : FuncData) (sp : Sp), K.In h ∧ (∀ (s : Shared) (u : Value), BindsTo s fd ⟨[u], []⟩ [(x, u)]) ∧
        (∀ (H : Hp) (a : Addr) (ns : List Int), ns.length ≤ n → SqL K H a (ns.map V.int) → sp [.ref a] H (fun v _ => v = .bl true) E0) ∧
        ∀ base : Heap, K.In base → base.Ns mainGlobals mg → FnG l.prog w K mg base k fa fd [x] sp) :
    PySem.W.WalkO q loose XP YP l.row.toRowW d [] (fun f vs => PySem.call f vs) := by
  apply Att.attach_call hn hdf
  intro w s0 s1 mg mb fa o pm cd doc a vs ns G Y ho hd hcd hmg hobj hints hlen hg
  obtain ⟨K, fd, sp, KX, hbd, hsp, hF⟩ := F w mg fa _ Y G.T.g hmg
  exact law_G KX G.T.g G.T.b G.T.builtins G.T.nolimit hg hobj hints (Nat.le_trans hlen hn2) hr hF hbd (fun H _ hS => hsp H a ns hlen hS)

end Sk

set_option Elab.async false
set_option linter.all false
set_option maxRecDepth 100000
set_option maxHeartbeats 4000000
/-! Sk: texts as lists of code points, and the rules for them. -/
namespace Sk
open PySem PySem.Spec PyProof.Rows L2
open PySem.Builtin.Str (occurrences subAt)

def tx (l : List Nat) : Str := ⟨l.toArray⟩
abbrev T (l : List Nat) : V := .str (tx l)
theorem tl_tx (l : List Nat) : TL.tl (tx l) = l := rfl
theorem tx_inj {a b : List Nat} (h : tx a = tx b) : a = b := by
  have := congrArg TL.tl h
  exact this
theorem tx_len (l : List Nat) : (tx l).length = l.length := by
  rw [TL.len_tl]
  rfl
theorem tx_tl (x : Str) : tx (TL.tl x) = x := TL.mk_tl x
theorem tx_app (a b : List Nat) : tx a ++ tx b = tx (a ++ b) := TL.ext_tl (by rw [TL.tl_append]; rfl)
theorem T_eq (a b : List Nat) : decide (T a = T b) = decide (a = b) := by
  by_cases h : a = b
  · rw [h, decide_eq_true rfl, decide_eq_true rfl]
  · rw [decide_eq_false h, decide_eq_false]
    intro e
    injection e with e
    exact h (tx_inj e)
theorem line_ok {n : Nat} (h : n ≤ 1000000) : n ≤ sizeLine := Nat.le_trans h (by decide)
theorem line_lt {n : Nat} (h : n ≤ 1000000) : n < sizeLine := Nat.lt_of_le_of_lt h (by decide)

section
variable {X : Cx}
theorem pe_txt {x : Str} {j pos} (l : List Nat) (h : x = tx l := by rfl) : PE X (.Constant (.str x) j pos) (tC (T l)) := by
  subst h
  exact pe_str

/-- a + b -/
def rAddT : R2 := fun x y H Q => ∃ a b, x = T a ∧ y = T b ∧ a.length + b.length ≤ 1000000 ∧ Q (T (a ++ b)) H
theorem op_addT : OpR X (binaryOp .Add) rAddT := by
  intro pins s σ H x y v u Q I rx ry h
  obtain ⟨a, b, rfl, rfl, hz, q⟩ := h
  refine op_add_str pins s σ H _ _ v u Q I rx ry ⟨_, _, rfl, rfl, ?_, ?_⟩
  · rw [tx_len, tx_len]; exact line_ok hz
  · rw [tx_app]; exact q
/-- == and != -/
def rEqT (neg : Bool) : R2 := fun x y H Q => ∃ a b, x = T a ∧ y = T b ∧ Q (.bl (if neg then !decide (a = b) else decide (a = b))) H
theorem op_eqT : OpR X (compareOp .Eq) (rEqT false) := by
  intro pins s σ H x y v u Q I rx ry h
  obtain ⟨a, b, rfl, rfl, q⟩ := h
  refine op_eq pins s σ H _ _ v u Q I rx ry ⟨rfl, ?_⟩
  rw [T_eq]; exact q
theorem op_neT : OpR X (compareOp .NotEq) (rEqT true) := by
  intro pins s σ H x y v u Q I rx ry h
  obtain ⟨a, b, rfl, rfl, q⟩ := h
  refine op_ne pins s σ H _ _ v u Q I rx ry ⟨rfl, ?_⟩
  rw [T_eq]; exact q
/-- a >= b -/
def rGeT : R2 := fun x y H Q => ∃ a b, x = T a ∧ y = T b ∧ Q (.bl (!decide (a < b))) H
theorem op_geT : OpR X (compareOp .GtE) rGeT := by
  intro pins s σ H x y v u Q I rx ry h
  obtain ⟨a, b, rfl, rfl, q⟩ := h
  exact op_ge_str pins s σ H _ _ v u Q I rx ry ⟨_, _, rfl, rfl, q⟩
def rLtT : R2 := fun x y H Q => ∃ a b, x = T a ∧ y = T b ∧ Q (.bl (decide (a < b))) H
theorem op_ltT : OpR X (compareOp .Lt) rLtT := by
  intro pins s σ H x y v u Q I rx ry h
  obtain ⟨a, b, rfl, rfl, q⟩ := h
  exact op_lt_str pins s σ H _ _ v u Q I rx ry ⟨_, _, rfl, rfl, q⟩
def rGtT : R2 := fun x y H Q => ∃ a b, x = T a ∧ y = T b ∧ Q (.bl (decide (b < a))) H
theorem op_gtT : OpR X (compareOp .Gt) rGtT := by
  intro pins s σ H x y v u Q I rx ry h
  obtain ⟨a, b, rfl, rfl, q⟩ := h
  exact op_gt_str pins s σ H _ _ v u Q I rx ry ⟨_, _, rfl, rfl, q⟩
/-- one letter in a text -/
def rInT (neg : Bool) : R2 := fun x y H Q => ∃ c l, x = T [c] ∧ y = T l ∧ Q (.bl (if neg then !decide (c ∈ l) else decide (c ∈ l))) H
theorem op_inT : OpR X (compareOp .In) (rInT false) := by
  intro pins s σ H x y v u Q I rx ry h
  obtain ⟨c, l, rfl, rfl, q⟩ := h
  exact op_in_sign pins s σ H _ _ v u Q I rx ry ⟨c, tx l, rfl, rfl, q⟩
theorem op_ninT : OpR X (compareOp .NotIn) (rInT true) := by
  intro pins s σ H x y v u Q I rx ry h
  obtain ⟨c, l, rfl, rfl, q⟩ := h
  exact op_notIn_sign pins s σ H _ _ v u Q I rx ry ⟨c, tx l, rfl, rfl, q⟩
/-- len -/
def rLenT : List V → Hp → VK → Prop := fun vs H Q => ∃ l, vs = [T l] ∧ l.length ≤ 1000000 ∧ Q (.int l.length) H
theorem call_lenT : CallR X (.builtin "len") rLenT := by
  intro pins s σ H xs us Q I r h
  obtain ⟨l, rfl, hz, q⟩ := h
  refine call_len_str pins s σ H _ us Q I r ⟨tx l, rfl, by rw [tx_len]; exact line_ok hz, ?_⟩
  rw [tx_len]; exact q
/-- t[i] -/
def rIxT' : R2 := fun x y H Q => ∃ l i c, x = T l ∧ y = .int i ∧ l.length ≤ 1000000 ∧ atI l i = some c ∧ Q (T [c]) H
theorem ix_txt : IxR X rIxT' := by
  intro b' e' pins s σ H x y v u Q I rx ry h hs
  obtain ⟨l, i, c, rfl, rfl, hz, ha, q⟩ := h
  exact ix_str b' e' pins s σ H _ _ v u Q I rx ry ⟨tx l, i, c, rfl, rfl, by rw [tx_len]; exact line_ok hz, ha, q⟩ hs
/-- t[i:j] -/
def cutL (l : List Nat) (lo hi : Option Int) : List Nat := (l.drop (HT.sIx l.length 0 lo)).take (HT.sIx l.length l.length hi - HT.sIx l.length 0 lo)
def rSlT' : V → Option Int → Option Int → Hp → VK → Prop := fun x lo hi H Q => ∃ l, x = T l ∧ l.length ≤ 1000000 ∧ Q (T (cutL l lo hi)) H
theorem sl_txt : SlR X rSlT' := by
  intro pins s σ H x v vl vu lo hi sl Q I rx hs pl pu h
  obtain ⟨l, rfl, hz, q⟩ := h
  refine sl_str pins s σ H _ v vl vu lo hi sl Q I rx hs pl pu ⟨tx l, rfl, by rw [tx_len]; exact line_ok hz, ?_⟩
  have e : cutS (tx l) lo hi = tx (cutL l lo hi) := by
    unfold cutS cutL
    simp [tx, Str.length]
  rw [e]; exact q
end

theorem cut_to (l : List Nat) (n : Nat) : cutL l none (some (n : Int)) = l.take n := by
  unfold cutL
  rw [HT.sIx_none, HT.sIx_nat, List.drop_zero, Nat.sub_zero]
  by_cases h : n ≤ l.length
  · rw [Nat.min_eq_left h]
  · rw [Nat.min_eq_right (by omega), List.take_of_length_le (Nat.le_refl _), List.take_of_length_le (by omega)]
theorem cut_from (l : List Nat) (n : Nat) : cutL l (some (n : Int)) none = l.drop n := by
  unfold cutL
  rw [HT.sIx_none, HT.sIx_nat]
  by_cases h : n ≤ l.length
  · rw [Nat.min_eq_left h, List.take_of_length_le (by rw [List.length_drop]; omega)]
  · rw [Nat.min_eq_right (by omega), List.drop_eq_nil_of_le (Nat.le_refl _), List.drop_eq_nil_of_le (by omega), List.take_nil]
theorem cut_mid (l : List Nat) (a b : Nat) : cutL l (some (a : Int)) (some (b : Int)) = (l.drop a).take (b - a) := by
  unfold cutL
  rw [HT.sIx_nat, HT.sIx_nat]
  by_cases h : a ≤ l.length
  · rw [Nat.min_eq_left h]
    by_cases h2 : b ≤ l.length
    · rw [Nat.min_eq_left h2]
    · rw [Nat.min_eq_right (by omega), List.take_of_length_le (by rw [List.length_drop]; omega), List.take_of_length_le (by rw [List.length_drop]; omega)]
  · have e : min a l.length = l.length := Nat.min_eq_right (by omega)
    rw [e, List.drop_eq_nil_of_le (Nat.le_refl _), List.drop_eq_nil_of_le (show l.length ≤ a by omega), List.take_nil, List.take_nil]

/-! ### the first place of a letter -/
theorem occ_stays (s sub : Str) (hi : Nat) : ∀ (l : List Nat) (st : Array Nat × Nat), ¬ st.1.size < 1 →
    (forIn l st (StrLaws.occBody s sub hi 1)).run = st
  | [], st, _ => rfl
  | a :: l, st, h => by
    rw [List.forIn_cons]
    unfold StrLaws.occBody
    rw [if_neg (fun z => h z.1.1.1)]
    exact occ_stays s sub hi l st h
theorem occ_scan (s sub : Str) (hi : Nat) : ∀ (n lo free : Nat), free ≤ lo →
    (forIn (List.range' lo n) ((#[] : Array Nat), free) (StrLaws.occBody s sub hi 1)).run.1 = match (List.range' lo n).find? (fun i => decide (i + sub.length ≤ hi) && subAt s sub i) with | some k => #[k] | none => #[]
  | 0, _, _, _ => rfl
  | n + 1, lo, free, h => by
    rw [List.range'_succ, List.forIn_cons]
    by_cases hc : lo + sub.length ≤ hi ∧ subAt s sub lo = true
    · have e : StrLaws.occBody s sub hi 1 lo ((#[] : Array Nat), free) = pure (ForInStep.yield ((#[] : Array Nat).push lo, lo + sub.length)) := by
        unfold StrLaws.occBody
        exact if_pos ⟨⟨⟨by simp, h⟩, hc.1⟩, hc.2⟩
      rw [e]
      have e2 : (List.find? (fun i => decide (i + sub.length ≤ hi) && subAt s sub i) (lo :: List.range' (lo + 1) n)) = some lo := by
        rw [List.find?_cons_of_pos]
        simp [hc.1, hc.2]
      rw [e2]
      show ((forIn (List.range' (lo + 1) n) ((#[] : Array Nat).push lo, lo + sub.length) (StrLaws.occBody s sub hi 1)).run).1 = #[lo]
      rw [occ_stays s sub hi _ _ (by simp)]
      rfl
    · have e : StrLaws.occBody s sub hi 1 lo ((#[] : Array Nat), free) = pure (ForInStep.yield ((#[] : Array Nat), free)) := by
        unfold StrLaws.occBody
        exact if_neg fun z => hc ⟨z.1.2, z.2⟩
      rw [e]
      have e2 : (List.find? (fun i => decide (i + sub.length ≤ hi) && subAt s sub i) (lo :: List.range' (lo + 1) n)) = List.find? (fun i => decide (i + sub.length ≤ hi) && subAt s sub i) (List.range' (lo + 1) n) := by
        rw [List.find?_cons_of_neg]
        intro z
        rw [Bool.and_eq_true, decide_eq_true_eq] at z
        exact hc z
      rw [e2]
      exact occ_scan s sub hi n (lo + 1) free (by omega)
theorem sub_at (l : List Nat) (c i : Nat) : (i + (tx [c]).length ≤ (tx l).length ∧ subAt (tx l) (tx [c]) i = true) ↔ l[i]? = some c := by
  unfold subAt
  rw [tx_len, tx_len]
  show (i + 1 ≤ l.length ∧ (l.toArray.extract i (i + 1) == #[c]) = true) ↔ _
  have e : l.toArray.extract i (i + 1) = ((l.drop i).take 1).toArray := by simp
  rw [e]
  constructor
  · rintro ⟨h1, h2⟩
    have h3 := eq_of_beq h2
    have h4 : (l.drop i).take 1 = [c] := by
      have := congrArg Array.toList h3
      simpa using this
    have h5 : i < l.length := by omega
    rw [List.drop_eq_getElem_cons h5] at h4
    have h6 : [l[i]] = [c] := h4
    injection h6 with h6
    rw [List.getElem?_eq_getElem h5, h6]
  · intro h
    obtain ⟨h5, h6⟩ := List.getElem?_eq_some_iff.mp h
    refine ⟨by omega, ?_⟩
    rw [List.drop_eq_getElem_cons h5, h6]
    simp
/-- where c stands first from i on: -1 if nowhere -/
def FirstAt (l : List Nat) (c i : Nat) (r : Int) : Prop :=
  (r = -1 ∧ ∀ k, i ≤ k → l[k]? ≠ some c) ∨ ∃ k : Nat, r = (k : Int) ∧ i ≤ k ∧ l[k]? = some c ∧ ∀ j, i ≤ j → j < k → l[j]? ≠ some c
theorem find_first (l : List Nat) (c i : Nat) : FirstAt l c i (Txt.find3 (tx l) (tx [c]) (i : Int)) := by
  unfold Txt.find3
  have ef : PySem.fromIndex (tx l).length (i : Int) = i := by
    unfold PySem.fromIndex
    rw [if_neg (by omega)]
    omega
  rw [ef, StrLaws.occ_eq, occ_scan _ _ _ _ _ _ (Nat.le_refl i)]
  cases hf : (List.range' i ((tx l).length + 1 - i)).find? (fun i => decide (i + (tx [c]).length ≤ (tx l).length) && subAt (tx l) (tx [c]) i) with
  | none =>
    refine Or.inl ⟨rfl, fun k hk e => ?_⟩
    have h := List.find?_eq_none.mp hf k (by
      rw [List.mem_range'_1]
      obtain ⟨h5, _⟩ := List.getElem?_eq_some_iff.mp e
      rw [tx_len]
      omega)
    rw [Bool.and_eq_true, decide_eq_true_eq] at h
    exact h ((sub_at l c k).mpr e)
  | some k =>
    refine Or.inr ⟨k, rfl, ?_, ?_, ?_⟩
    · have h := List.mem_of_find?_eq_some hf
      rw [List.mem_range'_1] at h
      exact h.1
    · have h := List.find?_some hf
      rw [Bool.and_eq_true, decide_eq_true_eq] at h
      exact (sub_at l c k).mp h
    · intro j h1 h2 e
      obtain ⟨as, bs, e1, e2⟩ := (List.find?_eq_some_iff_append.mp hf).2
      have hmem : j ∈ as := by
        have hsub : ∀ (n lo : Nat) (as bs : List Nat), List.range' lo n = as ++ k :: bs → lo ≤ j → j < k → j ∈ as := by
          intro n
          induction n with
          | zero => intro lo as bs e; cases as <;> simp at e
          | succ n ih =>
            intro lo as bs e hl hk
            rw [List.range'_succ] at e
            cases as with
            | nil =>
              rw [List.nil_append] at e
              injection e with e3 e4
              omega
            | cons a as =>
              rw [List.cons_append] at e
              injection e with e3 e4
              by_cases hj : j = a
              · rw [hj]; exact List.mem_cons_self
              · exact List.mem_cons_of_mem _ (ih (lo + 1) as bs e4 (by omega) hk)
        exact hsub _ _ as bs e1 h1 h2
      have h := e2 j hmem
      have z := (sub_at l c j).mpr e
      rw [decide_eq_true z.1, z.2] at h
      cases h

section
variable {X : Cx}
def rFindT : V → List V → Hp → VK → Prop := fun x xs H Q => ∃ (l : List Nat) (c i : Nat), x = T l ∧ xs = [T [c], .int (i : Int)] ∧ ∀ r : Int, FirstAt l c i r → Q (.int r) H
theorem mt_findT : MtR X "str.find" rFindT := by
  intro pins s σ H x xs v us Q I rx rs h
  obtain ⟨l, c, i, rfl, rfl, q⟩ := h
  exact mt_find3 pins s σ H _ _ v us Q I rx rs ⟨tx l, tx [c], (i : Int), rfl, rfl, q _ (find_first l c i)⟩
/-- t.strip(signs): empty exactly if all signs are of these -/
def rStripT : V → List V → Hp → VK → Prop := fun x xs H Q => ∃ a b, x = T a ∧ xs = [T b] ∧ a.length ≤ 1000000 ∧ ∀ r, (r = [] ↔ ∀ c ∈ a, c ∈ b) → Q (T r) H
theorem strip_nil (a b : List Nat) : TL.tl (Txt.stripChars (tx a) (tx b)) = [] ↔ ∀ c ∈ a, c ∈ b := by
  unfold Txt.stripChars
  rw [PyProof.Rows.stripBy_eq, TL.tl_strSub]
  have e1 : stripLo (tx b).cps.contains true (tx a) = (a.takeWhile (fun c => decide (c ∈ b))).length := by
    unfold stripLo
    rw [if_pos rfl]
    congr 2
    funext c
    simp [tx]
  have gen : ∀ (p : Nat → Bool) (a : List Nat), (a.takeWhile p).length = a.length ↔ ∀ c ∈ a, p c = true := by
    intro p a
    induction a with
    | nil => simp
    | cons x r ih =>
      rw [List.takeWhile_cons]
      by_cases hp : p x = true
      · rw [if_pos hp, List.length_cons, List.length_cons]
        constructor
        · intro h c hc
          rcases List.mem_cons.mp hc with e | e
          · rw [e]; exact hp
          · exact ih.mp (by omega) c e
        · intro h
          have := ih.mpr fun c hc => h c (List.mem_cons_of_mem _ hc)
          omega
      · rw [if_neg hp]
        constructor
        · intro h; simp at h
        · intro h; exact absurd (h x List.mem_cons_self) hp
  have gen2 : ∀ (p : Nat → Bool) (l : List Nat), (l.takeWhile p).length ≤ l.length := fun p l => by
    have := (List.takeWhile_sublist (l := l) p).length_le
    exact this
  rw [e1]
  generalize hlo : (a.takeWhile (fun c => decide (c ∈ b))).length = lo
  have hle : lo ≤ a.length := by rw [← hlo]; exact gen2 _ a
  have e2 : stripHi (tx b).cps.contains true (tx a) lo = a.length - ((a.drop lo).reverse.takeWhile (fun c => decide (c ∈ b))).length := by
    unfold stripHi
    rw [if_pos rfl, tx_len]
    congr 3
    funext c
    simp [tx]
  rw [e2]
  show List.take _ (a.drop lo) = [] ↔ _
  have hall := gen (fun c => decide (c ∈ b)) a
  rw [hlo] at hall
  by_cases hl : lo = a.length
  · have : a.drop lo = [] := List.drop_eq_nil_of_le (by omega)
    rw [this, List.take_nil]
    have h2 := hall.mp hl
    simp only [decide_eq_true_eq] at h2
    exact ⟨fun _ => h2, fun _ => rfl⟩
  · have hlt : lo < a.length := by omega
    have hn : ¬ ∀ c ∈ a, c ∈ b := fun z => hl (hall.mpr fun c hc => decide_eq_true (z c hc))
    refine ⟨fun z => ?_, fun z => absurd z hn⟩
    -- the sign at lo is none of these: the cut from behind stops ahead of it
    exfalso
    have hat : decide (a[lo] ∈ b) = false := by
      rcases PyProof.Rows.takeWhile_stop (fun c => decide (c ∈ b)) 0 a with h | h
      · rw [hlo] at h; exact absurd h hl
      · rw [hlo] at h
        simp only [List.getD_eq_getElem?_getD, List.getElem?_eq_getElem hlt, Option.getD_some] at h
        exact h
    have hrev : ((a.drop lo).reverse.takeWhile (fun c => decide (c ∈ b))).length < (a.drop lo).length := by
      have h1 := gen2 (fun c => decide (c ∈ b)) (a.drop lo).reverse
      rw [List.length_reverse] at h1
      rcases Nat.lt_or_ge ((a.drop lo).reverse.takeWhile (fun c => decide (c ∈ b))).length (a.drop lo).length with h | h
      · exact h
      · have h3 := (gen (fun c => decide (c ∈ b)) (a.drop lo).reverse).mp (by rw [List.length_reverse]; omega) a[lo] (by
          rw [List.mem_reverse, List.drop_eq_getElem_cons hlt]
          exact List.mem_cons_self)
        rw [hat] at h3
        cases h3
    have h4 := congrArg List.length z
    rw [List.length_take, List.length_drop] at h4
    rw [List.length_drop] at hrev
    simp only [List.length_nil] at h4
    omega
theorem mt_stripT : MtR X "str.strip" rStripT := by
  intro pins s σ H x xs v us Q I rx rs h
  obtain ⟨a, b, rfl, rfl, hz, q⟩ := h
  refine mt_stripChars pins s σ H _ _ v us Q I rx rs ⟨tx a, tx b, rfl, rfl, by rw [tx_len]; exact line_ok hz, ?_⟩
  have e : Q (V.str (tx (TL.tl (Txt.stripChars (tx a) (tx b))))) H := q (TL.tl (Txt.stripChars (tx a) (tx b))) (strip_nil a b)
  rw [tx_tl] at e
  exact e
end
end Sk

set_option Elab.async false
set_option linter.all false
set_option maxRecDepth 100000
set_option maxHeartbeats 4000000
/-! Sk: more rules over texts: join, *, list(t), sorted, a text walked; powers of great numbers. -/
namespace Sk
open PySem PySem.Spec PyProof.Rows L2
section
variable {X : Cx}
/-- sep.join(list of texts) -/
def rJoinT (K : PySem.W.Frag) : V → List V → Hp → VK → Prop := fun x xs H Q => ∃ (sep : List Nat) (p : Addr) (ls : List (List Nat)), x = T sep ∧ xs = [.ref p] ∧ SqL K H p (ls.map T) ∧
  (ls.map (·.length)).sum + ls.length * sep.length ≤ 1000000 ∧ Q (T (TL.joinL sep ls)) H
theorem map_T (ls : List (List Nat)) : ls.map T = (ls.map tx).map V.str := by
  rw [List.map_map]
  rfl
theorem mt_joinT : MtR X "str.join" (rJoinT X.K) := by
  intro pins s σ H x xs v us Q I rx rs h
  obtain ⟨sep, p, ls, rfl, rfl, hs, hz, q⟩ := h
  have e1 : ((ls.map tx).map (·.length)) = ls.map (·.length) := by
    rw [List.map_map]
    exact List.map_congr_left fun l _ => tx_len l
  refine mt_join pins s σ H _ _ v us Q I rx rs ⟨tx sep, p, ls.map tx, rfl, rfl, .inl (by rw [← map_T]; exact hs), ?_, ?_⟩
  · rw [e1, List.length_map, tx_len]
    omega
  · have e2 : Txt.join (tx sep) (ls.map tx) = tx (TL.joinL sep ls) := by
      rw [TL.join_eq]
      apply TL.ext_tl
      rw [TL.tl_join, List.map_map]
      show TL.joinL sep _ = TL.joinL sep ls
      congr 1
      exact (List.map_congr_left fun l _ => tl_tx l).trans (List.map_id ls)
    rw [e2]
    exact q
theorem joinL_nil : ∀ ls : List (List Nat), TL.joinL [] ls = ls.flatten
  | [] => rfl
  | [p] => by simp [TL.joinL]
  | p :: q :: r => by
    show p ++ ([] ++ TL.joinL [] (q :: r)) = p ++ (q :: r).flatten
    rw [joinL_nil (q :: r), List.nil_append]
/-- t * n -/
def rMulT : R2 := fun x y H Q => ∃ (l : List Nat) (n : Nat), x = T l ∧ y = .int (n : Int) ∧ n ≤ 1000000 ∧ l.length * n ≤ 1000000 ∧ Q (T (List.replicate n l).flatten) H
theorem rep_tl (a : Array Nat) : ∀ (n : Nat) (acc : Array Nat), ((List.replicate n a).foldl (· ++ ·) acc).toList = acc.toList ++ (List.replicate n a.toList).flatten
  | 0, acc => by simp
  | n + 1, acc => by
    rw [List.replicate_succ, List.foldl_cons, rep_tl a n, List.replicate_succ, List.flatten_cons]
    simp
theorem op_mulT : OpR X (binaryOp .Mult) rMulT := by
  intro pins s σ H x y v u Q I rx ry h
  obtain ⟨l, n, rfl, rfl, hn, hz, q⟩ := h
  obtain ⟨t, rfl⟩ := rx
  obtain ⟨t', rfl⟩ := ry
  refine PySem.P.mul_str ?_ ?_ ?_ ?_
  · rw [decide_eq_false (show ¬ ((n : Int) < -(2 ^ 63)) by omega), decide_eq_false (show ¬ ((n : Int) ≥ 2 ^ 63) by omega)]
    rfl
  · intro h1 _ hc
    rw [tx_len] at hc
    have h2 : (0 : Int) < (n : Int) := by omega
    have h3 : ((l.length : Int) * (n : Int)) ≤ 1000000 := by
      have h5 := Int.ofNat_le.mpr hz
      rw [Int.natCast_mul] at h5
      exact h5
    have h4 : ((2 : Int) ^ 63 - 1) / (n : Int) ≥ (l.length : Int) := by
      rw [ge_iff_le, Int.le_ediv_iff_mul_le h2]
      omega
    omega
  · intro _ _
    rw [tx_len, Int.toNat_natCast]
    unfold PySem.Builtin.Str.tooLong
    have h6 := line_ok hz
    simp only [decide_eq_false_iff_not]
    omega
  · have fin : ∀ (k m : Nat), EP X pins σ Q (.str (tx (List.replicate n l).flatten) k) { s with toks := m } := fun k m => ⟨T (List.replicate n l).flatten, H, I.tok m, ⟨k, rfl⟩, q⟩
    by_cases h1 : (n : Int) < 1
    · rw [if_pos h1]
      have : n = 0 := by omega
      subst this
      exact ⟨by decide, fin _ _⟩
    · rw [if_neg h1]
      by_cases h2 : ((n : Int) == 1 || (tx l).length == 0) = true
      · rw [if_pos h2]
        have e : (List.replicate n l).flatten = l := by
          rw [Bool.or_eq_true] at h2
          rcases h2 with h2 | h2
          · have : n = 1 := by
              have := eq_of_beq h2
              omega
            subst this
            simp
          · have h3 := eq_of_beq h2
            rw [tx_len] at h3
            have : l = [] := List.length_eq_zero_iff.mp h3
            subst this
            simp
        have z := fin t s.toks
        rw [e] at z
        exact z
      · rw [if_neg h2, Int.toNat_natCast]
        have e : (⟨(List.replicate n (tx l).cps).foldl (· ++ ·) #[]⟩ : Str) = tx (List.replicate n l).flatten := by
          apply TL.ext_tl
          show ((List.replicate n (tx l).cps).foldl (· ++ ·) #[]).toList = _
          rw [rep_tl]
          rfl
        refine ⟨?_, ?_⟩
        · rw [e, tx_len, List.length_flatten, List.map_replicate, List.sum_replicate_nat]
          exact line_ok (by rw [Nat.mul_comm]; exact hz)
        · rw [e]
          exact fin _ _
/-- list(t) -/
def rListT : List V → Hp → VK → Prop := fun vs H Q => ∃ l : List Nat, vs = [T l] ∧ l.length ≤ 1000000 ∧ ∀ p, H p = none → Q (.ref p) (upd H p (.lst (l.map fun c => T [c])))
theorem items_signs (l : List Nat) : ∀ (acc : List Value), acc.length = l.length → (∀ i : Nat, ∀ v, acc[i]? = some v → ∃ c t, l[i]? = some c ∧ v = .str ⟨#[c]⟩ t) → Vals (l.map fun c => T [c]) acc := by
  induction l with
  | nil =>
    intro acc h _
    have : acc = [] := List.length_eq_zero_iff.mp h
    subst this
    exact .nil
  | cons c r ih =>
    intro acc h hx
    cases acc with
    | nil => simp at h
    | cons v vs =>
      obtain ⟨c', t, e1, e2⟩ := hx 0 v rfl
      have e3 : c = c' := Option.some.inj e1
      subst e3
      refine .cons ⟨t, e2⟩ (ih vs (by simpa using h) fun i v hv => ?_)
      exact hx (i + 1) v hv
theorem call_listT (hc : X.calm = true) : CallR X (.type "list") rListT := by
  intro pins s σ H xs us Q I r h
  obtain ⟨l, rfl, hz, q⟩ := h
  cases r with
  | cons rx rn =>
    cases rn
    obtain ⟨t, rfl⟩ := rx
    have hn : (tx l).cps.size ≤ sizeLine := by
      have := line_ok hz
      simpa [tx] using this
    refine PySem.call_list_str (I.ok.hd hc) (tx l) t (fun h' tk acc c hk hg hi => ?_) hn
    have hp : H s.heap.objs.size = none := I.hok.fresh (Nat.le_refl _)
    have hv : Vals (l.map fun c => T [c]) acc.toList := by
      refine items_signs l acc.toList ?_ fun i v hv => ?_
      · rw [Array.length_toList, hi.1]
        simp [tx]
      · obtain ⟨c', u, e1, e2⟩ := hi.2 i v (by simpa using hv)
        exact ⟨c', u, by simpa [tx] using e1, e2⟩
    have ob : ObjOk X.prog X.w (upd H s.heap.objs.size (.lst (l.map fun c => T [c]))) h' s.heap.objs.size (.lst (l.map fun c => T [c])) := by
      refine ⟨by rw [List.length_map]; exact line_ok hz, acc.toList, c, hv, ?_⟩
      rw [hg]
    exact ⟨.ref s.heap.objs.size, _, I.laid hk (Nat.le_refl _) ob, rfl, q _ hp⟩
/-- a power of great numbers -/
def rPowB : R2 := fun x y H Q => ∃ i n : Int, x = .int i ∧ y = .int n ∧ 0 ≤ n ∧ (Builtin.Int.intBits i : Int) * n ≤ 2 ^ 27 ∧ Q (.int (i ^ n.toNat)) H
theorem op_powB : OpR X (binaryOp .Pow) rPowB := by
  intro pins s σ H x y v u Q I rx ry h
  obtain ⟨i, n, rfl, rfl, h0, h1, q⟩ := h
  obtain ⟨t, rfl⟩ := rx
  obtain ⟨t', rfl⟩ := ry
  exact pow_int h0 h1 ⟨.int (i ^ n.toNat), H, I.tok _, ⟨_, rfl⟩, q⟩
/-- sorted(list of texts) -/
def rSortT (K : PySem.W.Frag) : List V → Hp → VK → Prop := fun vs H Q => ∃ (a : Addr) (ls : List (List Nat)), vs = [.ref a] ∧ SqL K H a (ls.map T) ∧ ls.length < 64 ∧
  ∀ (ms : List (List Nat)) (p : Addr), ms.Perm ls → ms.Pairwise (fun a b => ¬ b < a) → H p = none → Q (.ref p) (upd H p (.lst (ms.map T)))
theorem rising_pw : ∀ (ys : List Str) (p : Str), risingS p ys = true → (∀ y ∈ ys, ¬ TL.tl y < TL.tl p) ∧ (ys.map TL.tl).Pairwise (fun a b => ¬ b < a)
  | [], _, _ => ⟨fun y hy => (by cases hy), List.Pairwise.nil⟩
  | x :: r, p, h => by
    have h' : (!ltCps x.cps.toList p.cps.toList && risingS x r) = true := h
    rw [Bool.and_eq_true, Bool.not_eq_true', ltCps_eq, decide_eq_false_iff_not] at h'
    obtain ⟨h1, h2⟩ := h'
    obtain ⟨i1, i2⟩ := rising_pw r x h2
    refine ⟨fun y hy => ?_, ?_⟩
    · rcases List.mem_cons.mp hy with e | e
      · rw [e]; exact h1
      · have h3 := i1 y e
        have a1 : TL.tl p ≤ TL.tl x := List.not_lt.mp h1
        have a2 : TL.tl x ≤ TL.tl y := List.not_lt.mp h3
        exact List.not_lt.mpr (List.le_trans a1 a2)
    · rw [List.map_cons]
      refine List.Pairwise.cons (fun b hb => ?_) i2
      obtain ⟨y, hy, e⟩ := List.mem_map.mp hb
      subst e
      exact i1 y hy
theorem call_sortT : CallR X (.builtin "sorted") (rSortT X.K) := by
  intro pins s σ H xs us Q I r h
  obtain ⟨a, ls, rfl, hs, hz, q⟩ := h
  refine cr_sortedS pins s σ H _ us Q I r ⟨a, ls.map tx, rfl, by rw [← map_T]; exact hs, by rw [List.length_map]; exact hz, fun ys p hp hso hn => ?_⟩
  have e : ys = (ys.map TL.tl).map tx := by
    rw [List.map_map]
    exact ((List.map_congr_left fun y _ => tx_tl y).trans (List.map_id ys)).symm
  have e2 : ys.map V.str = (ys.map TL.tl).map T := by rw [map_T, ← e]
  rw [e2]
  refine q _ p ?_ ?_ hn
  · have := hp.map TL.tl
    rw [List.map_map] at this
    have e3 : List.map (TL.tl ∘ tx) ls = ls := (List.map_congr_left fun l _ => tl_tx l).trans (List.map_id ls)
    rw [e3] at this
    exact this
  · cases ys with
    | nil => exact List.Pairwise.nil
    | cons y r =>
      obtain ⟨i1, i2⟩ := rising_pw r y hso
      rw [List.map_cons]
      refine List.Pairwise.cons (fun b hb => ?_) i2
      obtain ⟨z, hz2, e4⟩ := List.mem_map.mp hb
      subst e4
      exact i1 z hz2
end
/-- a text, letter by letter -/
theorem walk_txt {l : List Nat} : Walk (Its (tx l)) l.length (fun _ => True) (fun i H v H' => H' = H ∧ ∃ c, l[i]? = some c ∧ v = T [c]) :=
  ⟨fun i _ hi _ => by show i < (tx l).cps.size; simpa [tx] using hi, fun _ _ => by show (tx l).cps.size ≤ l.length; simp [tx], fun i H v H' _ _ y => by
    obtain ⟨e, c, h1, h2⟩ := y
    exact ⟨e, c, by simpa [tx] using h1, h2⟩⟩
end Sk

set_option Elab.async false
set_option linter.all false
set_option maxRecDepth 100000
set_option maxHeartbeats 4000000
/-! Sk: what the head leaves, by names; a def's promise from its body. -/
namespace Sk
open PySem PySem.Spec PyProof.Rows L2
def dd (x : Str) (s : Stmt) : He.DefD := ⟨(x, none), x, x, defArgs s, defBody s, defScope s, [], []⟩
structure Facts (fa : List He.Fa) (fn : List He.DefD) (K : PySem.W.Frag) (mg : Str → Option Value) : Prop where
  says : He.SaysD fa fn K
  at_ : ∃ h : Heap, K.In h ∧ h.Ns mainGlobals mg
section
variable {fa : List He.Fa} {fn : List He.DefD} {P : Program} {w : World} {K : PySem.W.Frag} {mg : Str → Option Value} {base : Heap}
theorem Facts.free (F : Facts fa fn K mg) {x : Str} (i : Nat) (h : fa[i]? = some (.free x) := by rfl) : mg x = none := by
  obtain ⟨h0, X, G⟩ := F.at_
  exact He.free_ok X G (F.says.fact i h)
theorem Facts.glo (F : Facts fa fn K mg) {x : Str} (i : Nat) (h : fa[i]? = some (.glo x) := by rfl) : mg x = some (.ref (He.ga K x)) := by
  obtain ⟨h0, X, G⟩ := F.at_
  exact He.glo_ok X G (F.says.fact i h)
theorem Facts.str (F : Facts fa fn K mg) {x z : Str} (i : Nat) (h : fa[i]? = some (.str x z) := by rfl) : ∃ t, mg x = some (.str z t) := by
  obtain ⟨h0, X, G⟩ := F.at_
  exact He.str_ok X G (F.says.fact i h)
theorem Facts.int (F : Facts fa fn K mg) {x : Str} {n : Int} (i : Nat) (h : fa[i]? = some (.int x n) := by rfl) : ∃ t, mg x = some (.int n t) := by
  obtain ⟨h0, X, G⟩ := F.at_
  exact He.int_ok X G (F.says.fact i h)
/-- a constant of the module -/
theorem pe_gtxt {X : Cx} {x z : Str} {t : Tok} {pos : Pos} (l : List Nat) (hm : X.mg x = some (.str z t)) (hz : z = tx l := by rfl) (hg : Gl X x := by rfl) (hd : (x == ("__debug__" : Str)) = false := by decide) : PE X (.Name x pos) (tC (T l)) := by
  subst hz
  exact pe_glob hg hm ⟨t, rfl⟩ hd
theorem pe_gint {X : Cx} {x : Str} {n : Int} {t : Tok} {pos : Pos} (hm : X.mg x = some (.int n t)) (hg : Gl X x := by rfl) (hd : (x == ("__debug__" : Str)) = false := by decide) : PE X (.Name x pos) (tC (.int n)) :=
  pe_glob hg hm ⟨t, rfl⟩ hd
/-- how the parameters of a def without defaults are bound -/
def BindsAs (x : Str) (s : Stmt) (ps : List Str) : Prop := ∀ (kV doc pm : Value) (an : Option Addr) (cdv ct : Value) (us : List Value), us.length = ps.length →
  bindArgs (PySem.W.fnOf x x (defArgs s) (defBody s) (defScope s) .none kV doc pm an cdv ct) ⟨us, []⟩ = pure (ps.zip us)
/-- what a body must do -/
def Body (P : Program) (w : World) (K : PySem.W.Frag) (mg : Str → Option Value) (base : Heap) (k : Nat) (x : Str) (s : Stmt) (N ps : List Str) (sp : Sp) : Prop :=
  ∀ (f : Addr) (cdv : Value) (A : Around) (outer : List Env) (t0 : Shared) (H : Hp) (vs : List V) (Q : VK) (E : XK), A.guards = some [] → Room k (A.deeper (envOfC x (defScope s) t0.heap.objs.size f cdv)) → sp vs H Q E →
    ∃ t, PSs (cxOf CX0 P w K mg base N x (defScope s) f cdv A outer t0 H E).nox (defBody s) t ∧ t { nx := fun _ H' => Q .non H', rt := Q } (start N vs) H
theorem Facts.fnG (F : Facts fa fn K mg) (i : Nat) {x : Str} {s : Stmt} {N ps : List Str} {k : Nat} {sp : Sp} (S : FnScope N ps (defScope s)) (cnt : ∀ vs H Q E, sp vs H Q E → vs.length = ps.length)
    (bd : BindsAs x s ps) (hb : Body P w K mg base k x s N ps sp) (hd : fn[i]? = some (dd x s) := by rfl) :
    ∃ fd, FnG P w K mg base (k + 1) (He.fAd K (x, none)) fd ps sp ∧ Binds K fd ps [] ∧ PySem.W.keepIn K (.ref (He.fAd K (x, none))) = true ∧ ∀ (t0 : Shared) (us : List Value), us.length = ps.length → BindsTo t0 fd ⟨us, []⟩ (ps.zip us) := by
  obtain ⟨fd, D⟩ := F.says.def_ i hd
  have D' : FunD K x x (defArgs s) (defBody s) (defScope s) [] [] (He.fAd K (x, none)) fd := D
  have b1 := FunD.bindsN (ps := ps) D' bd
  have b2 := FunD.bindsA (ps := ps) D' bd
  obtain ⟨oc, od, dV, kV, doc, pm, an, cdv, ct, osl, e, lk, hcd, _, _⟩ := D'.ex
  subst e
  exact ⟨_, fnG_of lk hcd S cnt (fun A outer t0 H vs Q E hg hr hs => by
    obtain ⟨t, h1, h2⟩ := hb _ cdv A outer t0 H vs Q E hg hr hs
    exact ⟨t, h1.nox, h2⟩), b1, D'.kp, b2⟩
theorem Facts.callee (F : Facts fa fn K mg) (i j : Nat) {x : Str} {s : Stmt} {N ps : List Str} {k : Nat} {sp : Sp} (S : FnScope N ps (defScope s)) (cnt : ∀ vs H Q E, sp vs H Q E → vs.length = ps.length)
    (bd : BindsAs x s ps) (hb : Body P w K mg base k x s N ps sp) (hd : fn[i]? = some (dd x s) := by rfl) (hf : fa[j]? = some (.glo x) := by rfl) : Callee P w K mg base (k + 1) x ps sp := by
  obtain ⟨fd, G, b, kp, _⟩ := F.fnG i S cnt bd hb hd
  exact ⟨_, fd, G, b, kp, F.glo j hf⟩
end
end Sk

set_option Elab.async false
set_option linter.all false
set_option maxRecDepth 100000
set_option maxHeartbeats 4000000
/-! Sk: the rules whose reading names the written part, the part given by hand; t[::-1]. -/
namespace Sk
open PySem PySem.Spec PyProof.Rows L2
section
variable {X : Cx} (K : PySem.W.Frag)
theorem k_ixl (h : X.K = K := by rfl) : IxR X (rIxL K) := by subst h; exact ix_list
theorem k_ixt (h : X.K = K := by rfl) : IxR X (rIxT K) := by subst h; exact ix_tup
/-- len of a list -/
def rLenL (K : PySem.W.Frag) : List V → Hp → VK → Prop := fun vs H Q => ∃ (p : Addr) (ys : List V), vs = [V.ref p] ∧ SqL K H p ys ∧ Q (.int (ys.length : Int)) H
theorem k_len (h : X.K = K := by rfl) : CallR X (.builtin "len") (rLenL K) := by
  subst h
  intro pins s σ H xs us Q I r q
  obtain ⟨p, ys, e, hs, q⟩ := q
  exact call_len_seq pins s σ H xs us Q I r ⟨p, ys, e, .inl hs, q⟩
def rLenU (K : PySem.W.Frag) : List V → Hp → VK → Prop := fun vs H Q => ∃ (p : Addr) (ys : List V), vs = [V.ref p] ∧ SqT K H p ys ∧ Q (.int (ys.length : Int)) H
theorem k_lent (h : X.K = K := by rfl) : CallR X (.builtin "len") (rLenU K) := by
  subst h
  intro pins s σ H xs us Q I r q
  obtain ⟨p, ys, e, hs, q⟩ := q
  exact call_len_seq pins s σ H xs us Q I r ⟨p, ys, e, .inr hs, q⟩
theorem k_eq (hu : X.A.units + 64 < cLine) (h : X.K = K := by rfl) : OpR X (compareOp .Eq) (rEqD K) := by subst h; exact op_eqD hu
theorem k_ne (hu : X.A.units + 64 < cLine) (h : X.K = K := by rfl) : OpR X (compareOp .NotEq) (rNeD K) := by subst h; exact op_neD hu
theorem k_isi (h : X.K = K := by rfl) : CallR X (.builtin "isinstance") (rIsi K) := by subst h; exact call_isi
theorem k_sum (h : X.K = K := by rfl) (hc : X.calm = true := by rfl) : CallR X (.builtin "sum") (rSum K) := by subst h; exact cr_sum hc
theorem k_join (h : X.K = K := by rfl) : MtR X "str.join" (rJoinT K) := by subst h; exact mt_joinT
theorem k_sort (h : X.K = K := by rfl) : CallR X (.builtin "sorted") (rSortT K) := by subst h; exact call_sortT
theorem k_repr (hg : X.A.guards = some []) (hu : X.A.units + 64 < cLine) (h : X.K = K := by rfl) : CallR X (.builtin "repr") (rRepr K) := by subst h; exact call_repr hg hu
theorem k_sll (h : X.K = K := by rfl) : SlR X (rSlL K) := by subst h; exact sl_list
theorem k_pil {tg l : Expr} {tl : TE} (hl : PE X l tl) (h : X.K = K := by rfl) : PI X tg l (iList K tl) := by subst h; exact pi_list hl
theorem k_tup {es : List Expr} {k : Nat} {pos : Pos} {t : TGs} {n : Nat} (hc : X.calm = true) (hp : PGs X es t) (h : X.K = K := by rfl)
    (hn : (assignEach es X.env).length = n := by rfl) (hst : (assignEach es X.env).findIdx? (·.1) = none := by rfl) : PG X (.Tuple es k pos) (gTup K n t) := by subst h; exact pg_tup hc hp hn hst
theorem k_bm {T id : String} {name : Str} {e o : Expr} {es : List Expr} {apos cpos : Pos} {t : TA} {to : TE} {r : V → List V → Hp → VK → Prop} (pa : PlainAttrs T) (slot : Slot T name id) (hty : typeOf (.builtin id) = pure (.type "method_descriptor")) (hm : MtR X id r) (ho : PE X o to) (ha : PA X (e :: es) t)
    (hK : X.K = K := by rfl) (hbase : attributeBase o name X.env (eval o X.env) = eval o X.env := by rfl)
    (hfew : ((backTo cpos (starEach (e :: es) X.env)).all (fun x => !x.1) && (backToKw cpos (keywordEach [] X.env)).all (fun x => x.1.isSome)
      && decide ((e :: es).length + ([] : List Keyword).length + (if ([] : List Keyword).isEmpty then 0 else 1) < 30)) = true := by rfl)
    (hline : (apos.endLine == cpos.line) = true := by rfl) (hs : starEach (e :: es) X.env = (false, eval e X.env) :: starEach es X.env := by rfl) (hplain : (backTo cpos (starEach es X.env)).any (·.1) = false := by rfl) :
    PE X (.Call (.Attribute o name apos) (e :: es) [] cpos) (tBM K T r to t) := by
  subst hK
  exact pe_bm pa slot hty hm ho ha hbase hfew hline hs hplain
theorem k_bm0 {T id : String} {name : Str} {o : Expr} {apos cpos : Pos} {to : TE} {r : V → List V → Hp → VK → Prop} (pa : PlainAttrs T) (slot : Slot T name id) (hty : typeOf (.builtin id) = pure (.type "method_descriptor")) (hm : MtR X id r) (ho : PE X o to)
    (hK : X.K = K := by rfl) (hbase : attributeBase o name X.env (eval o X.env) = eval o X.env := by rfl) (hline : (apos.endLine == cpos.line) = true := by rfl) :
    PE X (.Call (.Attribute o name apos) [] [] cpos) (tBM0 K T r to) := by
  subst hK
  exact pe_bm0 pa slot hty hm ho hbase hline
/-- t[::-1] -/
def tRevT (te : TE) : TE := fun σ H Q => te σ H fun x H1 => ∃ l : List Nat, x = T l ∧ l.length ≤ 1000000 ∧ Q (T l.reverse) H1
theorem rev_ix (l : List Nat) : ((Builtin.Str.strSliceIndices none none (-1) (tx l).length).filterMap ((tx l).cps[·]?)) = l.reverse := by
  have e : Builtin.Str.strSliceIndices none none (-1) (tx l).length = sliceRange (((tx l).cps.size : Int) - 1) (-1) (-1) := rfl
  rw [e, PySem.W.krv_sliceRange, PySem.W.krv_range, List.filterMap_reverse, PySem.W.krv_all]
  rfl
theorem pe_revT {e : Expr} {te : TE} {k : Nat} {p1 p2 p3 pos : Pos} (he : PE X e te) : PE X (.Subscript e (.Slice none none (some (.UnaryOp .USub (.Constant (.int 1) k p1) p2)) p3) pos) (tRevT te) := by
  constructor
  intro pins s σ H Q I h
  refine Subscript_ (thn (he.run pins s σ H _ I h) ?_)
  rintro v s1 ⟨x, H1, I1, r1, l, rfl, hz, q⟩
  obtain ⟨tk, rfl⟩ := r1
  have hst : PO X (some (.UnaryOp .USub (.Constant (.int 1) k p1) p2)) (tPart (tUn (rU fun i => .int (-i)) (tC (.int 1)))) := po_some (pe_un un_neg pe_int)
  refine wpAny_Slice (thn (po_none.run pins s1 σ H1 (fun o H2 => o = none ∧ H2 = H1) I1 ⟨rfl, rfl⟩) ?_)
  rintro vl s2 ⟨_, _, I2, pl, rfl, rfl⟩
  refine thn (po_none.run pins s2 σ _ (fun o H3 => o = none ∧ H3 = _) I2 ⟨rfl, rfl⟩) ?_
  rintro vu s3 ⟨_, _, I3, pu, rfl, rfl⟩
  refine thn (hst.run pins s3 σ _ (fun o H4 => o = some (-1) ∧ H4 = _) I3 ⟨1, rfl, -1, rfl, rfl, rfl⟩) ?_
  rintro vs s4 ⟨_, _, I4, ps, rfl, rfl⟩
  obtain ⟨a, rfl, ea⟩ := IsPart.raw pl
  obtain ⟨b, rfl, eb⟩ := IsPart.raw pu
  obtain ⟨c, rfl, ec⟩ := IsPart.raw ps
  cases c with
  | none => cases ec
  | some c =>
    have ec1 : c.1 = -1 := Option.some.inj ec
    have ea1 : a = none := by cases a with
      | none => rfl
      | some z => cases ea
    have eb1 : b = none := by cases b with
      | none => rfl
      | some z => cases eb
    subst ea1 eb1
    refine tail_any (ops := [.str (tx l) tk, .ref s4.heap.objs.size]) (typeIs_str _ _ _) (F.slot_str_getitem.lookup) ?_ (by with_unfolding_all rfl)
    refine wpAny_getItem_str_slice (l := none) (u := none) (st := some c) ⟨_, Heap.get?_push_size _ rfl, rfl, rfl⟩ (by show (c.1 == 0) = false; rw [ec1]; rfl) ?_
    have I5 : Inv X pins σ _ { s4 with heap := s4.heap.push { cls := .type "slice", data := .fields #[partValue none, partValue none, partValue (some c)] } } := I4.kept (t' := s4.toks) fun b ob q => Heap.get?_push_of_some _ q
    unfold sliceMade
    show Made.post (if (c.1 == 1 && _) = true then _ else Made.str _) _ _
    have e9 : slicePicked (tx l) none none (some c) = Builtin.Str.strSliceIndices none none c.1 (tx l).length := rfl
    rw [if_neg (by rw [ec1]; simp), e9, ec1]
    show Made.post (Made.str ⟨((Builtin.Str.strSliceIndices none none (-1) (tx l).length).filterMap ((tx l).cps[·]?)).toArray⟩) _ _
    rw [rev_ix]
    refine ⟨?_, ?_⟩
    · show (tx l.reverse).length ≤ sizeLine
      rw [tx_len, List.length_reverse]
      exact line_ok hz
    · exact ⟨T l.reverse, _, I5.tok _, ⟨_, rfl⟩, q⟩
end
end Sk

set_option Elab.async false
set_option linter.all false
set_option maxRecDepth 100000
set_option maxHeartbeats 4000000
/-! Sk: heaps that grow, the drawn list, comprehensions whose turns only read. -/
namespace Sk
open PySem PySem.Spec PyProof.Rows L2
theorem bt {p : Prop} [Decidable p] (h : p) : V.bl (decide p) = V.bl true := by rw [decide_eq_true h]
theorem bf {p : Prop} [Decidable p] (h : ¬ p) : V.bl (decide p) = V.bl false := by rw [decide_eq_false h]
theorem same_new {H : Hp} {p : Addr} {o : HO} (h : H p = none) : Same H (upd H p o) := fun b x e => by
  rw [upd_ne (ne_of_none e h)]
  exact e
theorem snew {H H' : Hp} {p : Addr} {o : HO} (s : Same H H') (h : H' p = none) : Same H (upd H' p o) := s.trans (same_new h)
theorem smut {H H' : Hp} {p : Addr} {o : HO} (s : Same H H') (h : H p = none) : Same H (upd H' p o) := fun b x e => by
  rw [upd_ne (ne_of_none e h)]
  exact s b x e
theorem ssqt {K : PySem.W.Frag} {H H' : Hp} {a : Addr} {xs : List V} (e : Same H H') (h : SqT K H a xs) : SqT K H' a xs := by
  rcases h with (h | ⟨o, h⟩) | h
  · exact .inl (.inl (e _ _ h))
  · exact .inl (.inr ⟨o, e _ _ h⟩)
  · exact .inr h
mutual
theorem Dp.same {K : PySem.W.Frag} {H H' : Hp} (s : Same H H') : ∀ (d : PyData) (v : V), Dp K H v d → Dp K H' v d
  | .none, _, h => by cases h; exact .non
  | .bool b, _, h => by cases h; exact .bl b
  | .int i, _, h => by cases h; exact .int i
  | .str x, _, h => by cases h; exact .str x
  | .list ds, _, h => by
    cases h with
    | lst a b => exact .lst (s.seq a) (DpAll.same s ds _ b)
  | .tuple ds, _, h => by
    cases h with
    | tup a b => exact .tup (ssqt s a) (DpAll.same s ds _ b)
  | .dict _, _, h => by cases h
theorem DpAll.same {K : PySem.W.Frag} {H H' : Hp} (s : Same H H') : ∀ (ds : List PyData) (vs : List V), DpAll K H vs ds → DpAll K H' vs ds
  | [], _, h => by cases h; exact .nil
  | d :: ds, _, h => by
    cases h with
    | cons a b => exact .cons (Dp.same s d _ a) (DpAll.same s ds _ b)
end
/-! ### == of a flat list and [] -/
def flat2 : V → Bool
  | .int _ | .bl _ | .non => true
  | .str x => PyData.strOk x
  | _ => false
def dV : V → PyData
  | .int i => .int i
  | .str x => .str x
  | .bl b => .bool b
  | _ => .none
theorem dp_flat {K : PySem.W.Frag} {H : Hp} {x : V} (h : flat2 x = true) : Dp K H x (dV x) ∧ (dV x).canLay0 = true ∧ (dV x).depth = 0 := by
  cases x with
  | int i => exact ⟨.int i, rfl, rfl⟩
  | bl b => exact ⟨.bl b, rfl, rfl⟩
  | non => exact ⟨.non, rfl, rfl⟩
  | str y => exact ⟨.str y, by
      show PyData.canLay0 (.str y) = true
      unfold PyData.canLay0
      exact h, rfl⟩
  | _ => cases h
theorem dpAll_flat {K : PySem.W.Frag} {H : Hp} : ∀ {xs : List V}, (∀ x ∈ xs, flat2 x = true) → DpAll K H xs (xs.map dV) ∧ PyData.canLayAll0 (xs.map dV) = true ∧ PyData.depthAll (xs.map dV) = 0
  | [], _ => ⟨.nil, rfl, rfl⟩
  | x :: xs, h => by
    obtain ⟨a1, a2, a3⟩ := dp_flat (K := K) (H := H) (h x List.mem_cons_self)
    obtain ⟨b1, b2, b3⟩ := dpAll_flat (K := K) (H := H) (xs := xs) fun y hy => h y (List.mem_cons_of_mem _ hy)
    refine ⟨.cons a1 b1, ?_, ?_⟩
    · rw [List.map_cons]
      unfold PyData.canLayAll0
      rw [a2, b2]; rfl
    · rw [List.map_cons]
      unfold PyData.depthAll
      rw [a3, b3]; rfl
theorem eqv_nil (ds : List PyData) : PyData.eqv (.list ds) (.list []) = decide (ds = []) := by
  cases ds with
  | nil => rfl
  | cons d r => rfl
theorem shaped_list {ds : List PyData} (h1 : PyData.canLayAll0 ds = true) (h2 : PyData.depthAll ds ≤ 60) : SeqAt.shaped (.list ds) = true := by
  unfold SeqAt.shaped
  rw [Bool.and_eq_true, decide_eq_true_eq]
  constructor
  · unfold PyData.canLay0; exact h1
  · unfold PyData.depth; omega
theorem map_nil_iff {xs : List V} : decide (xs.map dV = []) = decide (xs = []) := by
  cases xs <;> rfl
theorem eq_nil {K : PySem.W.Frag} {H : Hp} {Q : VK} {a b : Addr} {xs : List V} (h : SqL K H a xs) (hf : ∀ x ∈ xs, flat2 x = true) (hb : SqL K H b []) (q : Q (.bl (decide (xs = []))) H) : rEqD K (.ref a) (.ref b) H Q := by
  obtain ⟨d1, d2, d3⟩ := dpAll_flat (K := K) (H := H) hf
  refine ⟨.list (xs.map dV), .list [], .lst h d1, .lst hb .nil, shaped_list d2 (by omega), rfl, ?_⟩
  rw [eqv_nil, map_nil_iff]
  exact q
theorem ne_nil {K : PySem.W.Frag} {H : Hp} {Q : VK} {a b : Addr} {xs : List V} (h : SqL K H a xs) (hf : ∀ x ∈ xs, flat2 x = true) (hb : SqL K H b []) (q : Q (.bl (!decide (xs = []))) H) : rNeD K (.ref a) (.ref b) H Q := by
  obtain ⟨d1, d2, d3⟩ := dpAll_flat (K := K) (H := H) hf
  refine ⟨.list (xs.map dV), .list [], .lst h d1, .lst hb .nil, shaped_list d2 (by omega), rfl, ?_⟩
  rw [eqv_nil, map_nil_iff]
  exact q
/-- texts of plain signs -/
def Low (l : List Nat) : Prop := ∀ c ∈ l, c < 1114112
theorem flat_T {l : List Nat} (h : Low l) : flat2 (T l) = true := by
  show PyData.strOk (tx l) = true
  unfold PyData.strOk tx
  simp only [Array.all_eq_true', List.mem_toArray, List.all_toArray, List.all_eq_true]
  intro c hc
  simpa using h c hc
/-- a comprehension whose turns leave what stood: f tells what the i-th turn gives -/
theorem lc_pure {J : It} {n : Nat} {G : Hp → Prop} {Y : Nat → Hp → V → Hp → Prop} (w : Walk J n G Y) {g : TG} {tt : TT} {te : TE} {vs : List Nat} {σ : L2.St} {H1 : Hp} {D : Addr} {Qd : Hp → Prop} (f : Nat → Option V)
    (hD : H1 D = none) (hG : ∀ H, Same H1 H → G H) (hn : n ≤ 1000000)
    (turn : ∀ (i : Nat) (x : V) (H H' : Hp) (Qk : V → Hp → Prop) (Nk : Hp → Prop), i < n → Same H1 H → Y i H x H' → (∀ y H4, f i = some y → Same H H4 → Qk y H4) → (∀ H3, f i = none → Same H H3 → Nk H3) →
      g x (wipe σ vs) H' fun σ2 H2 => wipe σ2 vs = wipe σ vs ∧ tt σ2 H2 fun b H3 => if b = true then te σ2 H3 Qk else Nk H3)
    (hd : ∀ H, Same H1 H → H D = some (.lst ((List.range n).filterMap f)) → Qd H) :
    ∃ W : Nat → Nat → Hp → Prop, (∃ m, W 0 m (upd H1 D (.lst []))) ∧ ∀ i m H, W i m H →
      (J.stop i H ∧ Qd H) ∨ (J.go i H ∧ ∃ Nx : Hp → Prop, (∀ H', Nx H' → ∃ m', m' < m ∧ W (i + 1) m' H') ∧ ∀ x H', J.yld i H x H' → g x (wipe σ vs) H' fun σ2 H2 => wipe σ2 vs = wipe σ vs ∧ tt σ2 H2 fun b H3 =>
        if b = true then te σ2 H3 fun y H4 => ∃ acc, H4 D = some (.lst acc) ∧ acc.length < sizeLine ∧ Nx (upd H4 D (.lst (acc ++ [y]))) else Nx H3) := by
  refine lc_it w (fun i H => Same H1 H ∧ H D = some (.lst ((List.range i).filterMap f))) ⟨same_new hD, upd_same⟩ (fun i H _ p => hG H p.1) (fun i x H H' hi p y => ?_) (fun H p => hd H p.1 p.2)
  obtain ⟨s, e⟩ := p
  refine turn i x H H' _ _ hi s y (fun y H4 hf s4 => ?_) (fun H3 hf s3 => ?_)
  · refine ⟨_, s4 _ _ e, ?_, smut (s.trans s4) hD, ?_⟩
    · have h1 : ((List.range i).filterMap f).length ≤ i := by
        have := List.length_filterMap_le f (List.range i)
        rw [List.length_range] at this
        exact this
      exact line_lt (by omega)
    · rw [upd_same, List.range_succ, List.filterMap_append]
      simp [hf]
  · refine ⟨s.trans s3, ?_⟩
    rw [s3 _ _ e, List.range_succ, List.filterMap_append]
    simp [hf]
/-! ### the list that numbers are drawn from -/
def Gen (n : Nat) (H : Hp) (g : Addr) : Prop := ∃ a b c : Int, H g = some (.lst [.int a, .int b, .int c]) ∧ 0 ≤ a ∧ a < 10 ^ 600 ∧ 0 ≤ b ∧ b < 2147483647 ∧ 0 ≤ c ∧ c + n ≤ 2 ^ 40
theorem Gen.less {n m : Nat} {H : Hp} {g : Addr} (h : Gen n H g) (hm : m ≤ n) : Gen m H g := by
  obtain ⟨a, b, c, h1, h2, h3, h4, h5, h6, h7⟩ := h
  exact ⟨a, b, c, h1, h2, h3, h4, h5, h6, by omega⟩
theorem Gen.same {n : Nat} {H H' : Hp} {g : Addr} (h : Gen n H g) (s : Same H H') : Gen n H' g := by
  obtain ⟨a, b, c, h1, r⟩ := h
  exact ⟨a, b, c, s _ _ h1, r⟩
theorem Gen.some {n : Nat} {H : Hp} {g : Addr} (h : Gen n H g) : ∃ o, H g = some o := by
  obtain ⟨a, b, c, h1, r⟩ := h
  exact ⟨_, h1⟩
theorem Gen.ne {n : Nat} {H : Hp} {g p : Addr} (h : Gen n H g) (hp : H p = none) : p ≠ g := by
  obtain ⟨o, e⟩ := h.some
  exact (ne_of_none e hp).symm
/-- all but the drawn list stays -/
def But (g : Addr) (H H' : Hp) : Prop := ∀ b o, b ≠ g → H b = some o → H' b = some o
theorem But.refl (g : Addr) (H : Hp) : But g H H := fun _ _ _ h => h
theorem But.trans {g : Addr} {H H1 H2 : Hp} (a : But g H H1) (b : But g H1 H2) : But g H H2 := fun c o n h => b c o n (a c o n h)
theorem But.of {g : Addr} {H H' : Hp} (s : Same H H') : But g H H' := fun b o _ h => s b o h
theorem But.new {g : Addr} {H H' : Hp} {p : Addr} {o : HO} (s : But g H H') (h : H' p = none) : But g H (upd H' p o) := s.trans (But.of (same_new h))
theorem But.mut {g : Addr} {H H' : Hp} {p : Addr} {o : HO} (s : But g H H') (h : H p = none) : But g H (upd H' p o) := fun b x n e => by
  rw [upd_ne (ne_of_none e h)]
  exact s b x n e
theorem But.gen {g : Addr} {H H' : Hp} {o : HO} (s : But g H H') : But g H (upd H' g o) := fun b x n e => by
  rw [upd_ne n]
  exact s b x n e
/-- what a call with the drawn list leaves -/
theorem But.free {g : Addr} {H H' : Hp} (s : But g H H') {p : Addr} (hp : p ≠ g) (h : H' p = none) : H p = none := by
  cases e : H p with
  | none => rfl
  | some o =>
    rw [s p o hp e] at h
    cases h
theorem But.seq {K : PySem.W.Frag} {g : Addr} {H H' : Hp} {a : Addr} {xs : List V} (e : But g H H') (n : a ≠ g) (h : SqL K H a xs) : SqL K H' a xs := by
  rcases h with (h | ⟨o, h⟩) | h
  · exact .inl (.inl (e _ _ n h))
  · exact .inl (.inr ⟨o, e _ _ n h⟩)
  · exact .inr h
end Sk

set_option Elab.async false
set_option linter.all false
set_option maxRecDepth 100000
set_option maxHeartbeats 4000000
/-! Sk: dict comprehensions over a dict's own keys; where a letter comes next. -/
namespace Sk
open PySem PySem.Spec PyProof.Rows L2
theorem yes_ {σ : L2.St} {H : Hp} {Q : Bool → Hp → Prop} (h : Q true H) : tYes σ H Q := h
/-- a dict comprehension over a walk -/
theorem dc_it {J : It} {n : Nat} {G : Hp → Prop} {Y : Nat → Hp → V → Hp → Prop} (w : Walk J n G Y) {g : TG} {tt : TT} {tk tv : TE} {vs : List Nat} {σ : L2.St} {H1 : Hp} {D : Addr} {Qd : Hp → Prop} (Pv : Nat → Hp → Prop)
    (h0 : Pv 0 (upd H1 D (.dK []))) (hG : ∀ i H, i ≤ n → Pv i H → G H)
    (hs : ∀ i x H H', i < n → Pv i H → Y i H x H' → g x (wipe σ vs) H' fun σ2 H2 => wipe σ2 vs = wipe σ vs ∧ tt σ2 H2 fun b H3 =>
      if b = true then tk σ2 H3 fun y H4 => tv σ2 H4 fun z H5 => ∃ kvs k, y = kV k ∧ H5 D = some (.dK kvs) ∧ kvs.length < sizeLine ∧ Pv (i + 1) (upd H5 D (.dK (putK kvs k z))) else Pv (i + 1) H3) (hd : ∀ H, Pv n H → Qd H) :
    ∃ W : Nat → Nat → Hp → Prop, (∃ m, W 0 m (upd H1 D (.dK []))) ∧ ∀ i m H, W i m H →
      (J.stop i H ∧ Qd H) ∨ (J.go i H ∧ ∃ Nx : Hp → Prop, (∀ H', Nx H' → ∃ m', m' < m ∧ W (i + 1) m' H') ∧ ∀ x H', J.yld i H x H' → g x (wipe σ vs) H' fun σ2 H2 => wipe σ2 vs = wipe σ vs ∧ tt σ2 H2 fun b H3 =>
        if b = true then tk σ2 H3 fun y H4 => tv σ2 H4 fun z H5 => ∃ kvs k, y = kV k ∧ H5 D = some (.dK kvs) ∧ kvs.length < sizeLine ∧ Nx (upd H5 D (.dK (putK kvs k z))) else Nx H3) := by
  refine ⟨fun i m H => m + i = n ∧ Pv i H, ⟨n, rfl, h0⟩, ?_⟩
  rintro i m H ⟨em, p⟩
  have q := hG i H (by omega) p
  by_cases hlt : i < n
  · refine .inr ⟨w.goes i H hlt q, Pv (i + 1), fun H' p' => ⟨m - 1, by omega, by omega, p'⟩, fun x H' y => hs i x H H' hlt p (w.yields i H x H' hlt q y)⟩
  · have e : i = n := by omega
    subst e
    exact .inl ⟨w.stops H q, hd H p⟩
/-- {k: f(k) for k in d}, the dict being walked under a lock -/
theorem rd_dictmap {σ : L2.St} {r j : Nat} {H : Hp} {d : Addr} {kvs : List (Key × V)} {tv : TE} {Q : VK} (f : Key → V → V) (hr : σ[r]? = some (some (.ref d))) (hd : H d = some (.dK kvs)) (hj : j < σ.length)
    (nd : (kvs.map (·.1)).Nodup) (hz : kvs.length ≤ 1000000)
    (turn : ∀ (k : Key) (v : V) (o : Obj) (H3 : Hp) (Qk : VK), (k, v) ∈ kvs → H3 d = some (.frz o (.dK kvs)) → (∀ b u, b ≠ d → H b = some u → H3 b = some u) → Qk (f k v) H3 → tv ((wipe σ [j]).set j (some (kV k))) H3 Qk)
    (q : ∀ D H', Same H H' → H D = none → H' D = some (.dK (kvs.map fun p => (p.1, f p.1 p.2))) → Q (.ref D) H') :
    tLockE (tDc (iKeys (tVar r)) (gName j) tYes (tVar j) tv [j]) σ H Q := by
  refine ⟨d, .dK kvs, hd, trivial, fun o => ?_⟩
  have lk : upd H d (.frz o (.dK kvs)) d = some (.frz o (.dK kvs)) := upd_same
  refine ⟨.ref d, hr, d, o, rfl, .inl ⟨kvs, lk, fun D hD => ?_⟩⟩
  have nDd : D ≠ d := (ne_of_none lk hD).symm
  have hD0 : H D = none := by
    rw [upd_ne nDd] at hD
    exact hD
  refine dc_it walk_keys (fun i H3 => (∀ b u, b ≠ d → H b = some u → H3 b = some u) ∧ H3 d = some (.frz o (.dK kvs)) ∧ H3 D = some (.dK ((kvs.take i).map fun p => (p.1, f p.1 p.2)))) ⟨fun b u nb e => ?_, ?_, upd_same⟩ (fun i H3 _ p => p.2.1) (fun i x H3 H4 hi p y => ?_) (fun H3 p => ?_)
  · rw [upd_ne (ne_of_none e hD0), upd_ne nb]
    exact e
  · rw [upd_ne nDd.symm]
    exact lk
  · obtain ⟨p1, p2, p3⟩ := p
    obtain ⟨rfl, k, v, hk, rfl⟩ := y
    have hmem : (k, v) ∈ kvs := List.mem_of_getElem? hk
    refine ⟨?_, ?_⟩
    · show ((wipe σ [j]).set j (some (kV k))).set j none = (wipe σ [j])
      show (((σ.set j none).set j (some (kV k))).set j none) = σ.set j none
      rw [List.set_set, List.set_set]
    refine yes_ (iteT ?_)
    refine ⟨kV k, ?_, turn k v o _ _ hmem p2 p1 ?_⟩
    · show ((σ.set j none).set j (some (kV k)))[j]? = some (some (kV k))
      rw [List.getElem?_set_self (by rw [List.length_set]; exact hj)]
    refine ⟨_, k, rfl, p3, ?_, fun b u nb e => ?_, ?_, ?_⟩
    · rw [List.length_map, List.length_take]
      exact line_lt (Nat.le_trans (Nat.min_le_right _ _) hz)
    · rw [upd_ne (ne_of_none e hD0)]
      exact p1 b u nb e
    · rw [upd_ne nDd.symm]
      exact p2
    · rw [upd_same]
      have hlt : i < kvs.length := hi
      have ek : kvs[i] = (k, v) := by
        rw [List.getElem?_eq_getElem hlt] at hk
        exact Option.some.inj hk
      have e1 : kvs.take (i + 1) = kvs.take i ++ [(k, v)] := by rw [List.take_succ, hk]; rfl
      rw [e1, List.map_append, putK_new]
      · rfl
      · have hno : k ∉ (kvs.take i).map (·.1) := by
          intro hm
          rw [List.map_take] at hm
          obtain ⟨m, hm1, hm2⟩ := List.getElem_of_mem hm
          rw [List.length_take, List.length_map] at hm1
          rw [List.getElem_take, List.getElem_map] at hm2
          have hne := List.pairwise_iff_getElem.mp nd m i (by rw [List.length_map]; omega) (by rw [List.length_map]; exact hlt) (by omega)
          rw [List.getElem_map, List.getElem_map, ek] at hne
          exact hne hm2
        unfold valV
        rw [List.find?_eq_none.mpr]
        · rfl
        · intro p hp
          obtain ⟨p0, hp0, e⟩ := List.mem_map.mp hp
          subst e
          simp only [decide_eq_true_eq]
          intro e
          exact hno (List.mem_map.mpr ⟨p0, hp0, e⟩)
  · obtain ⟨p1, p2, p3⟩ := p
    rw [List.take_length] at p3
    refine ⟨p2, q D _ (fun b u e => ?_) hD0 ?_⟩
    · by_cases nb : b = d
      · subst nb
        rw [upd_same, ← hd, e]
      · rw [upd_ne nb]
        exact p1 b u nb e
    · rw [upd_ne nDd]
      exact p3
/-! ### where a letter comes next -/
def nx (l : List Nat) (c i : Nat) : Option Nat := ((l.drop i).findIdx? (· == c)).map (· + i)
theorem nx_end {l : List Nat} {c i : Nat} (h : l.length ≤ i) : nx l c i = none := by
  unfold nx
  rw [List.drop_eq_nil_of_le h]
  rfl
theorem nx_step {l : List Nat} {c i x : Nat} (h : l[i]? = some x) : nx l c i = if x = c then some i else nx l c (i + 1) := by
  obtain ⟨h1, h2⟩ := List.getElem?_eq_some_iff.mp h
  unfold nx
  rw [List.drop_eq_getElem_cons h1, h2, List.findIdx?_cons]
  by_cases e : x = c
  · rw [if_pos e, if_pos (by simp [e])]
    simp
  · rw [if_neg e, if_neg (by simp [e])]
    rw [Option.map_map]
    congr 1
    funext k
    show k + 1 + i = k + (i + 1)
    omega
theorem nx_some {l : List Nat} {c i k : Nat} (h : nx l c i = some k) : i ≤ k ∧ l[k]? = some c ∧ ∀ j, i ≤ j → j < k → l[j]? ≠ some c := by
  unfold nx at h
  rw [Option.map_eq_some_iff] at h
  obtain ⟨m, h1, h2⟩ := h
  rw [List.findIdx?_eq_some_iff_getElem] at h1
  obtain ⟨a1, a2, a3⟩ := h1
  rw [List.length_drop] at a1
  subst h2
  refine ⟨by omega, ?_, fun j hj1 hj2 e => ?_⟩
  · rw [List.getElem_drop] at a2
    rw [List.getElem?_eq_getElem (by omega)]
    have := eq_of_beq a2
    rw [← this]
    congr 2
    omega
  · have := a3 (j - i) (by omega)
    rw [List.getElem_drop] at this
    obtain ⟨b1, b2⟩ := List.getElem?_eq_some_iff.mp e
    apply this
    rw [beq_iff_eq, ← b2]
    congr 1
    omega
theorem nx_none {l : List Nat} {c i : Nat} (h : nx l c i = none) : ∀ j, i ≤ j → l[j]? ≠ some c := by
  unfold nx at h
  rw [Option.map_eq_none_iff, List.findIdx?_eq_none_iff] at h
  intro j hj e
  have hm : c ∈ l.drop i := by
    obtain ⟨b1, b2⟩ := List.getElem?_eq_some_iff.mp e
    rw [List.mem_iff_getElem]
    refine ⟨j - i, by rw [List.length_drop]; omega, ?_⟩
    rw [List.getElem_drop, ← b2]
    congr 1
    omega
  have := h c hm
  simp at this
theorem first_nx {l : List Nat} {c i : Nat} {r : Int} (h : FirstAt l c i r) : (nx l c i = none ∧ r = -1) ∨ ∃ k, nx l c i = some k ∧ r = (k : Int) := by
  cases e : nx l c i with
  | none =>
    left
    refine ⟨rfl, ?_⟩
    rcases h with ⟨h1, _⟩ | ⟨k, h1, h2, h3, _⟩
    · exact h1
    · exact absurd h3 (nx_none e k h2)
  | some k =>
    right
    obtain ⟨a1, a2, a3⟩ := nx_some e
    rcases h with ⟨_, h2⟩ | ⟨k', h1, h2, h3, h4⟩
    · exact absurd a2 (h2 k a1)
    · refine ⟨k, rfl, ?_⟩
      rw [h1]
      rcases Nat.lt_trichotomy k k' with z | z | z
      · exact absurd a2 (h4 k a1 z)
      · rw [z]
      · exact absurd h3 (a3 k' h2 z)
/-- a dict of the next places of the letters from i on -/
structure RowAt (l : List Nat) (i : Nat) (kvs : List (Key × V)) : Prop where
  nd : (kvs.map (·.1)).Nodup
  len : kvs.length ≤ l.length - i
  at_ : ∀ c, valV kvs (.inr (tx [c])) = (nx l c i).map fun (k : Nat) => V.int k
  keys : ∀ p ∈ kvs, ∃ c, p.1 = .inr (tx [c]) ∧ c ∈ l
theorem row_end (l : List Nat) : RowAt l l.length [] := ⟨List.nodup_nil, Nat.zero_le _, fun c => by rw [nx_end (Nat.le_refl _)]; rfl, fun p hp => by cases hp⟩
theorem putK_keys {kvs : List (Key × V)} {k : Key} {v : V} : (putK kvs k v).map (·.1) = if (kvs.any fun kv => decide (kv.1 = k)) = true then kvs.map (·.1) else kvs.map (·.1) ++ [k] := by
  unfold putK
  by_cases h : (kvs.any fun kv => decide (kv.1 = k)) = true
  · rw [if_pos h, if_pos h, List.map_map]
    apply List.map_congr_left
    intro p _
    show (if p.1 = k then (p.1, v) else p).1 = p.1
    split <;> rfl
  · rw [if_neg h, if_neg h, List.map_append]
    rfl
theorem putK_nodup {kvs : List (Key × V)} {k : Key} {v : V} (nd : (kvs.map (·.1)).Nodup) : ((putK kvs k v).map (·.1)).Nodup := by
  rw [putK_keys]
  by_cases h : (kvs.any fun kv => decide (kv.1 = k)) = true
  · rw [if_pos h]; exact nd
  · rw [if_neg h, List.nodup_append]
    refine ⟨nd, by simp, fun a ha b hb e => ?_⟩
    rw [List.mem_singleton] at hb
    subst hb
    obtain ⟨p, hp, e2⟩ := List.mem_map.mp ha
    exact h (List.any_eq_true.mpr ⟨p, hp, by rw [decide_eq_true_eq, e2, e]⟩)
theorem putK_mem {kvs : List (Key × V)} {k : Key} {v : V} {p : Key × V} (h : p ∈ putK kvs k v) : p.1 = k ∨ ∃ p' ∈ kvs, p'.1 = p.1 := by
  have : p.1 ∈ (putK kvs k v).map (·.1) := List.mem_map.mpr ⟨p, h, rfl⟩
  rw [putK_keys] at this
  split at this
  · obtain ⟨p', h1, h2⟩ := List.mem_map.mp this
    exact .inr ⟨p', h1, h2⟩
  · rcases List.mem_append.mp this with z | z
    · obtain ⟨p', h1, h2⟩ := List.mem_map.mp z
      exact .inr ⟨p', h1, h2⟩
    · exact .inl (List.mem_singleton.mp z)
theorem row_step {l : List Nat} {i x : Nat} {kvs : List (Key × V)} (h : RowAt l (i + 1) kvs) (hx : l[i]? = some x) : RowAt l i (putK kvs (.inr (tx [x])) (.int i)) := by
  obtain ⟨h1, h2⟩ := List.getElem?_eq_some_iff.mp hx
  refine ⟨putK_nodup h.nd, ?_, fun c => ?_, fun p hp => ?_⟩
  · have := length_putK kvs (.inr (tx [x])) (.int i)
    have := h.len
    omega
  · rw [valV_put, nx_step hx]
    by_cases e : x = c
    · subst e
      rw [if_pos rfl, if_pos rfl]
      rfl
    · rw [if_neg e, if_neg, h.at_]
      intro z
      injection z with z
      have := tx_inj z
      injection this with this
      exact e this.symm
  · rcases putK_mem hp with e | ⟨p', hp', e⟩
    · exact ⟨x, e, List.mem_of_getElem? hx⟩
    · obtain ⟨c, e2, hc⟩ := h.keys p' hp'
      exact ⟨c, by rw [← e, e2], hc⟩
end Sk

set_option Elab.async false
set_option linter.all false
set_option maxRecDepth 100000
set_option maxHeartbeats 4000000
/-! Sk: counting the words that are not read in a text. -/
namespace Sk
open PySem PySem.Spec PyProof.Rows L2
theorem fm_get {α β : Type} (a : List α) (g : α → β) : (List.range a.length).filterMap (fun j => (a[j]?).map g) = a.map g := by
  induction a with
  | nil => rfl
  | cons x r ih =>
    rw [List.length_cons, List.range_succ_eq_map, List.filterMap_cons, List.filterMap_map]
    simp only [List.getElem?_cons_zero, Option.map_some]
    rw [List.map_cons, ← ih]
    congr 1
theorem fm_some {β : Type} (n : Nat) (g : Nat → β) : (List.range n).filterMap (fun j => some (g j)) = (List.range n).map g := by
  rw [← List.filterMap_eq_map]
  rfl
theorem rep_flat {α : Type} (n : Nat) (x : α) : (List.replicate n [x]).flatten = (List.range n).map fun _ => x := by
  induction n with
  | zero => rfl
  | succ n ih =>
    rw [List.replicate_succ, List.flatten_cons, ih, List.range_succ_eq_map, List.map_cons, List.map_map]
    rfl
/-- how many words of n letters over a are not read in l from i on -/
def mis (a l : List Nat) : Nat → Nat → Int
  | 0, _ => 0
  | n + 1, i => (a.map fun c => match nx l c i with
    | some k => mis a l n (k + 1)
    | none => (a.length : Int) ^ n).sum
/-- read greedily -/
def rd : List Nat → List Nat → Bool
  | [], _ => true
  | _ :: _, [] => false
  | c :: w, x :: l => if c = x then rd w l else rd (c :: w) l
/-- all words of n letters, in order -/
def wds (a : List Nat) : Nat → List (List Nat)
  | 0 => [[]]
  | n + 1 => (wds a n).flatMap fun w => a.map fun c => w ++ [c]
/-- the same from the front -/
def wdf (a : List Nat) : Nat → List (List Nat)
  | 0 => [[]]
  | n + 1 => a.flatMap fun c => (wdf a n).map fun w => c :: w
theorem rd_nx (c : Nat) (w l : List Nat) : ∀ n i, l.length - i = n → rd (c :: w) (l.drop i) = match nx l c i with
    | some k => rd w (l.drop (k + 1))
    | none => false := by
  intro n
  induction n with
  | zero =>
    intro i h
    rw [List.drop_eq_nil_of_le (by omega), nx_end (by omega)]
    rfl
  | succ n ih =>
    intro i h
    have hi : i < l.length := by omega
    rw [List.drop_eq_getElem_cons hi, nx_step (List.getElem?_eq_getElem hi), rd]
    by_cases e : c = l[i]
    · rw [if_pos e, if_pos e.symm]
    · rw [if_neg e, if_neg (fun z => e z.symm)]
      exact ih (i + 1) (by omega)
theorem rd_at (c : Nat) (w l : List Nat) (i : Nat) : rd (c :: w) (l.drop i) = match nx l c i with
    | some k => rd w (l.drop (k + 1))
    | none => false := rd_nx c w l _ i rfl
theorem wdf_len (a : List Nat) : ∀ n, (wdf a n).length = a.length ^ n
  | 0 => rfl
  | n + 1 => by
    show (a.flatMap fun c => (wdf a n).map fun w => c :: w).length = _
    rw [List.length_flatMap]
    simp only [List.length_map, wdf_len a n]
    rw [List.map_const', List.sum_replicate_nat, Nat.pow_succ, Nat.mul_comm]
/-- the count is that of the list -/
theorem mis_count (a l : List Nat) : ∀ n i, (((wdf a n).filter fun w => !rd w (l.drop i)).length : Int) = mis a l n i := by
  intro n
  induction n with
  | zero =>
    intro i
    show ((List.filter (fun w => !rd w (l.drop i)) [[]]).length : Int) = 0
    rw [List.filter_cons_of_neg (by unfold rd; decide)]
    rfl
  | succ n ih =>
    intro i
    show ((List.filter (fun w => !rd w (l.drop i)) (a.flatMap fun c => (wdf a n).map fun w => c :: w)).length : Int) = (a.map fun c => match nx l c i with
      | some k => mis a l n (k + 1)
      | none => (a.length : Int) ^ n).sum
    have gen : ∀ b : List Nat, ((List.filter (fun w => !rd w (l.drop i)) (b.flatMap fun c => (wdf a n).map fun w => c :: w)).length : Int) = (b.map fun c => match nx l c i with
      | some k => mis a l n (k + 1)
      | none => (a.length : Int) ^ n).sum := by
      intro b
      induction b with
      | nil => rfl
      | cons c r ihr =>
        rw [List.flatMap_cons, List.filter_append, List.length_append, List.map_cons, List.sum_cons, ← ihr, Int.natCast_add]
        congr 1
        rw [List.filter_map, List.length_map]
        have e : (fun w => !rd (c :: w) (l.drop i)) = fun w => !(match nx l c i with | some k => rd w (l.drop (k + 1)) | none => false) := by
          funext w
          rw [rd_at]
        show ((List.filter (fun w => !rd (c :: w) (l.drop i)) (wdf a n)).length : Int) = _
        rw [e]
        cases nx l c i with
        | some k => exact ih (k + 1)
        | none =>
          have e0 : List.filter (fun _ => !false) (wdf a n) = wdf a n := List.filter_eq_self.mpr fun _ _ => rfl
          show ((List.filter (fun _ => !false) (wdf a n)).length : Int) = (a.length : Int) ^ n
          rw [e0, wdf_len, Int.natCast_pow]
    exact gen a
/-- both orders of growth give the same list -/
theorem wds_wdf (a : List Nat) : ∀ n, wds a n = wdf a n := by
  have key : ∀ n, (wdf a n).flatMap (fun w => a.map fun c => w ++ [c]) = a.flatMap fun c => (wdf a n).map fun w => c :: w := by
    intro n
    induction n with
    | zero =>
      show ([[]] : List (List Nat)).flatMap (fun w => a.map fun c => w ++ [c]) = a.flatMap fun c => [[]].map fun w => c :: w
      rw [List.flatMap_cons, List.flatMap_nil, List.append_nil]
      simp only [List.nil_append, List.map_cons, List.map_nil]
      induction a with
      | nil => rfl
      | cons x r ih => rw [List.map_cons, List.flatMap_cons, ih]; rfl
    | succ n ih =>
      show (a.flatMap fun c => (wdf a n).map fun w => c :: w).flatMap (fun w => a.map fun c => w ++ [c]) = a.flatMap fun c => (a.flatMap fun c => (wdf a n).map fun w => c :: w).map fun w => c :: w
      rw [List.flatMap_assoc]
      congr 1
      funext c
      rw [← ih, List.flatMap_map, List.map_flatMap]
      congr 1
      funext w
      rw [List.map_map]
      rfl
  intro n
  induction n with
  | zero => rfl
  | succ n ih =>
    show (wds a n).flatMap (fun w => a.map fun c => w ++ [c]) = _
    rw [ih, key]
    rfl
theorem mis_nonneg (a l : List Nat) (n i : Nat) : 0 ≤ mis a l n i := by
  rw [← mis_count]
  omega
theorem mis_lt (a l : List Nat) (n i : Nat) : mis a l n i ≤ (a.length : Int) ^ n := by
  rw [← mis_count, ← Int.natCast_pow, ← wdf_len a n]
  have := List.length_filter_le (fun w => !rd w (l.drop i)) (wdf a n)
  omega
end Sk

set_option Elab.async false
set_option linter.all false
set_option maxRecDepth 100000
set_option maxHeartbeats 4000000
/-! Sk: bounds of numbers. -/
namespace Sk
open PySem PySem.Spec PyProof.Rows L2
theorem nab_mul {i j : Int} {a b : Nat} (hi : i.natAbs < 2 ^ a) (hj : j.natAbs < 2 ^ b) : (i * j).natAbs < 2 ^ (a + b) := by
  rw [Int.natAbs_mul, Nat.pow_add]
  exact Nat.mul_lt_mul_of_lt_of_lt hi hj
theorem bits_le {i : Int} {k : Nat} (h0 : 0 < i) (h : i < 2 ^ k) : Builtin.Int.intBits i ≤ k := by
  unfold Builtin.Int.intBits
  have h1 : i.natAbs ≠ 0 := by omega
  have h2 : i.natAbs < 2 ^ k := by
    have : ((i.natAbs : Nat) : Int) < ((2 ^ k : Nat) : Int) := by
      rw [Int.natCast_pow]
      have : ((i.natAbs : Nat) : Int) = i := by omega
      rw [this]
      exact h
    exact Int.ofNat_lt.mp this
  have h3 := (Nat.log2_lt h1).mpr h2
  split <;> omega
theorem abs_lt {i : Int} {k : Nat} (h0 : 0 ≤ i) (h : i < 2 ^ k) : i.natAbs < 2 ^ k := by
  have : ((i.natAbs : Nat) : Int) < ((2 ^ k : Nat) : Int) := by
    rw [Int.natCast_pow]
    have : ((i.natAbs : Nat) : Int) = i := by omega
    rw [this]
    exact h
  exact Int.ofNat_lt.mp this
theorem seq_nat {i n : Nat} (h : i < n) : PySem.seqIndex? (i : Int) n = some i := by
  unfold PySem.seqIndex?
  have e : (if (i : Int) < 0 then (i : Int) + n else i) = i := if_neg (by omega)
  simp only [e]
  rw [if_pos (by rw [Bool.and_eq_true, decide_eq_true_eq, decide_eq_true_eq]; omega)]
  rfl
theorem b119 {b : Int} (h : b ≤ 1000001) : b < 2 ^ 119 := by
  have h2 : (1000001 : Int) < 2 ^ 119 := by decide
  omega
theorem fmod_rg {i j : Int} (h : 0 < j) : 0 ≤ i.fmod j ∧ i.fmod j < j := ⟨Int.fmod_nonneg_of_pos i h, Int.fmod_lt_of_pos i h⟩
end Sk

set_option Elab.async false
set_option linter.all false
set_option maxRecDepth 100000
set_option maxHeartbeats 4000000
/-! Sk: letters drawn from the alphabet and sorted. -/
namespace Sk
open PySem PySem.Spec PyProof.Rows L2
abbrev abcL : List Nat := [97, 98, 99, 100, 101, 102, 103, 104, 105, 106, 107, 108, 109, 110, 111, 112, 113, 114, 115, 116, 117, 118, 119, 120, 121, 122]
/-- an alphabet -/
structure IsAl (l : List Nat) : Prop where
  abc : ∀ c ∈ l, c ∈ abcL
  one : 1 ≤ l.length
  up : ∀ i a b, l[i]? = some a → l[i + 1]? = some b → a < b
theorem erase_perm : ∀ (l : List Nat) (i : Nat) (h : i < l.length), (l[i] :: l.eraseIdx i).Perm l
  | [], _, h => by cases h
  | x :: r, 0, _ => List.Perm.refl _
  | x :: r, i + 1, h => by
    have ih := erase_perm r i (by simpa using h)
    show (r[i]'(by simpa using h) :: x :: r.eraseIdx i).Perm (x :: r)
    exact (List.Perm.swap _ _ _).trans (ih.cons x)
theorem map_erase {β : Type} (f : Nat → β) : ∀ (l : List Nat) (i : Nat), (l.map f).eraseIdx i = (l.eraseIdx i).map f
  | [], _ => rfl
  | _ :: _, 0 => rfl
  | x :: r, i + 1 => by
    show f x :: (r.map f).eraseIdx i = f x :: (r.eraseIdx i).map f
    rw [map_erase f r i]
theorem singles : ∀ (ms : List (List Nat)), (∀ m ∈ ms, ∃ c, m = [c]) → ms = ms.flatten.map fun c => [c]
  | [], _ => rfl
  | m :: r, h => by
    obtain ⟨c, e⟩ := h m List.mem_cons_self
    have ih := singles r fun x hx => h x (List.mem_cons_of_mem _ hx)
    subst e
    rw [List.flatten_cons]
    show _ = [c] :: (r.flatten.map fun c => [c])
    rw [← ih]
/-- sorted singles of drawn letters are an alphabet -/
theorem sorted_al {ls rem : List Nat} {ms : List (List Nat)} (hp : (ls ++ rem).Perm abcL) (hm : ms.Perm (ls.map fun c => [c])) (hs : ms.Pairwise fun a b => ¬ b < a) (h1 : 1 ≤ ls.length) :
    IsAl ms.flatten ∧ ms.flatten.length = ls.length := by
  have hsing : ∀ m ∈ ms, ∃ c, m = [c] := fun m h => by
    obtain ⟨c, _, e⟩ := List.mem_map.mp (hm.mem_iff.mp h)
    exact ⟨c, e.symm⟩
  have e1 := singles ms hsing
  have pf : ms.flatten.Perm ls := by
    have := hm.flatten
    have e2 : (ls.map fun c => [c]).flatten = ls := by
      have gen : ∀ l : List Nat, (l.map fun c => [c]).flatten = l := fun l => by
        induction l with
        | nil => rfl
        | cons c r ih => rw [List.map_cons, List.flatten_cons, ih]; rfl
      exact gen ls
    rw [e2] at this
    exact this
  have nd0 : abcL.Nodup := by decide
  have nd : ms.flatten.Nodup := by
    have h2 := (hp.nodup_iff).mpr nd0
    exact (pf.nodup_iff).mpr (List.nodup_append.mp h2).1
  refine ⟨⟨fun c hc => ?_, ?_, fun i a b ha hb => ?_⟩, pf.length_eq⟩
  · exact hp.mem_iff.mp (List.mem_append_left _ (pf.mem_iff.mp hc))
  · rw [pf.length_eq]; exact h1
  · rw [e1] at hs
    obtain ⟨ia, ea⟩ := List.getElem?_eq_some_iff.mp ha
    obtain ⟨ib, eb⟩ := List.getElem?_eq_some_iff.mp hb
    have h2 := List.pairwise_iff_getElem.mp hs i (i + 1) (by rw [List.length_map]; exact ia) (by rw [List.length_map]; exact ib) (by omega)
    have h3 := List.pairwise_iff_getElem.mp nd i (i + 1) ia ib (by omega)
    rw [List.getElem_map, List.getElem_map, ea, eb] at h2
    rw [ea, eb] at h3
    have h4 : ¬ b < a := fun z => h2 (List.Lex.rel z)
    omega
end Sk

set_option Elab.async false
set_option linter.all false
set_option maxRecDepth 100000
set_option maxHeartbeats 4000000
/-! Sk: what repr shows of small data is small. -/
namespace Sk
open PySem PySem.Spec PyProof.Rows L2
theorem int_shows {i : Int} (h : i.natAbs < 2 ^ 1800) : (PyData.int i).showable = true ∧ (PyData.int i).leavesShort 600 = true ∧ (PyData.int i).weight ≤ 2000 := by
  refine ⟨?_, ?_, ?_⟩
  · unfold PyData.showable
    rw [decide_eq_true_eq]
    by_cases h0 : i.natAbs = 0
    · rw [h0]; decide
    · have := (Nat.log2_lt h0).mpr h
      omega
  · have hp : (2 : Nat) ^ 1800 < 10 ^ 599 := by decide +kernel
    have e := int_text_length_le10 (k := 599) (by decide) (Nat.lt_trans h hp)
    unfold PyData.leavesShort
    rw [decide_eq_true_eq]
    show (Str.ofString (toString i)).length ≤ 600
    rw [PySem.ofString_length]
    exact e
  · unfold PyData.weight
    split
    · exact Nat.zero_le _
    · rename_i h0
      have h0 : i.natAbs ≠ 0 := fun z => h0 (by rw [Int.natAbs_eq_zero.mp z]; rfl)
      have := (Nat.log2_lt h0).mpr h
      omega
theorem shows {d : PyData} (h : d.leavesShort 600 = true) (hw : d.weight ≤ 25000) : d.shown.length ≤ sizeLine := by
  have h1 := PyData.shown_le 600 (by decide) d h
  have h2 : (600 + 2) * d.weight ≤ 602 * 25000 := Nat.mul_le_mul (by omega) hw
  rw [sizeLine_eq]
  omega
theorem two_show {x y : Int} (hx : x.natAbs < 2 ^ 1800) (hy : y.natAbs < 2 ^ 1800) : (PyData.tuple [.int x, .int y]).showable = true ∧ (PyData.tuple [.int x, .int y]).hasDict = false ∧ (PyData.tuple [.int x, .int y]).depth ≤ 60 ∧ (PyData.tuple [.int x, .int y]).shown.length ≤ sizeLine := by
  obtain ⟨a1, a2, wx⟩ := int_shows hx
  obtain ⟨b1, b2, wy⟩ := int_shows hy
  refine ⟨?_, rfl, ?_, shows ?_ ?_⟩
  · simp only [PyData.showable, PyData.showableAll, Bool.and_eq_true] at *
    exact ⟨a1, b1, trivial⟩
  · simp [PyData.depth, PyData.depthAll]
  · simp only [PyData.leavesShort, PyData.leavesShortAll, Bool.and_eq_true] at *
    exact ⟨a2, b2, trivial⟩
  · simp only [PyData.weight, PyData.weightAll] at *
    omega
end Sk

set_option Elab.async false
set_option linter.all false
set_option maxRecDepth 100000
set_option maxHeartbeats 4000000
/-! Sk: a law's def, for every heap that the written part stands in. -/
namespace Sk
open PySem PySem.Spec PyProof.Rows L2
section
variable {fa : List He.Fa} {fn : List He.DefD} {P : Program} {w : World} {K : PySem.W.Frag} {mg : Str → Option Value}
theorem Facts.lawG (F : Facts fa fn K mg) (i : Nat) {x : Str} {s : Stmt} {N ps : List Str} {k : Nat} {sp : Sp} (S : FnScope N ps (defScope s)) (cnt : ∀ vs H Q E, sp vs H Q E → vs.length = ps.length)
    (bd : BindsAs x s ps) (hb : ∀ base : Heap, K.In base → base.Ns mainGlobals mg → Body P w K mg base k x s N ps sp) (hd : fn[i]? = some (dd x s) := by rfl) :
    ∃ fd, (∀ (t0 : Shared) (us : List Value), us.length = ps.length → BindsTo t0 fd ⟨us, []⟩ (ps.zip us)) ∧ ∀ base : Heap, K.In base → base.Ns mainGlobals mg → FnG P w K mg base (k + 1) (He.fAd K (x, none)) fd ps sp := by
  obtain ⟨fd, D⟩ := F.says.def_ i hd
  have D' : FunD K x x (defArgs s) (defBody s) (defScope s) [] [] (He.fAd K (x, none)) fd := D
  have b2 := FunD.bindsA (ps := ps) D' bd
  obtain ⟨oc, od, dV, kV, doc, pm, an, cdv, ct, osl, e, lk, hcd, _, _⟩ := D'.ex
  subst e
  exact ⟨_, b2, fun base hk hn => fnG_of lk hcd S cnt (fun A outer t0 H vs Q E hg hr hs => by
    obtain ⟨t, h1, h2⟩ := hb base hk hn _ cdv A outer t0 H vs Q E hg hr hs
    exact ⟨t, h1.nox, h2⟩)⟩
end
/-- all but the drawn list stays, and that was not there -/
theorem But.same {g : Addr} {H H' : Hp} (s : But g H H') (h : H g = none) : Same H H' := fun b o e => s b o (ne_of_none e h) e
end Sk
namespace Sk
open PySem PySem.Spec PyProof.Rows L2
theorem join_yn {G : Prop} (c : Prop) (Y N : Prop) (hy : c → Y) (hn : ¬ c → N) (h : (c → Y) → (¬ c → N) → G) : G := h hy hn
theorem vint_ne {i j : Int} (h : i ≠ j) : ¬ V.int i = V.int j := fun z => h (by injection z)
theorem join2 {D : List Nat → Hp → Prop} {c A B : Prop} [Decidable c] (P : List Nat → Hp → Prop) (h : ∀ u H, D u H → P u H) (h1 : (∀ u H, D u H → P u H) → c → A) (h2 : (∀ u H, D u H → P u H) → ¬ c → B) : if c then A else B :=
  ite2 (h1 h) (h2 h)
theorem eq_nil0 {K : PySem.W.Frag} {H : Hp} {Q : VK} {a b : Addr} (h : SqL K H a []) (hb : SqL K H b []) (q : Q (.bl true) H) : rEqD K (.ref a) (.ref b) H Q := eq_nil h (fun x hx => by cases hx) hb (by rw [decide_eq_true rfl]; exact q)
theorem ne_nil0 {K : PySem.W.Frag} {H : Hp} {Q : VK} {a b : Addr} (h : SqL K H a []) (hb : SqL K H b []) (q : Q (.bl false) H) : rNeD K (.ref a) (.ref b) H Q := ne_nil h (fun x hx => by cases hx) hb (by rw [decide_eq_true rfl]; exact q)
end Sk

set_option Elab.async false
set_option linter.all false
set_option maxRecDepth 100000
set_option maxHeartbeats 4000000
/-! Sk: more rules with the written part by hand. -/
namespace Sk
open PySem PySem.Spec PyProof.Rows L2
section
variable {X : Cx} (K : PySem.W.Frag)
def rLol (K : PySem.W.Frag) : List V → Hp → VK → Prop := fun xs H Q => ∃ p ys, xs = [.ref p] ∧ SqL K H p ys ∧ ∀ l, H l = none → Q (.ref l) (upd H l (.lst ys))
theorem k_lol (h : X.K = K := by rfl) : CallR X (.type "list") (rLol K) := by
  subst h
  intro pins s σ H xs us Q I r q
  obtain ⟨p, ys, e, hs, q⟩ := q
  exact call_list_of pins s σ H xs us Q I r ⟨p, ys, e, .inl hs, q⟩
def rTol (K : PySem.W.Frag) : List V → Hp → VK → Prop := fun xs H Q => ∃ p ys, xs = [.ref p] ∧ SqL K H p ys ∧ ∀ l, H l = none → Q (.ref l) (upd H l (.tup ys))
theorem k_tol (h : X.K = K := by rfl) : CallR X (.type "tuple") (rTol K) := by
  subst h
  intro pins s σ H xs us Q I r q
  obtain ⟨p, ys, e, hs, q⟩ := q
  exact call_tuple_of pins s σ H xs us Q I r ⟨p, ys, e, .inl ⟨hs, q⟩⟩
theorem k_revL {e : Expr} {te : TE} {k : Nat} {p1 p2 p3 pos : Pos} (he : PE X e te) (h : X.K = K := by rfl) : PE X (.Subscript e (.Slice none none (some (.UnaryOp .USub (.Constant (.int 1) k p1) p2)) p3) pos) (tRevL K te) := by
  subst h
  exact pe_revL he
end
end Sk

set_option Elab.async false
set_option linter.all false
set_option maxRecDepth 100000
set_option maxHeartbeats 4000000
/-! Sk: texts that have the same words of at most d letters read in them; the plain law of their least forms. -/
namespace Sk
/-- the same words of at most d letters are read in both -/
def Alike (d : Nat) (u v : List Nat) : Prop := ∀ w : List Nat, w.length ≤ d → (w.Sublist u ↔ w.Sublist v)
theorem Alike.refl (d : Nat) (u : List Nat) : Alike d u u := fun _ _ => Iff.rfl
theorem Alike.symm {d : Nat} {u v : List Nat} (h : Alike d u v) : Alike d v u := fun w hw => (h w hw).symm
theorem Alike.trans {d : Nat} {u v x : List Nat} (h : Alike d u v) (g : Alike d v x) : Alike d u x := fun w hw => (h w hw).trans (g w hw)
/-- the ranks, from the left: a letter's number behind the prefix -/
def stp (f : Nat → Nat) (b : Nat) : Nat → Nat := fun c => if c = b then f b + 1 else min (f c) (f b + 1)
def Lf (p : List Nat) : Nat → Nat := p.foldl stp fun _ => 0
def Rf (q : List Nat) : Nat → Nat := Lf q.reverse
theorem Lf_nil (c : Nat) : Lf [] c = 0 := rfl
theorem Lf_snoc (p : List Nat) (b c : Nat) : Lf (p ++ [b]) c = if c = b then Lf p b + 1 else min (Lf p c) (Lf p b + 1) := by
  unfold Lf
  rw [List.foldl_append]
  rfl
theorem Rf_cons (q : List Nat) (b c : Nat) : Rf (b :: q) c = if c = b then Rf q b + 1 else min (Rf q c) (Rf q b + 1) := by
  unfold Rf
  rw [List.reverse_cons, Lf_snoc]
theorem sub_snoc_ne {v p : List Nat} {a b : Nat} (h : a ≠ b) : (v ++ [a]).Sublist (p ++ [b]) ↔ (v ++ [a]).Sublist p := by
  rw [← List.reverse_sublist, List.reverse_append, List.reverse_append, ← List.reverse_sublist (l₂ := p), List.reverse_append]
  show (a :: v.reverse).Sublist (b :: p.reverse) ↔ (a :: v.reverse).Sublist p.reverse
  constructor
  · intro z
    rcases List.sublist_cons_iff.mp z with z | ⟨r, e, _⟩
    · exact z
    · injection e with e
      exact absurd e h
  · exact fun z => z.cons _
theorem sub_snoc {v p : List Nat} {a : Nat} : (v ++ [a]).Sublist (p ++ [a]) ↔ v.Sublist p := by
  rw [← List.reverse_sublist, List.reverse_append, List.reverse_append, ← List.reverse_sublist (l₁ := v)]
  exact List.cons_sublist_cons
/-- a word that ends otherwise, or in the last letter -/
theorem sub_last {v p : List Nat} {b : Nat} (h : v.Sublist (p ++ [b])) : v.Sublist p ∨ ∃ v', v = v' ++ [b] ∧ v'.Sublist p := by
  rw [← List.reverse_sublist, List.reverse_append] at h
  rcases List.sublist_cons_iff.mp (show v.reverse.Sublist (b :: p.reverse) from h) with z | ⟨r, e, z⟩
  · exact .inl (List.reverse_sublist.mp z)
  · refine .inr ⟨r.reverse, ?_, ?_⟩
    · rw [← List.reverse_reverse v, e, List.reverse_cons]
    · rw [← List.reverse_sublist, List.reverse_reverse]
      exact z
theorem Lf_both (p : List Nat) : ∀ a, (∀ v : List Nat, v.Sublist p → v.length < Lf p a → (v ++ [a]).Sublist p) ∧ ∃ v : List Nat, v.length = Lf p a ∧ v.Sublist p ∧ ¬ (v ++ [a]).Sublist p := by
  generalize hn : p.length = n
  induction n generalizing p with
  | zero =>
    have : p = [] := List.eq_nil_of_length_eq_zero hn
    subst this
    intro a
    refine ⟨fun v _ h => ?_, [], rfl, List.Sublist.refl _, fun z => ?_⟩
    · rw [Lf_nil] at h; omega
    · have := z.length_le
      simp at this
  | succ n ih =>
    obtain ⟨p0, b, rfl⟩ : ∃ p0 b, p = p0 ++ [b] := by
      have : p ≠ [] := by intro z; rw [z] at hn; cases hn
      exact ⟨p.dropLast, p.getLast this, (List.dropLast_concat_getLast this).symm⟩
    have hp0 : p0.length = n := by simpa using hn
    intro a
    obtain ⟨a1, va, a2, a3, a4⟩ := ih p0 hp0 a
    obtain ⟨b1, vb, b2, b3, b4⟩ := ih p0 hp0 b
    rw [Lf_snoc]
    by_cases e : a = b
    · subst e
      rw [if_pos rfl]
      constructor
      · intro v hv hl
        rw [sub_snoc]
        rcases sub_last hv with z | ⟨v', rfl, z⟩
        · exact z
        · exact a1 v' z (by simpa using hl)
      · refine ⟨vb ++ [a], by simp [b2], (sub_snoc).mpr b3, ?_⟩
        rw [sub_snoc]
        exact b4
    · rw [if_neg e]
      constructor
      · intro v hv hl
        rw [sub_snoc_ne e]
        rcases sub_last hv with z | ⟨v', rfl, z⟩
        · exact a1 v z (by omega)
        · have h1 : (v' ++ [b]).Sublist p0 := b1 v' z (by simp at hl; omega)
          exact a1 _ h1 (by omega)
      · by_cases hm : Lf p0 a ≤ Lf p0 b + 1
        · refine ⟨va, by omega, a3.trans (List.sublist_append_left _ _), ?_⟩
          rw [sub_snoc_ne e]
          exact a4
        · refine ⟨vb ++ [b], by simp [b2]; omega, sub_snoc.mpr b3, ?_⟩
          rw [sub_snoc_ne e]
          exact fun z => b4 ((List.sublist_append_left _ _).trans z)
theorem Lf_lt {p v : List Nat} {a : Nat} (h : v.Sublist p) (hl : v.length < Lf p a) : (v ++ [a]).Sublist p := (Lf_both p a).1 v h hl
theorem Lf_le {p v : List Nat} {a : Nat} (h : v.Sublist p) (hn : ¬ (v ++ [a]).Sublist p) : Lf p a ≤ v.length := by
  apply Nat.le_of_not_lt
  exact fun z => hn (Lf_lt h z)
theorem Lf_ex (p : List Nat) (a : Nat) : ∃ v : List Nat, v.length = Lf p a ∧ v.Sublist p ∧ ¬ (v ++ [a]).Sublist p := (Lf_both p a).2
theorem Rf_le {q v : List Nat} {a : Nat} (h : v.Sublist q) (hn : ¬ (a :: v).Sublist q) : Rf q a ≤ v.length := by
  have h1 := Lf_le (p := q.reverse) (v := v.reverse) (a := a) (List.reverse_sublist.mpr h) (fun z => hn (by
    rw [← List.reverse_sublist, List.reverse_cons]
    exact z))
  rw [List.length_reverse] at h1
  exact h1
theorem Rf_ex (q : List Nat) (a : Nat) : ∃ v : List Nat, v.length = Rf q a ∧ v.Sublist q ∧ ¬ (a :: v).Sublist q := by
  obtain ⟨v, h1, h2, h3⟩ := Lf_ex q.reverse a
  refine ⟨v.reverse, by rw [List.length_reverse]; exact h1, ?_, fun z => h3 ?_⟩
  · rw [← List.reverse_sublist, List.reverse_reverse]; exact h2
  · have := List.reverse_sublist.mpr z
    rw [List.reverse_cons, List.reverse_reverse] at this
    exact this
/-- a letter that no word of d letters needs can go -/
theorem del_alike {d : Nat} {p q : List Nat} {a : Nat} (h : d ≤ Lf p a + Rf q a) : Alike d (p ++ a :: q) (p ++ q) := by
  intro w hw
  constructor
  · intro z
    obtain ⟨w1, w2, rfl, h1, h2⟩ := List.sublist_append_iff.mp z
    rcases List.sublist_cons_iff.mp h2 with h3 | ⟨w3, rfl, h3⟩
    · exact h1.append h3
    · by_cases c1 : (w1 ++ [a]).Sublist p
      · have := c1.append h3
        rwa [List.append_assoc] at this
      · by_cases c2 : (a :: w3).Sublist q
        · exact h1.append c2
        · have l1 := Lf_le h1 c1
          have l2 := Rf_le h3 c2
          rw [List.length_append, List.length_cons] at hw
          omega
  · intro z
    exact z.trans (List.Sublist.append (List.Sublist.refl _) ((List.Sublist.refl _).cons _))
/-- no letter can go -/
def Reduced (d : Nat) (u : List Nat) : Prop := ∀ p c q, u = p ++ c :: q → Lf p c + Rf q c + 2 ≤ d + 1
/-- letters side by side that may change places stand in order -/
def InOrder (d : Nat) (u : List Nat) : Prop := ∀ p a b q, u = p ++ a :: b :: q → Lf p a = Lf (p ++ [a]) b → Rf (b :: q) a = Rf q b → Lf p a + Rf q b + 2 = d + 1 → a ≤ b
/-! ### letters side by side -/
structure Pair (d : Nat) (p : List Nat) (a b : Nat) (q : List Nat) : Prop where
  ne : a ≠ b
  l : Lf p a = Lf p b
  r : Rf q a = Rf q b
  s : Lf p a + Rf q a + 2 = d + 1
theorem pair_of {d : Nat} {p q : List Nat} {a b : Nat} (h1 : Lf p a = Lf (p ++ [a]) b) (h2 : Rf (b :: q) a = Rf q b) (h3 : Lf p a + Rf q b + 2 = d + 1) : Pair d p a b q := by
  have hne : a ≠ b := by
    intro e
    subst e
    rw [Lf_snoc, if_pos rfl] at h1
    omega
  rw [Lf_snoc, if_neg (fun e => hne e.symm)] at h1
  rw [Rf_cons, if_neg hne] at h2
  have e1 : Lf p a = Lf p b := by omega
  have e2 : Rf q a = Rf q b := by omega
  exact ⟨hne, e1, e2, by omega⟩
theorem Pair.swap {d : Nat} {p q : List Nat} {a b : Nat} (h : Pair d p a b q) : Pair d p b a q := ⟨h.ne.symm, h.l.symm, h.r.symm, by rw [← h.l, ← h.r]; exact h.s⟩
theorem Pair.lf {d : Nat} {p q : List Nat} {a b : Nat} (h : Pair d p a b q) (c : Nat) : Lf (p ++ [a, b]) c = Lf (p ++ [b, a]) c := by
  have e1 : p ++ [a, b] = (p ++ [a]) ++ [b] := by simp
  have e2 : p ++ [b, a] = (p ++ [b]) ++ [a] := by simp
  rw [e1, e2]
  have hl := h.l
  have hne := h.ne
  simp only [Lf_snoc]
  split <;> split <;> split <;> simp_all <;> omega
theorem Pair.rf {d : Nat} {p q : List Nat} {a b : Nat} (h : Pair d p a b q) (c : Nat) : Rf (a :: b :: q) c = Rf (b :: a :: q) c := by
  have hl := h.r
  have hne := h.ne
  simp only [Rf_cons]
  split <;> split <;> split <;> simp_all <;> omega
theorem Pair.mid {d : Nat} {p q : List Nat} {a b : Nat} (h : Pair d p a b q) : Alike d (p ++ a :: b :: q) (p ++ a :: b :: a :: q) := by
  have h1 : d ≤ Lf (p ++ [a, b]) a + Rf q a := by
    have e1 : p ++ [a, b] = (p ++ [a]) ++ [b] := by simp
    rw [e1, Lf_snoc, if_neg h.ne, Lf_snoc, if_pos rfl, Lf_snoc, if_neg h.ne.symm]
    have := h.l
    have := h.s
    omega
  have h2 := del_alike h1
  rw [List.append_assoc, List.append_assoc] at h2
  exact h2.symm
theorem Pair.mid2 {d : Nat} {p q : List Nat} {a b : Nat} (h : Pair d p a b q) : Alike d (p ++ a :: b :: a :: q) (p ++ b :: a :: q) := by
  refine del_alike ?_
  rw [Rf_cons, if_neg h.ne, Rf_cons, if_pos rfl, Rf_cons, if_neg h.ne.symm]
  have := h.r
  have := h.s
  omega
theorem Pair.alike {d : Nat} {p q : List Nat} {a b : Nat} (h : Pair d p a b q) : Alike d (p ++ a :: b :: q) (p ++ b :: a :: q) := h.mid.trans h.mid2
end Sk

set_option Elab.async false
set_option linter.all false
set_option maxRecDepth 100000
set_option maxHeartbeats 4000000
/-! Sk: a text in which no letter can go and that stands in order is the only one of its kind. -/
namespace Sk
theorem push {v p t z : List Nat} {a : Nat} (hn : ¬ (v ++ [a]).Sublist p) (h : (v ++ a :: t).Sublist (p ++ z)) : (a :: t).Sublist z := by
  obtain ⟨w1, w2, e, h1, h2⟩ := List.sublist_append_iff.mp h
  rcases List.append_eq_append_iff.mp e with ⟨as, e1, e2⟩ | ⟨bs, e1, e2⟩
  · cases as with
    | nil =>
      rw [List.nil_append] at e2
      rw [e2]
      exact h2
    | cons x as =>
      rw [List.cons_append] at e2
      injection e2 with e3 e4
      subst e3
      refine absurd (List.Sublist.trans ?_ h1) hn
      rw [e1]
      exact (List.Sublist.refl v).append ((List.nil_sublist as).cons₂ a)
  · rw [e2] at h2
    exact (List.sublist_append_right bs _).trans h2
theorem pull {s p t z : List Nat} {a : Nat} (hn : ¬ (a :: t).Sublist z) (h : (s ++ a :: t).Sublist (p ++ z)) : (s ++ [a]).Sublist p := by
  obtain ⟨w1, w2, e, h1, h2⟩ := List.sublist_append_iff.mp h
  rcases List.append_eq_append_iff.mp e with ⟨as, e1, e2⟩ | ⟨bs, e1, e2⟩
  · cases as with
    | nil =>
      rw [List.nil_append] at e2
      rw [e2] at hn
      exact absurd h2 hn
    | cons x as =>
      rw [List.cons_append] at e2
      injection e2 with e3 e4
      subst e3
      refine List.Sublist.trans ?_ h1
      rw [e1]
      exact (List.Sublist.refl s).append ((List.nil_sublist as).cons₂ a)
  · rw [e2] at h2
    exact absurd ((List.sublist_append_right bs _).trans h2) hn
theorem skip {c : Nat} {t q2 : List Nat} : ∀ {q1 : List Nat}, c ∉ q1 → (c :: t).Sublist (q1 ++ c :: q2) → t.Sublist q2
  | [], _, h => List.cons_sublist_cons.mp h
  | x :: q1, hc, h => by
    rcases List.sublist_cons_iff.mp h with z | ⟨r, e, _⟩
    · exact skip (fun y => hc (List.mem_cons_of_mem _ y)) z
    · injection e with e
      exact absurd (by rw [e]; exact List.mem_cons_self) hc
theorem sub_ne {a b : Nat} {t r : List Nat} (h : a ≠ b) (z : (a :: t).Sublist (b :: r)) : (a :: t).Sublist r := by
  rcases List.sublist_cons_iff.mp z with z | ⟨r, e, _⟩
  · exact z
  · injection e with e
    exact absurd e h
section
variable {d : Nat} {p q r : List Nat} {a b : Nat}
theorem occ (hne : a ≠ b) (hA : Alike d (p ++ a :: q) (p ++ b :: r)) (Ru : Reduced d (p ++ a :: q)) : a ∈ r := by
  obtain ⟨v1, l1, s1, n1⟩ := Lf_ex p a
  obtain ⟨v2, l2, s2, n2⟩ := Rf_ex q a
  have h1 := Ru p a q rfl
  have h2 := (hA (v1 ++ a :: v2) (by rw [List.length_append, List.length_cons]; omega)).mp (s1.append (s2.cons₂ a))
  exact (sub_ne hne (push n1 h2)).subset List.mem_cons_self
theorem one_way (hne : a ≠ b) (hA : Alike d (p ++ a :: q) (p ++ b :: r)) (Rv : Reduced d (p ++ b :: r)) : Lf p b ≤ Lf p a ∧ d + 1 ≤ Lf p a + Rf r b + 2 := by
  obtain ⟨v1, l1, s1, n1⟩ := Lf_ex p a
  obtain ⟨w1, m1, t1, k1⟩ := Lf_ex p b
  obtain ⟨t, lt, st, nt⟩ := Rf_ex r b
  have h1 := Rv p b r rfl
  have h2 := (hA (w1 ++ b :: t) (by rw [List.length_append, List.length_cons]; omega)).mpr (t1.append (st.cons₂ b))
  have h3 := sub_ne hne.symm (push k1 h2)
  have key : ¬ (Lf p a + Rf r b + 2 ≤ d) := by
    intro hz
    have h4 := (hA (v1 ++ a :: b :: t) (by rw [List.length_append, List.length_cons, List.length_cons]; omega)).mp (s1.append (h3.cons₂ a))
    have h5 := sub_ne hne (push n1 h4)
    exact nt ((List.sublist_cons_self a _).trans h5)
  omega
theorem Lf_ge {L : Nat} {b : Nat} {p : List Nat} : ∀ z : List Nat, b ∉ z → L ≤ Lf p b → (∀ z1 c z2, z = z1 ++ c :: z2 → L ≤ Lf (p ++ z1) c) → L ≤ Lf (p ++ z) b := by
  intro z
  generalize hn : z.length = n
  induction n generalizing z with
  | zero =>
    intro _ h _
    rw [List.eq_nil_of_length_eq_zero hn, List.append_nil]
    exact h
  | succ n ih =>
    obtain ⟨z0, c, rfl⟩ : ∃ z0 b, z = z0 ++ [b] := by
      have : z ≠ [] := by intro y; rw [y] at hn; cases hn
      exact ⟨z.dropLast, z.getLast this, (List.dropLast_concat_getLast this).symm⟩
    intro hb h hc
    have hbc : b ≠ c := fun e => hb (by rw [e]; simp)
    rw [← List.append_assoc, Lf_snoc, if_neg hbc]
    have i1 := ih z0 (by simpa using hn) (fun y => hb (List.mem_append_left _ y)) h (fun z1 x z2 e => hc z1 x (z2 ++ [c]) (by rw [e]; simp))
    have i2 := hc z0 c [] rfl
    omega
/-- all letters from a to the next b have the same ranks -/
theorem level {q1 q2 : List Nat} (hne : a ≠ b) (hb : b ∉ q1) (hq : q = q1 ++ b :: q2) (hA : Alike d (p ++ a :: q) (p ++ b :: r)) (Ru : Reduced d (p ++ a :: q)) (Rv : Reduced d (p ++ b :: r)) :
    ∃ L R, L + R + 2 = d + 1 ∧ ∀ z c z', a :: (q1 ++ [b]) = z ++ c :: z' → Lf (p ++ z) c = L ∧ Rf (z' ++ q2) c = R := by
  obtain ⟨o1, o2⟩ := one_way hne hA Rv
  obtain ⟨o3, o4⟩ := one_way hne.symm hA.symm Ru
  have ra := Ru p a q rfl
  have rb := Rv p b r rfl
  obtain ⟨v1, l1, s1, n1⟩ := Lf_ex p a
  obtain ⟨w1, m1, t1, k1⟩ := Lf_ex p b
  obtain ⟨t, lt, st, nt⟩ := Rf_ex r b
  have h2 := (hA (w1 ++ b :: t) (by rw [List.length_append, List.length_cons]; omega)).mpr (t1.append (st.cons₂ b))
  have h3 := sub_ne hne.symm (push k1 h2)
  have ht2 : t.Sublist q2 := skip hb (hq ▸ h3)
  -- the ranks from the right are at least R
  have right : ∀ z c z', a :: (q1 ++ [b]) = z ++ c :: z' → z ≠ [] → Rf q a ≤ Rf (z' ++ q2) c := by
    intro z c z' e hz
    apply Nat.le_of_not_lt
    intro hlt
    obtain ⟨t0, lt0, st0, nt0⟩ := Rf_ex (z' ++ q2) c
    obtain ⟨x, z0, rfl⟩ : ∃ x z0, z = x :: z0 := by
      cases z with
      | nil => exact absurd rfl hz
      | cons x z0 => exact ⟨x, z0, rfl⟩
    rw [List.cons_append] at e
    injection e with e1 e2
    subst e1
    have hq' : q = z0 ++ c :: (z' ++ q2) := by
      rw [hq]
      have : q1 ++ b :: q2 = (q1 ++ [b]) ++ q2 := by simp
      rw [this, e2]
      simp
    have g1 : (v1 ++ a :: c :: t0).Sublist (p ++ a :: q) := by
      refine s1.append (List.Sublist.cons₂ a ?_)
      rw [hq']
      exact (st0.cons₂ c).trans (List.sublist_append_right _ _)
    have g2 := (hA _ (by rw [List.length_append, List.length_cons, List.length_cons]; omega)).mp g1
    have g3 : (c :: t0).Sublist r := (List.sublist_cons_self a _).trans (sub_ne hne (push n1 g2))
    have g4 := (hA (w1 ++ b :: c :: t0) (by rw [List.length_append, List.length_cons, List.length_cons]; omega)).mpr (t1.append (g3.cons₂ b))
    have g5 : (c :: t0).Sublist q2 := skip hb (hq ▸ sub_ne hne.symm (push k1 g4))
    exact nt0 (g5.trans (List.sublist_append_right _ _))
  -- the ranks from the left are at least L
  have left : ∀ z c z', q1 = z ++ c :: z' → Lf p a ≤ Lf (p ++ a :: z) c := by
    intro z c z' e
    apply Nat.le_of_not_lt
    intro hlt
    obtain ⟨s0, ls0, ss0, ns0⟩ := Lf_ex (p ++ a :: z) c
    have g1 : ((s0 ++ [c]) ++ b :: t).Sublist (p ++ a :: q) := by
      have e1 : p ++ a :: q = ((p ++ a :: z) ++ [c]) ++ (z' ++ b :: q2) := by
        rw [hq, e]; simp
      rw [e1]
      exact (ss0.append (List.Sublist.refl [c])).append ((ht2.cons₂ b).trans (List.sublist_append_right _ _))
    have g2 := (hA _ (by simp; omega)).mp g1
    have e2 : p ++ b :: r = (p ++ [b]) ++ r := by simp
    rw [e2] at g2
    have g3 := sub_snoc.mp (pull nt g2)
    exact ns0 (g3.trans (List.sublist_append_left _ _))
  refine ⟨Lf p a, Rf q a, by omega, ?_⟩
  intro z c z' e
  cases z with
  | nil =>
    injection e with e1 e2
    subst e1
    rw [← e2, List.append_nil]
    refine ⟨rfl, ?_⟩
    rw [hq]
    simp
  | cons x z0 =>
    have r1 := right (x :: z0) c z' e (by simp)
    rw [List.cons_append] at e
    injection e with e1 e2
    subst e1
    have hu : p ++ a :: q = (p ++ a :: z0) ++ c :: (z' ++ q2) := by
      rw [hq]
      have : q1 ++ b :: q2 = (q1 ++ [b]) ++ q2 := by simp
      rw [this, e2]
      simp
    have r2 := Ru _ _ _ hu
    have r3 : Lf p a ≤ Lf (p ++ a :: z0) c := by
      rcases List.append_eq_append_iff.mp e2 with ⟨as, f1, f2⟩ | ⟨bs, f1, f2⟩
      · cases as with
        | nil =>
          rw [List.append_nil] at f1
          rw [List.nil_append] at f2
          injection f2 with f3 f4
          subst f3
          subst f1
          have e9 : p ++ a :: z0 = (p ++ [a]) ++ z0 := by simp
          have := Lf_ge (L := Lf p a) (b := b) (p := p) (a :: z0) (fun y => by
            rcases List.mem_cons.mp y with y | y
            · exact hne y.symm
            · exact hb y) (by omega) (fun z1 c z2 e => by
              cases z1 with
              | nil =>
                injection e with e1 e2
                subst e1
                rw [List.append_nil]
                exact Nat.le_refl _
              | cons x z1 =>
                rw [List.cons_append] at e
                injection e with e1 e2
                subst e1
                exact left z1 c z2 e2)
          exact this
        | cons y as =>
          exfalso
          have := congrArg List.length f2
          simp at this
      · cases bs with
        | nil =>
          rw [List.nil_append] at f2
          injection f2 with f3 f4
          subst f3
          rw [List.append_nil] at f1
          subst f1
          exact Lf_ge (L := Lf p a) (b := c) (p := p) (a :: q1) (fun y => by
            rcases List.mem_cons.mp y with y | y
            · exact hne y.symm
            · exact hb y) (by omega) (fun z1 c z2 e => by
              cases z1 with
              | nil =>
                injection e with e1 e2
                subst e1
                rw [List.append_nil]
                exact Nat.le_refl _
              | cons x z1 =>
                rw [List.cons_append] at e
                injection e with e1 e2
                subst e1
                exact left z1 c z2 e2)
        | cons y bs =>
          rw [List.cons_append] at f2
          injection f2 with f3 f4
          subst f3
          exact left z0 c bs f1
    omega
theorem less (hne : a ≠ b) (hA : Alike d (p ++ a :: q) (p ++ b :: r)) (Ru : Reduced d (p ++ a :: q)) (Rv : Reduced d (p ++ b :: r)) (Iu : InOrder d (p ++ a :: q)) : a < b := by
  obtain ⟨q1, q2, hq, hb⟩ := List.eq_append_cons_of_mem (occ hne.symm hA.symm Rv)
  obtain ⟨L, R, hs, hall⟩ := level hne hb hq hA Ru Rv
  have key : ∀ n z c z', z.length = n → a :: (q1 ++ [b]) = z ++ c :: z' → a ≤ c := by
    intro n
    induction n with
    | zero =>
      intro z c z' hz e
      rw [List.eq_nil_of_length_eq_zero hz] at e
      injection e with e1 e2
      omega
    | succ n ih =>
      intro z c z' hz e
      obtain ⟨z0, c0, rfl⟩ : ∃ z0 b, z = z0 ++ [b] := by
        have : z ≠ [] := by intro y; rw [y] at hz; cases hz
        exact ⟨z.dropLast, z.getLast this, (List.dropLast_concat_getLast this).symm⟩
      have e1 : a :: (q1 ++ [b]) = z0 ++ c0 :: (c :: z') := by rw [e]; simp
      have i1 := ih z0 c0 _ (by simpa using hz) e1
      obtain ⟨x1, x2⟩ := hall _ _ _ e1
      obtain ⟨y1, y2⟩ := hall _ _ _ e
      have hu : p ++ a :: q = (p ++ z0) ++ c0 :: c :: (z' ++ q2) := by
        rw [hq]
        have : a :: (q1 ++ b :: q2) = (a :: (q1 ++ [b])) ++ q2 := by simp
        rw [this, e1]
        simp
      have e5 : p ++ (z0 ++ [c0]) = (p ++ z0) ++ [c0] := by simp
      rw [e5] at y1
      have i2 := Iu _ _ _ _ hu (by omega) (by rw [List.cons_append] at x2; omega) (by omega)
      omega
  have := key _ (a :: q1) b [] rfl (by simp)
  omega
end
theorem first_diff : ∀ u v : List Nat, u = v ∨ (∃ a q, u = v ++ a :: q) ∨ (∃ b r, v = u ++ b :: r) ∨ ∃ p a q b r, a ≠ b ∧ u = p ++ a :: q ∧ v = p ++ b :: r
  | [], [] => .inl rfl
  | a :: u, [] => .inr (.inl ⟨a, u, rfl⟩)
  | [], b :: v => .inr (.inr (.inl ⟨b, v, rfl⟩))
  | a :: u, b :: v => by
    by_cases e : a = b
    · subst e
      rcases first_diff u v with h | ⟨x, q, h⟩ | ⟨x, q, h⟩ | ⟨p, x, q, y, r, h1, h2, h3⟩
      · exact .inl (by rw [h])
      · exact .inr (.inl ⟨x, q, by rw [h]; rfl⟩)
      · exact .inr (.inr (.inl ⟨x, q, by rw [h]; rfl⟩))
      · exact .inr (.inr (.inr ⟨a :: p, x, q, y, r, h1, by rw [h2]; rfl, by rw [h3]; rfl⟩))
    · exact .inr (.inr (.inr ⟨[], a, u, b, v, e, rfl, rfl⟩))
theorem not_longer {d : Nat} {p q : List Nat} {a : Nat} (hA : Alike d (p ++ a :: q) p) (Ru : Reduced d (p ++ a :: q)) : False := by
  obtain ⟨v1, l1, s1, n1⟩ := Lf_ex p a
  have h1 := Ru p a q rfl
  exact n1 ((hA (v1 ++ [a]) (by rw [List.length_append, List.length_singleton]; omega)).mp (s1.append ((List.nil_sublist q).cons₂ a)))
theorem nf_uniq {d : Nat} {u v : List Nat} (hA : Alike d u v) (Ru : Reduced d u) (Rv : Reduced d v) (Iu : InOrder d u) (Iv : InOrder d v) : u = v := by
  rcases first_diff u v with h | ⟨x, q, rfl⟩ | ⟨x, q, rfl⟩ | ⟨p, a, q, b, r, hne, rfl, rfl⟩
  · exact h
  · exact (not_longer hA Ru).elim
  · exact (not_longer hA.symm Rv).elim
  · have h1 := less hne hA Ru Rv Iu
    have h2 := less hne.symm hA.symm Rv Ru Iv
    omega
end Sk

set_option Elab.async false
set_option linter.all false
set_option maxRecDepth 100000
set_option maxHeartbeats 4000000
/-! Sk: the dict of the ranks; lists of ranks. -/
namespace Sk
open PySem PySem.Spec PyProof.Rows L2
theorem Lf_fresh {p : List Nat} {c : Nat} (h : c ∉ p) : Lf p c = 0 := by
  have := Lf_le (p := p) (v := []) (a := c) (List.nil_sublist _) (fun z => h (z.subset (by simp)))
  simpa using this
def fmin (r : Int) : V → V
  | .int m => .int (if r < m then r else m)
  | v => v
structure LeastAt (p : List Nat) (kvs : List (Key × V)) : Prop where
  nd : (kvs.map (·.1)).Nodup
  len : kvs.length ≤ p.length
  at_ : ∀ c, valV kvs (.inr (tx [c])) = if c ∈ p then some (V.int (Lf p c : Nat)) else none
  keys : ∀ kv ∈ kvs, ∃ c ∈ p, kv = (.inr (tx [c]), V.int (Lf p c : Nat))
theorem least_nil : LeastAt [] [] := ⟨List.nodup_nil, Nat.le_refl _, fun c => rfl, fun p hp => by cases hp⟩
theorem valV_map (f : Key → V → V) (k : Key) : ∀ kvs : List (Key × V), valV (kvs.map fun kv => (kv.1, f kv.1 kv.2)) k = (valV kvs k).map (f k)
  | [] => rfl
  | p :: r => by
    have ih := valV_map f k r
    unfold valV at ih ⊢
    rw [List.map_cons, List.find?_cons, List.find?_cons]
    by_cases e : p.1 = k
    · simp [e]
    · simp only [e, decide_false]
      exact ih
theorem least_key {c c' : Nat} : (Sum.inr (tx [c]) : Key) = .inr (tx [c']) ↔ c = c' := by
  constructor
  · intro z
    injection z with z
    have := tx_inj z
    injection this
  · intro z; rw [z]
theorem least_step {p : List Nat} {kvs : List (Key × V)} (h : LeastAt p kvs) (c : Nat) :
    LeastAt (p ++ [c]) (putK (kvs.map fun kv => (kv.1, fmin ((Lf p c : Int) + 1) kv.2)) (.inr (tx [c])) (.int ((Lf p c : Int) + 1))) := by
  have hk : (kvs.map fun kv => (kv.1, fmin ((Lf p c : Int) + 1) kv.2)).map (·.1) = kvs.map (·.1) := by
    rw [List.map_map]
    rfl
  have hat : ∀ c', valV (putK (kvs.map fun kv => (kv.1, fmin ((Lf p c : Int) + 1) kv.2)) (.inr (tx [c])) (.int ((Lf p c : Int) + 1))) (.inr (tx [c'])) = if c' ∈ p ++ [c] then some (V.int (Lf (p ++ [c]) c' : Nat)) else none := by
    intro c'
    rw [valV_put]
    by_cases e : c' = c
    · subst e
      rw [if_pos rfl, if_pos (by simp), Lf_snoc, if_pos rfl]
      rfl
    · rw [if_neg (fun z => e (least_key.mp z)), valV_map (fun _ => fmin ((Lf p c : Int) + 1)), h.at_, Lf_snoc, if_neg e]
      by_cases hm : c' ∈ p
      · rw [if_pos hm, if_pos (List.mem_append_left _ hm)]
        show some (V.int _) = _
        congr 2
        split <;> omega
      · rw [if_neg hm, if_neg (by simp [hm, e])]
        rfl
  refine ⟨putK_nodup (by rw [hk]; exact h.nd), ?_, hat, fun kv hkv => ?_⟩
  · have := length_putK (kvs.map fun kv => (kv.1, fmin ((Lf p c : Int) + 1) kv.2)) (.inr (tx [c])) (.int ((Lf p c : Int) + 1))
    rw [List.length_map] at this
    have := h.len
    rw [List.length_append, List.length_singleton]
    omega
  · have key : ∃ c' ∈ p ++ [c], kv.1 = .inr (tx [c']) := by
      rcases putK_mem hkv with e | ⟨p', hp', e⟩
      · exact ⟨c, by simp, e⟩
      · obtain ⟨q, hq, rfl⟩ := List.mem_map.mp hp'
        obtain ⟨c', hc', e2⟩ := h.keys q hq
        exact ⟨c', List.mem_append_left _ hc', by rw [← e, e2]⟩
    obtain ⟨c', hc', e⟩ := key
    have gen : ∀ (L : List (Key × V)), (L.map (·.1)).Nodup → kv ∈ L → valV L kv.1 = some kv.2 := by
      intro L
      induction L with
      | nil => intro _ z; cases z
      | cons q r ih =>
        intro nd hm
        rw [List.map_cons, List.nodup_cons] at nd
        rcases List.mem_cons.mp hm with e | e
        · subst e
          exact valV_pos rfl
        · unfold valV
          rw [List.find?_cons]
          have hne : q.1 ≠ kv.1 := fun e2 => nd.1 (by rw [e2]; exact List.mem_map.mpr ⟨_, e, rfl⟩)
          rw [decide_eq_false hne]
          exact ih nd.2 e
    have g := gen _ (putK_nodup (by rw [hk]; exact h.nd)) hkv
    rw [e, hat c', if_pos hc'] at g
    refine ⟨c', hc', ?_⟩
    obtain ⟨k, v⟩ := kv
    simp only at e g
    rw [e, ← Option.some.inj g]
/-- the ranks of a text's letters behind p -/
def rkf (p : List Nat) : List Nat → List Nat
  | [] => []
  | c :: r => (Lf p c + 1) :: rkf (p ++ [c]) r
theorem rkf_len (l : List Nat) : ∀ p, (rkf p l).length = l.length := by
  induction l with
  | nil => intro p; rfl
  | cons c r ih => intro p; show (rkf (p ++ [c]) r).length + 1 = _; rw [ih]; rfl
theorem rkf_get (l : List Nat) : ∀ (p : List Nat) (i : Nat), (rkf p l)[i]? = (l[i]?).map fun c => Lf (p ++ l.take i) c + 1 := by
  induction l with
  | nil => intro p i; rfl
  | cons c r ih =>
    intro p i
    cases i with
    | zero => simp [rkf]
    | succ i =>
      show (rkf (p ++ [c]) r)[i]? = (r[i]?).map fun x => Lf (p ++ (c :: r).take (i + 1)) x + 1
      rw [ih]
      simp
theorem rkf_take (l : List Nat) (i : Nat) (c : Nat) (h : l[i]? = some c) : (rkf [] l).take (i + 1) = (rkf [] l).take i ++ [Lf (l.take i) c + 1] := by
  have := rkf_get l [] i
  rw [h] at this
  rw [List.take_add_one, this]
  simp
/-- the ranks from the right -/
theorem rkr_get (l : List Nat) (i : Nat) : ((rkf [] l.reverse).reverse)[i]? = (l[i]?).map fun c => Rf (l.drop (i + 1)) c + 1 := by
  by_cases hi : i < l.length
  · rw [List.getElem?_reverse (by rw [rkf_len, List.length_reverse]; exact hi), rkf_len, List.length_reverse, rkf_get]
    rw [List.getElem?_reverse (by omega), List.getElem?_eq_getElem hi]
    have e : l.length - 1 - (l.length - 1 - i) = i := by omega
    rw [e, List.getElem?_eq_getElem hi]
    simp only [Option.map_some, List.nil_append]
    unfold Rf
    congr 3
    rw [List.take_reverse]
    congr 2
    omega
  · rw [List.getElem?_eq_none (by rw [List.length_reverse, rkf_len, List.length_reverse]; omega), List.getElem?_eq_none (by omega)]
    rfl
end Sk

set_option Elab.async false
set_option linter.all false
set_option maxRecDepth 100000
set_option maxHeartbeats 4000000
/-! Sk: rows of texts from one to the next by single letters; putting in order. -/
namespace Sk
/-- v is u without one letter -/
def Less1 (u v : List Nat) : Prop := ∃ p a q, u = p ++ a :: q ∧ v = p ++ q
def By1 (u v : List Nat) : Prop := Less1 u v ∨ Less1 v u
/-- the last of a row -/
def fin : List Nat → List (List Nat) → List Nat
  | u, [] => u
  | _, v :: r => fin v r
def Row (R : List Nat → List Nat → Prop) : List Nat → List (List Nat) → Prop
  | _, [] => True
  | u, v :: r => R u v ∧ Row R v r
theorem fin_snoc (u : List Nat) : ∀ (r : List (List Nat)) (x : List Nat), fin u (r ++ [x]) = x := by
  intro r
  induction r generalizing u with
  | nil => intro x; rfl
  | cons v r ih => intro x; exact ih v x
theorem fin_append (u : List Nat) (b : List (List Nat)) : ∀ a : List (List Nat), fin u (a ++ b) = fin (fin u a) b := by
  intro a
  induction a generalizing u with
  | nil => rfl
  | cons v r ih => exact ih v
theorem row_append {R : List Nat → List Nat → Prop} {u : List Nat} {b : List (List Nat)} : ∀ {a : List (List Nat)}, Row R u (a ++ b) ↔ Row R u a ∧ Row R (fin u a) b := by
  intro a
  induction a generalizing u with
  | nil => exact ⟨fun h => ⟨trivial, h⟩, fun h => h.2⟩
  | cons v r ih =>
    show R u v ∧ Row R v (r ++ b) ↔ (R u v ∧ Row R v r) ∧ Row R (fin v r) b
    rw [ih, and_assoc]
theorem row_mono {R S : List Nat → List Nat → Prop} (h : ∀ u v, R u v → S u v) : ∀ {u : List Nat} {a : List (List Nat)}, Row R u a → Row S u a := by
  intro u a
  induction a generalizing u with
  | nil => exact fun _ => trivial
  | cons v r ih => exact fun z => ⟨h _ _ z.1, ih z.2⟩
theorem last_get (u : List Nat) : ∀ r : List (List Nat), (u :: r)[r.length]? = some (fin u r) := by
  intro r
  induction r generalizing u with
  | nil => rfl
  | cons v r ih => exact ih v
/-- a letter goes, and no word of d letters with it -/
def Del (d : Nat) (u v : List Nat) : Prop := Less1 u v ∧ Alike d u v
def Stp (d : Nat) (u v : List Nat) : Prop := By1 u v ∧ Alike d u v
theorem Del.stp {d : Nat} {u v : List Nat} (h : Del d u v) : Stp d u v := ⟨.inl h.1, h.2⟩
theorem row_alike {d : Nat} : ∀ {u : List Nat} {r : List (List Nat)}, Row (Stp d) u r → Alike d u (fin u r) := by
  intro u r
  induction r generalizing u with
  | nil => exact fun _ => Alike.refl d u
  | cons v r ih => exact fun z => z.1.2.trans (ih z.2)
theorem rowD_len {d : Nat} : ∀ {u : List Nat} {r : List (List Nat)}, Row (Del d) u r → (fin u r).length + r.length = u.length := by
  intro u r
  induction r generalizing u with
  | nil => exact fun _ => rfl
  | cons v r ih =>
    rintro ⟨⟨⟨p, a, q, rfl, rfl⟩, _⟩, h⟩
    have := ih h
    rw [List.length_append] at this
    rw [List.length_cons, List.length_append, List.length_cons]
    show (fin (p ++ q) r).length + (r.length + 1) = _
    omega
theorem rowD_sub {d : Nat} : ∀ {u : List Nat} {r : List (List Nat)}, Row (Del d) u r → ∀ x ∈ u :: r, x.length ≤ u.length ∧ ∀ c ∈ x, c ∈ u := by
  intro u r
  induction r generalizing u with
  | nil =>
    intro _ x hx
    rw [List.mem_singleton.mp hx]
    exact ⟨Nat.le_refl _, fun c h => h⟩
  | cons v r ih =>
    rintro ⟨⟨⟨p, a, q, rfl, rfl⟩, _⟩, h⟩ x hx
    rcases List.mem_cons.mp hx with e | e
    · rw [e]
      exact ⟨Nat.le_refl _, fun c h => h⟩
    · obtain ⟨i1, i2⟩ := ih h x e
      rw [List.length_append] at i1
      refine ⟨by rw [List.length_append, List.length_cons]; omega, fun c hc => ?_⟩
      rcases List.mem_append.mp (i2 c hc) with z | z
      · exact List.mem_append_left _ z
      · exact List.mem_append_right _ (List.mem_cons_of_mem _ z)
theorem fin_mem (u : List Nat) : ∀ r : List (List Nat), fin u r ∈ u :: r := by
  intro r
  induction r generalizing u with
  | nil => exact List.mem_cons_self
  | cons v r ih => exact List.mem_cons_of_mem _ (ih v)
theorem reduced_at {d : Nat} {u : List Nat} (h : ∀ j c, u[j]? = some c → Lf (u.take j) c + Rf (u.drop (j + 1)) c + 2 ≤ d + 1) : Reduced d u := by
  intro p c q e
  have := h p.length c (by rw [e]; simp)
  rw [e] at this
  simpa using this
theorem Reduced.at {d : Nat} {u : List Nat} (h : Reduced d u) {j c : Nat} (hc : u[j]? = some c) : Lf (u.take j) c + Rf (u.drop (j + 1)) c + 2 ≤ d + 1 := by
  refine h (u.take j) c (u.drop (j + 1)) ?_
  obtain ⟨h1, h2⟩ := List.getElem?_eq_some_iff.mp hc
  rw [← h2, List.getElem_cons_drop, List.take_append_drop]
/-! ### the profile of ranks -/
def rx (l : List Nat) (j : Nat) : Option Nat := (l[j]?).map fun c => Lf (l.take j) c
def ry (l : List Nat) (j : Nat) : Option Nat := (l[j]?).map fun c => Rf (l.drop (j + 1)) c
theorem Lf_app (p z : List Nat) : Lf (p ++ z) = z.foldl stp (Lf p) := by
  unfold Lf
  rw [List.foldl_append]
theorem Rf_app (z q : List Nat) : Rf (z ++ q) = z.reverse.foldl stp (Rf q) := by
  unfold Rf
  rw [List.reverse_append, Lf_app]
theorem Pair.prof {d : Nat} {p q : List Nat} {a b : Nat} (h : Pair d p a b q) (j : Nat) : rx (p ++ a :: b :: q) j = rx (p ++ b :: a :: q) j ∧ ry (p ++ a :: b :: q) j = ry (p ++ b :: a :: q) j := by
  have hl := h.l
  have hr := h.r
  have hne := h.ne
  unfold rx ry
  by_cases h1 : j < p.length
  · rw [List.getElem?_append_left h1, List.getElem?_append_left h1, List.take_append_of_le_length (by omega), List.take_append_of_le_length (by omega), List.drop_append_of_le_length (by omega), List.drop_append_of_le_length (by omega)]
    refine ⟨rfl, ?_⟩
    rw [Rf_app, Rf_app, show Rf (a :: b :: q) = Rf (b :: a :: q) from funext h.rf]
  by_cases h2 : j = p.length
  · subst h2
    have e1 : ∀ x y : Nat, (p ++ x :: y :: q)[p.length]? = some x := fun x y => by simp
    have e2 : ∀ x y : Nat, (p ++ x :: y :: q).take p.length = p := fun x y => by simp
    have e3 : ∀ x y : Nat, (p ++ x :: y :: q).drop (p.length + 1) = y :: q := fun x y => by
      rw [List.drop_append]; simp
    rw [e1, e1, e2, e2, e3, e3]
    simp only [Option.map_some, Option.some.injEq]
    rw [Rf_cons, Rf_cons, if_neg hne, if_neg hne.symm]
    omega
  by_cases h3 : j = p.length + 1
  · subst h3
    have e1 : ∀ x y : Nat, (p ++ x :: y :: q)[p.length + 1]? = some y := fun x y => by
      rw [List.getElem?_append_right (by omega)]; simp
    have e2 : ∀ x y : Nat, (p ++ x :: y :: q).take (p.length + 1) = p ++ [x] := fun x y => by
      rw [List.take_append, List.take_of_length_le (by omega)]; simp
    have e3 : ∀ x y : Nat, (p ++ x :: y :: q).drop (p.length + 1 + 1) = q := fun x y => by
      rw [List.drop_append, List.drop_of_length_le (by omega)]; simp [show p.length + 1 + 1 - p.length = 2 by omega]
    rw [e1, e1, e2, e2, e3, e3]
    simp only [Option.map_some, Option.some.injEq]
    rw [Lf_snoc, Lf_snoc, if_neg hne, if_neg hne.symm]
    omega
  · obtain ⟨k, rfl⟩ : ∃ k, j = p.length + (k + 2) := ⟨j - p.length - 2, by omega⟩
    have e1 : ∀ x y : Nat, (p ++ x :: y :: q)[p.length + (k + 2)]? = q[k]? := fun x y => by
      rw [List.getElem?_append_right (by omega)]; simp [show p.length + (k + 2) - p.length = k + 2 by omega]
    have e2 : ∀ x y : Nat, (p ++ x :: y :: q).take (p.length + (k + 2)) = (p ++ [x, y]) ++ q.take k := fun x y => by
      rw [List.take_append, List.take_of_length_le (by omega), show p.length + (k + 2) - p.length = k + 2 by omega]
      simp
    have e3 : ∀ x y : Nat, (p ++ x :: y :: q).drop (p.length + (k + 2) + 1) = q.drop (k + 1) := fun x y => by
      rw [List.drop_append, List.drop_of_length_le (by omega), show p.length + (k + 2) + 1 - p.length = (k + 1) + 2 by omega]
      simp
    rw [e1, e1, e2, e2, e3, e3]
    refine ⟨?_, rfl⟩
    rw [Lf_app (p ++ [a, b]), Lf_app (p ++ [b, a]), show Lf (p ++ [a, b]) = Lf (p ++ [b, a]) from funext h.lf]
/-! ### how far from order -/
def inv : List Nat → Nat
  | [] => 0
  | c :: r => (r.filter (· < c)).length + inv r
theorem inv_swap {a b : Nat} (h : b < a) (q : List Nat) : ∀ p : List Nat, inv (p ++ a :: b :: q) = inv (p ++ b :: a :: q) + 1
  | [] => by
    show ((b :: q).filter (· < a)).length + ((q.filter (· < b)).length + inv q) = ((a :: q).filter (· < b)).length + ((q.filter (· < a)).length + inv q) + 1
    rw [List.filter_cons_of_pos (by simpa using h), List.filter_cons_of_neg (by simp; omega), List.length_cons]
    omega
  | c :: p => by
    show ((p ++ a :: b :: q).filter (· < c)).length + inv (p ++ a :: b :: q) = ((p ++ b :: a :: q).filter (· < c)).length + inv (p ++ b :: a :: q) + 1
    rw [inv_swap h q p]
    have e : ((p ++ a :: b :: q).filter (· < c)).length = ((p ++ b :: a :: q).filter (· < c)).length := by
      have hp : (p ++ a :: b :: q).Perm (p ++ b :: a :: q) := List.Perm.append_left p (List.Perm.swap b a q)
      exact (hp.filter _).length_eq
    omega
theorem inv_le : ∀ l : List Nat, inv l ≤ l.length * l.length
  | [] => Nat.le_refl _
  | c :: r => by
    have h1 := inv_le r
    have h2 := List.length_filter_le (fun x => decide (x < c)) r
    show (r.filter (· < c)).length + inv r ≤ (r.length + 1) * (r.length + 1)
    have : (r.length + 1) * (r.length + 1) = r.length * r.length + r.length + r.length + 1 := by
      rw [Nat.add_mul, Nat.mul_add]; omega
    omega
/-- the least form of a text -/
structure NF (d : Nat) (u v : List Nat) : Prop where
  al : Alike d u v
  red : Reduced d v
  ord : InOrder d v
theorem NF.eq {d : Nat} {u v u' v' : List Nat} (h : NF d u v) (h' : NF d u' v') (e : Alike d u u') : v = v' :=
  nf_uniq ((h.al.symm.trans e).trans h'.al) h.red h'.red h.ord h'.ord
theorem NF.iff {d : Nat} {u v u' v' : List Nat} (h : NF d u v) (h' : NF d u' v') : v = v' ↔ Alike d u u' :=
  ⟨fun e => (h.al.trans (e ▸ Alike.refl d v)).trans h'.al.symm, h.eq h'⟩
/-- out of order at j -/
def Bad (d : Nat) (t : List Nat) (j : Nat) : Prop := ∃ p a b q, t = p ++ a :: b :: q ∧ p.length = j ∧ Pair d p a b q ∧ b < a
theorem inOrder_of {d : Nat} {t : List Nat} (h : ∀ j, j + 1 < t.length → ¬ Bad d t j) : InOrder d t := by
  intro p a b q e h1 h2 h3
  apply Nat.le_of_not_lt
  intro z
  refine h p.length ?_ ⟨p, a, b, q, e, rfl, pair_of h1 h2 h3, z⟩
  rw [e, List.length_append, List.length_cons, List.length_cons]
  omega
end Sk

set_option Elab.async false
set_option linter.all false
set_option maxRecDepth 100000
set_option maxHeartbeats 4000000
/-! Sk: the last of a list; pairs of ints alike; a while with its number. -/
namespace Sk
open PySem PySem.Spec PyProof.Rows L2
theorem atI_last {α : Type} {xs : List α} {v : α} (h : xs[xs.length - 1]? = some v) : atI xs (-1) = some v := by
  have hl := (List.getElem?_eq_some_iff.mp h).1
  have e : ixN xs.length (-1) = some (xs.length - 1) := by
    unfold ixN
    rw [if_neg (by omega), if_pos (by omega)]
    congr 1
    omega
  unfold atI
  rw [e]
  exact h
theorem atI_fin (u : List Nat) (r : List (List Nat)) : atI ((u :: r).map T) (-1) = some (T (fin u r)) := by
  refine atI_last ?_
  rw [List.length_map, List.length_cons, Nat.add_sub_cancel, List.getElem?_map, last_get]
  rfl
theorem eqv_pair (a b c d : Int) : PyData.eqv (.tuple [.int a, .int b]) (.tuple [.int c, .int d]) = decide (a = c ∧ b = d) := by
  simp only [PyData.eqv, PyData.eqvAll]
  by_cases h1 : a = c <;> by_cases h2 : b = d <;> simp [h1, h2]
theorem shaped_pair (a b : Int) : SeqAt.shaped (.tuple [.int a, .int b]) = true := by
  simp [SeqAt.shaped, PyData.canLay0, PyData.canLayAll0, PyData.depth, PyData.depthAll]
end Sk

set_option Elab.async false
set_option linter.all false
set_option maxRecDepth 100000
set_option maxHeartbeats 4000000
/-! Sk: the profile at a place; out of order by the profile. -/
namespace Sk
open PySem PySem.Spec PyProof.Rows L2
/-- whether two texts are read alike -/
noncomputable def alk (d : Nat) (u v : List Nat) : Bool := @decide (Alike d u v) (Classical.propDecidable _)
theorem alk_iff {d : Nat} {u v : List Nat} : alk d u v = true ↔ Alike d u v := @decide_eq_true_iff _ (Classical.propDecidable _)
theorem alk_true {d : Nat} {u v : List Nat} (h : Alike d u v) : alk d u v = true := alk_iff.mpr h
theorem alk_false {d : Nat} {u v : List Nat} (h : ¬ Alike d u v) : alk d u v = false := by
  cases e : alk d u v with
  | false => rfl
  | true => exact absurd (alk_iff.mp e) h
theorem cutV_from (l : List V) (n : Nat) : cutV l (some (n : Int)) none = l.drop n := by
  unfold cutV
  rw [HT.sIx_none, HT.sIx_nat]
  by_cases h : n ≤ l.length
  · rw [Nat.min_eq_left h, List.take_of_length_le (by rw [List.length_drop]; omega)]
  · rw [Nat.min_eq_right (by omega), List.drop_eq_nil_of_le (Nat.le_refl _), List.drop_eq_nil_of_le (by omega), List.take_nil]
theorem cutV_to (l : List V) (n : Nat) : cutV l none (some (n : Int)) = l.take n := by
  unfold cutV
  rw [HT.sIx_none, HT.sIx_nat, List.drop_zero, Nat.sub_zero]
  by_cases h : n ≤ l.length
  · rw [Nat.min_eq_left h]
  · rw [Nat.min_eq_right (by omega), List.take_of_length_le (Nat.le_refl _), List.take_of_length_le (by omega)]
theorem cutV_tail (x : V) (r : List V) : cutV (x :: r) (some 1) none = r := cutV_from (x :: r) 1
theorem one_lt {a b : Nat} : [b] < [a] ↔ b < a := by
  rw [List.cons_lt_cons_iff]
  constructor
  · rintro (h | ⟨_, h⟩)
    · exact h
    · cases h
  · exact .inl
theorem at_split {t : List Nat} {j : Nat} (h : j + 1 < t.length) : ∃ p a b q, t = p ++ a :: b :: q ∧ p.length = j := by
  refine ⟨t.take j, t[j], t[j + 1], t.drop (j + 2), ?_, by rw [List.length_take]; omega⟩
  rw [List.getElem_cons_drop, List.getElem_cons_drop, List.take_append_drop]
theorem prof_split (p q : List Nat) (a b : Nat) : rx (p ++ a :: b :: q) p.length = some (Lf p a) ∧ ry (p ++ a :: b :: q) p.length = some (Rf (b :: q) a) ∧
    rx (p ++ a :: b :: q) (p.length + 1) = some (Lf (p ++ [a]) b) ∧ ry (p ++ a :: b :: q) (p.length + 1) = some (Rf q b) := by
  unfold rx ry
  have e1 : (p ++ a :: b :: q)[p.length]? = some a := by simp
  have e2 : (p ++ a :: b :: q).take p.length = p := by simp
  have e3 : (p ++ a :: b :: q).drop (p.length + 1) = b :: q := by
    rw [List.drop_append]; simp
  have f1 : (p ++ a :: b :: q)[p.length + 1]? = some b := by
    rw [List.getElem?_append_right (by omega)]; simp
  have f2 : (p ++ a :: b :: q).take (p.length + 1) = p ++ [a] := by
    rw [List.take_append, List.take_of_length_le (by omega)]; simp
  have f3 : (p ++ a :: b :: q).drop (p.length + 1 + 1) = q := by
    rw [List.drop_append, List.drop_of_length_le (by omega)]; simp [show p.length + 1 + 1 - p.length = 2 by omega]
  rw [e1, e2, e3, f1, f2, f3]
  exact ⟨rfl, rfl, rfl, rfl⟩
/-- out of order at j, by the profile of l -/
def BadP (d : Nat) (l t : List Nat) (j : Nat) : Prop := rx l j = rx l (j + 1) ∧ ry l j = ry l (j + 1) ∧ (∃ x y, rx l j = some x ∧ ry l j = some y ∧ x + y + 2 = d + 1) ∧ ∃ a b, t[j]? = some a ∧ t[j + 1]? = some b ∧ b < a
theorem order_of {d : Nat} {l t : List Nat} (hp : ∀ j, rx t j = rx l j ∧ ry t j = ry l j) (h : ∀ j, j + 1 < t.length → ¬ BadP d l t j) : InOrder d t := by
  intro p a b q e h1 h2 h3
  apply Nat.le_of_not_lt
  intro z
  obtain ⟨x1, x2, x3, x4⟩ := prof_split p q a b
  rw [← e] at x1 x2 x3 x4
  refine h p.length (by rw [e, List.length_append, List.length_cons, List.length_cons]; omega) ⟨?_, ?_, ⟨_, _, (hp p.length).1 ▸ x1, (hp p.length).2 ▸ x2, by omega⟩, a, b, ?_, ?_, z⟩
  · rw [← (hp _).1, ← (hp _).1, x1, x3, h1]
  · rw [← (hp _).2, ← (hp _).2, x2, x4, h2]
  · rw [e]; simp
  · rw [e, List.getElem?_append_right (by omega)]; simp
theorem reduced_of {d : Nat} {l t : List Nat} (hp : ∀ j, rx t j = rx l j ∧ ry t j = ry l j) (h : Reduced d l) : Reduced d t := by
  refine reduced_at fun j c hc => ?_
  obtain ⟨h1, h2⟩ := hp j
  unfold rx at h1
  unfold ry at h2
  rw [hc] at h1 h2
  cases hl : l[j]? with
  | none => rw [hl] at h1; cases h1
  | some c' =>
    rw [hl] at h1 h2
    have e1 : Lf (t.take j) c = Lf (l.take j) c' := by simpa using h1
    have e2 : Rf (t.drop (j + 1)) c = Rf (l.drop (j + 1)) c' := by simpa using h2
    have := h.at hl
    omega
end Sk

set_option Elab.async false
set_option linter.all false
set_option maxRecDepth 100000
set_option maxHeartbeats 4000000
/-! Sk: lists of the words that are read, lvl by lvl. -/
namespace Sk
open PySem PySem.Spec PyProof.Rows L2
theorem rd_sub : ∀ (l w : List Nat), rd w l = true ↔ w.Sublist l
  | [], [] => by unfold rd; simp
  | [], c :: w => by unfold rd; simp
  | x :: l, [] => by unfold rd; simp
  | x :: l, c :: w => by
    rw [rd]
    by_cases e : c = x
    · subst e
      rw [if_pos rfl, rd_sub l w, List.cons_sublist_cons]
    · rw [if_neg e, rd_sub l (c :: w), List.sublist_cons_iff]
      constructor
      · exact .inl
      · rintro (z | ⟨r, z, _⟩)
        · exact z
        · injection z with z
          exact absurd z e
theorem wds_mem (a : List Nat) : ∀ (n : Nat) (x : List Nat), x ∈ wds a n ↔ x.length = n ∧ ∀ c ∈ x, c ∈ a
  | 0, x => by
    show x ∈ [[]] ↔ _
    rw [List.mem_singleton]
    constructor
    · intro e; subst e; exact ⟨rfl, fun c h => by cases h⟩
    · intro h; exact List.eq_nil_of_length_eq_zero h.1
  | n + 1, x => by
    show x ∈ (wds a n).flatMap (fun w => a.map fun c => w ++ [c]) ↔ _
    rw [List.mem_flatMap]
    constructor
    · rintro ⟨y, hy, h2⟩
      obtain ⟨c, hc, e⟩ := List.mem_map.mp h2
      obtain ⟨i1, i2⟩ := (wds_mem a n y).mp hy
      subst e
      refine ⟨by rw [List.length_append, i1]; rfl, fun d hd => ?_⟩
      rcases List.mem_append.mp hd with z | z
      · exact i2 d z
      · rw [List.mem_singleton.mp z]; exact hc
    · rintro ⟨h1, h2⟩
      have hne : x ≠ [] := by intro z; rw [z] at h1; cases h1
      refine ⟨x.dropLast, (wds_mem a n _).mpr ⟨by rw [List.length_dropLast, h1]; rfl, fun c hc => h2 c ((List.dropLast_sublist x).subset hc)⟩, ?_⟩
      exact List.mem_map.mpr ⟨x.getLast hne, h2 _ (List.getLast_mem hne), List.dropLast_concat_getLast hne⟩
theorem wds_length (a : List Nat) (n : Nat) : (wds a n).length = a.length ^ n := by rw [wds_wdf, wdf_len]
theorem fm_if {α β : Type} (a : List α) (p : α → Bool) (g : α → β) : (List.range a.length).filterMap (fun j => (a[j]?).bind fun x => if p x = true then some (g x) else none) = (a.filter p).map g := by
  induction a with
  | nil => rfl
  | cons x r ih =>
    rw [List.length_cons, List.range_succ_eq_map, List.filterMap_cons, List.filterMap_map, List.filter_cons]
    simp only [List.getElem?_cons_zero, Option.bind_some]
    have e : List.filterMap ((fun j => ((x :: r)[j]?).bind fun x => if p x = true then some (g x) else none) ∘ Nat.succ) (List.range r.length) = (r.filter p).map g := by
      rw [← ih]
      congr 1
    rw [e]
    by_cases h : p x = true
    · rw [if_pos h, if_pos h]
      rfl
    · rw [if_neg h, if_neg h]
/-- one level more -/
def lgr (ws : List (List Nat)) (L u : List Nat) : List (List Nat) := ws.flatMap fun w => (L.filter fun c => rd (w ++ [c]) u).map fun c => w ++ [c]
def lvl (L u : List Nat) (k : Nat) : List (List Nat) := (wds L k).filter fun w => rd w u
theorem lvl_succ (L u : List Nat) (k : Nat) : lgr (lvl L u k) L u = lvl L u (k + 1) := by
  unfold lvl lgr
  show _ = ((wds L k).flatMap fun w => L.map fun c => w ++ [c]).filter _
  induction wds L k with
  | nil => rfl
  | cons w r ih =>
    rw [List.flatMap_cons, List.filter_append, List.filter_cons]
    by_cases h : rd w u = true
    · rw [if_pos h, List.flatMap_cons, ih, List.filter_map]
      rfl
    · rw [if_neg h, ih, List.filter_map]
      have : (L.filter ((fun w => rd w u) ∘ fun c => w ++ [c])) = [] := by
        rw [List.filter_eq_nil_iff]
        intro c _ z
        exact h ((rd_sub u w).mpr ((List.sublist_append_left w [c]).trans ((rd_sub u _).mp z)))
      rw [this]
      rfl
theorem lgr_len (ws : List (List Nat)) (L u : List Nat) : (lgr ws L u).length ≤ ws.length * L.length := by
  unfold lgr
  induction ws with
  | nil => exact Nat.zero_le _
  | cons w r ih =>
    have := List.length_filter_le (fun c => rd (w ++ [c]) u) L
    rw [List.flatMap_cons, List.length_append, List.length_map, List.length_cons, Nat.succ_mul]
    omega
theorem lgr_snoc (ws : List (List Nat)) (w L u : List Nat) : lgr (ws ++ [w]) L u = lgr ws L u ++ (L.filter fun c => rd (w ++ [c]) u).map fun c => w ++ [c] := by
  unfold lgr
  rw [List.flatMap_append, List.flatMap_cons, List.flatMap_nil, List.append_nil]
theorem lvl_len (L u : List Nat) (k : Nat) : (lvl L u k).length ≤ L.length ^ k := by
  unfold lvl
  rw [← wds_length]
  exact List.length_filter_le _ _
/-- the letters of a text, in order -/
def lets (u : List Nat) : List Nat := abcL.filter fun c => decide (c ∈ u)
def readsF (d : Nat) (u : List Nat) : List (List Nat) := (List.range (min d u.length + 1)).flatMap fun k => lvl (lets u) u k
theorem mem_lvl {L u : List Nat} {k : Nat} {w : List Nat} : w ∈ lvl L u k ↔ w.length = k ∧ (∀ c ∈ w, c ∈ L) ∧ w.Sublist u := by
  unfold lvl
  rw [List.mem_filter, wds_mem, rd_sub, and_assoc]
theorem mem_readsF {d : Nat} {u w : List Nat} (hu : ∀ c ∈ u, c ∈ abcL) : w ∈ readsF d u ↔ w.length ≤ d ∧ w.Sublist u := by
  unfold readsF
  rw [List.mem_flatMap]
  constructor
  · rintro ⟨k, hk, h⟩
    obtain ⟨h1, h2, h3⟩ := mem_lvl.mp h
    have := List.mem_range.mp hk
    exact ⟨by omega, h3⟩
  · rintro ⟨h1, h2⟩
    have := h2.length_le
    refine ⟨w.length, List.mem_range.mpr (by omega), mem_lvl.mpr ⟨rfl, fun c hc => ?_, h2⟩⟩
    unfold lets
    rw [List.mem_filter]
    exact ⟨hu c (h2.subset hc), by simpa using h2.subset hc⟩
/-- the same list with levels that have none -/
theorem readsF_all (d : Nat) (u : List Nat) : readsF d u = (List.range (d + 1)).flatMap fun k => lvl (lets u) u k := by
  unfold readsF
  by_cases h : d ≤ u.length
  · rw [Nat.min_eq_left h]
  · rw [Nat.min_eq_right (by omega)]
    obtain ⟨e, rfl⟩ : ∃ e, d = u.length + e := ⟨d - u.length, by omega⟩
    have hr : List.range (u.length + e + 1) = List.range (u.length + 1) ++ (List.range e).map fun x => u.length + 1 + x := by
      rw [show u.length + e + 1 = (u.length + 1) + e by omega]
      exact List.range_add
    rw [hr, List.flatMap_append]
    have : ((List.range e).map fun x => u.length + 1 + x).flatMap (fun k => lvl (lets u) u k) = [] := by
      rw [List.flatMap_eq_nil_iff]
      intro k hk
      obtain ⟨j, _, rfl⟩ := List.mem_map.mp hk
      rw [List.eq_nil_iff_forall_not_mem]
      intro w hw
      obtain ⟨h1, _, h3⟩ := mem_lvl.mp hw
      have := h3.length_le
      omega
    rw [this, List.append_nil]
theorem reads_iff {d : Nat} {u v : List Nat} (hu : ∀ c ∈ u, c ∈ abcL) (hv : ∀ c ∈ v, c ∈ abcL) : readsF d u = readsF d v ↔ Alike d u v := by
  constructor
  · intro e w hw
    constructor
    · intro h
      have := (mem_readsF hu).mpr ⟨hw, h⟩
      rw [e] at this
      exact ((mem_readsF hv).mp this).2
    · intro h
      have := (mem_readsF hv).mpr ⟨hw, h⟩
      rw [← e] at this
      exact ((mem_readsF hu).mp this).2
  · intro h
    rw [readsF_all, readsF_all]
    cases d with
    | zero =>
      show lvl (lets u) u 0 ++ [] = lvl (lets v) v 0 ++ []
      have e0 : ∀ x : List Nat, lvl (lets x) x 0 = [[]] := fun x => by
        unfold lvl
        show List.filter _ [[]] = _
        rw [List.filter_cons_of_pos (by unfold rd; rfl)]
        rfl
      rw [e0, e0]
    | succ d =>
      have hl : lets u = lets v := by
        unfold lets
        apply List.filter_congr
        intro c _
        have := h [c] (by simp)
        rw [List.singleton_sublist, List.singleton_sublist] at this
        by_cases hc : c ∈ u
        · rw [decide_eq_true hc, decide_eq_true (this.mp hc)]
        · rw [decide_eq_false hc, decide_eq_false (fun z => hc (this.mpr z))]
      rw [hl]
      rw [List.flatMap_def, List.flatMap_def]
      congr 1
      apply List.map_congr_left
      intro k hk
      have hk := List.mem_range.mp hk
      unfold lvl
      apply List.filter_congr
      intro w hw
      have hwl := ((wds_mem _ _ _).mp hw).1
      have := h w (by omega)
      rw [← rd_sub, ← rd_sub] at this
      cases e1 : rd w u with
      | true => exact (this.mp e1).symm
      | false =>
        cases e2 : rd w v with
        | false => rfl
        | true => rw [this.mpr e2] at e1; cases e1
theorem nodup_len : ∀ {l a : List Nat}, l.Nodup → (∀ c ∈ l, c ∈ a) → l.length ≤ a.length
  | [], a, _, _ => Nat.zero_le _
  | x :: r, a, nd, h => by
    rw [List.nodup_cons] at nd
    have hx := h x List.mem_cons_self
    have := nodup_len (l := r) (a := a.erase x) nd.2 (fun c hc => (List.mem_erase_of_ne (fun (e : c = x) => nd.1 (by rw [← e]; exact hc))).mpr (h c (List.mem_cons_of_mem _ hc)))
    rw [List.length_erase_of_mem hx] at this
    have := List.length_pos_of_mem hx
    rw [List.length_cons]
    omega
theorem lets_len {a u : List Nat} (h : ∀ c ∈ u, c ∈ a) : (lets u).length ≤ a.length := by
  have nd : (lets u).Nodup := by
    unfold lets
    exact List.Nodup.sublist List.filter_sublist (by decide)
  have hs : ∀ c ∈ lets u, c ∈ a := fun c hc => h c (by
    have := (List.mem_filter.mp hc).2
    simpa using this)
  exact nodup_len nd hs
end Sk

set_option Elab.async false
set_option linter.all false
set_option maxRecDepth 100000
set_option maxHeartbeats 4000000
/-! Sk: the least form comes first; the first word of a level. -/
namespace Sk
open PySem PySem.Spec PyProof.Rows L2
def Sl (u v : List Nat) : Prop := u.length < v.length ∨ (u.length = v.length ∧ u < v)
theorem lt_app {x y : List Nat} : ∀ p : List Nat, x < y → p ++ x < p ++ y
  | [], h => h
  | c :: p, h => List.cons_lt_cons_iff.mpr (.inr ⟨rfl, lt_app p h⟩)
theorem Sl.trans {u v x : List Nat} (h : Sl u v) (g : Sl v x) : Sl u x := by
  rcases h with h | ⟨h1, h2⟩ <;> rcases g with g | ⟨g1, g2⟩
  · exact .inl (by omega)
  · exact .inl (by omega)
  · exact .inl (by omega)
  · exact .inr ⟨by omega, List.lt_trans h2 g2⟩
theorem nf_exists (d : Nat) (u : List Nat) : ∃ v, NF d u v ∧ (v = u ∨ Sl v u) ∧ ∀ c ∈ v, c ∈ u := by
  by_cases hr : Reduced d u
  · by_cases ho : InOrder d u
    · exact ⟨u, ⟨Alike.refl d u, hr, ho⟩, .inl rfl, fun c h => h⟩
    · have : ∃ p a b q, u = p ++ a :: b :: q ∧ Pair d p a b q ∧ b < a := by
        apply Classical.byContradiction
        intro z
        refine ho (fun p a b q e h1 h2 h3 => ?_)
        apply Nat.le_of_not_lt
        intro hlt
        exact z ⟨p, a, b, q, e, pair_of h1 h2 h3, hlt⟩
      obtain ⟨p, a, b, q, e, hp, hlt⟩ := this
      have hlen : (p ++ b :: a :: q).length = u.length := by rw [e]; simp
      have hinv : inv (p ++ b :: a :: q) < inv u := by rw [e, inv_swap hlt]; omega
      obtain ⟨v, h1, h2, h3⟩ := nf_exists d (p ++ b :: a :: q)
      have hs : Sl (p ++ b :: a :: q) u := .inr ⟨hlen, by rw [e]; exact lt_app p (List.cons_lt_cons_iff.mpr (.inl hlt))⟩
      refine ⟨v, ⟨(show Alike d u (p ++ b :: a :: q) by rw [e]; exact hp.alike).trans h1.al, h1.red, h1.ord⟩, .inr ?_, fun c hc => ?_⟩
      · rcases h2 with h2 | h2
        · rw [h2]; exact hs
        · exact h2.trans hs
      · have := h3 c hc
        rw [e]
        simp at this ⊢
        rcases this with h | h | h | h <;> simp [h]
  · have : ∃ p c q, u = p ++ c :: q ∧ ¬ (Lf p c + Rf q c + 2 ≤ d + 1) := by
      apply Classical.byContradiction
      intro z
      refine hr (fun p c q e => ?_)
      apply Classical.byContradiction
      intro hn
      exact z ⟨p, c, q, e, hn⟩
    obtain ⟨p, c, q, e, hn⟩ := this
    have hlen : (p ++ q).length < u.length := by rw [e]; simp
    obtain ⟨v, h1, h2, h3⟩ := nf_exists d (p ++ q)
    have hs : Sl (p ++ q) u := .inl hlen
    refine ⟨v, ⟨(show Alike d u (p ++ q) by rw [e]; exact del_alike (by omega)).trans h1.al, h1.red, h1.ord⟩, .inr ?_, fun x hx => ?_⟩
    · rcases h2 with h2 | h2
      · rw [h2]; exact hs
      · exact h2.trans hs
    · have := h3 x hx
      rw [e]
      simp at this ⊢
      rcases this with h | h <;> simp [h]
termination_by (u.length, inv u)
decreasing_by
  · rw [hlen]; exact Prod.Lex.right _ hinv
  · exact Prod.Lex.left _ _ hlen
theorem NF.least {d : Nat} {u v x : List Nat} (h : NF d u v) (hx : Alike d u x) : (v = x ∨ Sl v x) ∧ ∀ c ∈ v, c ∈ x := by
  obtain ⟨v', h1, h2, h3⟩ := nf_exists d x
  rw [h.eq h1 hx]
  exact ⟨h2, h3⟩
theorem Sl.irrefl {u : List Nat} (h : Sl u u) : False := by
  rcases h with h | ⟨_, h⟩
  · omega
  · exact List.lt_irrefl u h
theorem NF.self {d : Nat} {u v : List Nat} (h : NF d u v) : NF d v v := ⟨Alike.refl d v, h.red, h.ord⟩
theorem wdf_pw {L : List Nat} (hL : L.Pairwise (· < ·)) : ∀ n, (wdf L n).Pairwise (· < ·)
  | 0 => List.pairwise_singleton _ _
  | n + 1 => by
    have ih := wdf_pw hL n
    show (L.flatMap fun c => (wdf L n).map fun w => c :: w).Pairwise (· < ·)
    generalize wdf L n = W at ih
    induction hL with
    | nil => exact List.Pairwise.nil
    | @cons c r h1 h2 ih2 =>
      rw [List.flatMap_cons, List.pairwise_append]
      refine ⟨?_, ih2, fun x hx y hy => ?_⟩
      · rw [List.pairwise_map]
        exact ih.imp fun h => List.cons_lt_cons_iff.mpr (.inr ⟨rfl, h⟩)
      · obtain ⟨w, _, rfl⟩ := List.mem_map.mp hx
        obtain ⟨c', hc', h3⟩ := List.mem_flatMap.mp hy
        obtain ⟨w', _, rfl⟩ := List.mem_map.mp h3
        exact List.cons_lt_cons_iff.mpr (.inl (h1 c' hc'))
theorem wds_pw {L : List Nat} (hL : L.Pairwise (· < ·)) (n : Nat) : (wds L n).Pairwise (· < ·) := by
  rw [wds_wdf]
  exact wdf_pw hL n
theorem lets_pw (u : List Nat) : (lets u).Pairwise (· < ·) := by
  unfold lets
  exact List.Pairwise.sublist List.filter_sublist (by decide)
theorem mem_lets {u : List Nat} (hu : ∀ c ∈ u, c ∈ abcL) {c : Nat} : c ∈ lets u ↔ c ∈ u := by
  unfold lets
  rw [List.mem_filter]
  constructor
  · intro h; simpa using h.2
  · intro h; exact ⟨hu c h, by simpa using h⟩
/-- the words of a level that are read alike -/
noncomputable def same (d : Nat) (u : List Nat) (k : Nat) : List (List Nat) := (wds (lets u) k).filter fun w => alk d w u
theorem same_short {d : Nat} {u v : List Nat} (h : NF d u v) {k : Nat} (hk : k < v.length) : same d u k = [] := by
  unfold same
  rw [List.filter_eq_nil_iff]
  intro w hw z
  have hl := ((wds_mem _ _ _).mp hw).1
  rcases (h.least (alk_iff.mp z).symm).1 with e | e | ⟨e, _⟩
  · rw [e] at hk; omega
  · omega
  · omega
theorem same_at {d : Nat} {u v : List Nat} (hu : ∀ c ∈ u, c ∈ abcL) (h : NF d u v) : ∃ r, same d u v.length = v :: r := by
  have hv : v ∈ same d u v.length := by
    unfold same
    rw [List.mem_filter, wds_mem]
    exact ⟨⟨rfl, fun c hc => (mem_lets hu).mpr ((h.least (Alike.refl d u)).2 c hc)⟩, alk_true h.al.symm⟩
  have hpw : (same d u v.length).Pairwise (· < ·) := List.Pairwise.sublist List.filter_sublist (wds_pw (lets_pw u) _)
  cases hF : same d u v.length with
  | nil => rw [hF] at hv; cases hv
  | cons x r =>
    rw [hF] at hv hpw
    rcases List.mem_cons.mp hv with e | e
    · exact ⟨r, by rw [e]⟩
    · exfalso
      have h1 := (List.pairwise_cons.mp hpw).1 v e
      have hx : x ∈ same d u v.length := by rw [hF]; exact List.mem_cons_self
      unfold same at hx
      rw [List.mem_filter] at hx
      have hl := ((wds_mem _ _ _).mp hx.1).1
      rcases (h.least (alk_iff.mp hx.2).symm).1 with e | e | ⟨_, e⟩
      · rw [e] at h1; exact List.lt_irrefl x h1
      · omega
      · exact List.lt_asymm h1 e
theorem arch_subs (a : List Nat) : ∀ (Ls : List (List Nat)) (w : List Nat), (∀ A ∈ Ls, ∀ x ∈ a, x ∈ A) → (∀ c ∈ w, c ∈ a) → w.length ≤ Ls.length → w.Sublist Ls.flatten
  | Ls, [], _, _, _ => List.nil_sublist _
  | [], c :: w, _, _, h => by
    rw [List.length_cons, List.length_nil] at h
    omega
  | A :: Ls, c :: w, hA, hw, h => by
    rw [List.flatten_cons]
    have h1 : [c].Sublist A := List.singleton_sublist.mpr (hA A List.mem_cons_self c (hw c List.mem_cons_self))
    exact h1.append (arch_subs a Ls w (fun B hB => hA B (List.mem_cons_of_mem _ hB)) (fun d hd => hw d (List.mem_cons_of_mem _ hd)) (by simpa using h))
theorem full_alike {a : List Nat} {d : Nat} {Ls Ms : List (List Nat)} {x y x' y' : List Nat} (h1 : ∀ A ∈ Ls, ∀ c ∈ a, c ∈ A) (h2 : ∀ A ∈ Ms, ∀ c ∈ a, c ∈ A) (l1 : d ≤ Ls.length) (l2 : d ≤ Ms.length)
    (u1 : ∀ c ∈ x ++ Ls.flatten ++ y, c ∈ a) (u2 : ∀ c ∈ x' ++ Ms.flatten ++ y', c ∈ a) : Alike d (x ++ Ls.flatten ++ y) (x' ++ Ms.flatten ++ y') := by
  intro w hw
  constructor
  · intro h
    have := arch_subs a Ms w h2 (fun c hc => u1 c (h.subset hc)) (by omega)
    exact (this.trans (List.sublist_append_right _ _)).trans (List.sublist_append_left _ _)
  · intro h
    have := arch_subs a Ls w h1 (fun c hc => u2 c (h.subset hc)) (by omega)
    exact (this.trans (List.sublist_append_right _ _)).trans (List.sublist_append_left _ _)
/-! ### == of lists of texts -/
theorem eqv_texts : ∀ ls ms : List (List Nat), PyData.eqvAll (ls.map fun l => .str (tx l)) (ms.map fun l => .str (tx l)) = decide (ls = ms)
  | [], [] => by simp [PyData.eqvAll]
  | [], y :: ms => by simp [PyData.eqvAll]
  | x :: ls, [] => by simp [PyData.eqvAll]
  | x :: ls, y :: ms => by
    rw [List.map_cons, List.map_cons, PyData.eqvAll, eqv_texts ls ms]
    by_cases h : x = y
    · subst h
      simp [PyData.eqv]
    · have : tx x ≠ tx y := fun z => h (tx_inj z)
      simp [PyData.eqv, h, this]
theorem dV_texts (ls : List (List Nat)) : (ls.map T).map dV = ls.map fun l => .str (tx l) := by
  rw [List.map_map]
  rfl
theorem eq_texts {K : PySem.W.Frag} {H : Hp} {Q : VK} {a b : Addr} {ls ms : List (List Nat)} (h : SqL K H a (ls.map T)) (hb : SqL K H b (ms.map T)) (hl : ∀ x ∈ ls, Low x) (hm : ∀ x ∈ ms, Low x) (q : Q (.bl (decide (ls = ms))) H) : rEqD K (.ref a) (.ref b) H Q := by
  have f : ∀ {xs : List (List Nat)}, (∀ x ∈ xs, Low x) → ∀ y ∈ xs.map T, flat2 y = true := fun hx y hy => by
    obtain ⟨z, hz, rfl⟩ := List.mem_map.mp hy
    exact flat_T (hx z hz)
  obtain ⟨d1, d2, d3⟩ := dpAll_flat (K := K) (H := H) (f hl)
  obtain ⟨e1, e2, e3⟩ := dpAll_flat (K := K) (H := H) (f hm)
  refine ⟨.list _, .list _, .lst h d1, .lst hb e1, shaped_list d2 (by omega), shaped_list e2 (by omega), ?_⟩
  rw [dV_texts, dV_texts, PyData.eqv, eqv_texts]
  exact q
theorem ne_texts {K : PySem.W.Frag} {H : Hp} {Q : VK} {a b : Addr} {ls ms : List (List Nat)} (h : SqL K H a (ls.map T)) (hb : SqL K H b (ms.map T)) (hl : ∀ x ∈ ls, Low x) (hm : ∀ x ∈ ms, Low x) (q : Q (.bl (!decide (ls = ms))) H) : rNeD K (.ref a) (.ref b) H Q := by
  have f : ∀ {xs : List (List Nat)}, (∀ x ∈ xs, Low x) → ∀ y ∈ xs.map T, flat2 y = true := fun hx y hy => by
    obtain ⟨z, hz, rfl⟩ := List.mem_map.mp hy
    exact flat_T (hx z hz)
  obtain ⟨d1, d2, d3⟩ := dpAll_flat (K := K) (H := H) (f hl)
  obtain ⟨e1, e2, e3⟩ := dpAll_flat (K := K) (H := H) (f hm)
  refine ⟨.list _, .list _, .lst h d1, .lst hb e1, shaped_list d2 (by omega), shaped_list e2 (by omega), ?_⟩
  rw [dV_texts, dV_texts, PyData.eqv, eqv_texts]
  exact q
theorem al_low {u : List Nat} (hu : ∀ c ∈ u, c ∈ abcL) : Low u := fun c hc => by
  have : ∀ x ∈ abcL, x < 1114112 := by decide
  exact this c (hu c hc)
theorem reads_low {d : Nat} {u : List Nat} (hu : ∀ c ∈ u, c ∈ abcL) : ∀ x ∈ readsF d u, Low x := fun x hx c hc => al_low hu c (((mem_readsF hu).mp hx).2.subset hc)
theorem reads_alk {d : Nat} {u v : List Nat} (hu : ∀ c ∈ u, c ∈ abcL) (hv : ∀ c ∈ v, c ∈ abcL) : decide (readsF d u = readsF d v) = alk d u v := by
  by_cases h : Alike d u v
  · rw [alk_true h, decide_eq_true ((reads_iff hu hv).mpr h)]
  · rw [alk_false h, decide_eq_false (fun z => h ((reads_iff hu hv).mp z))]
end Sk

set_option Elab.async false
set_option linter.all false
set_option maxRecDepth 100000
set_option maxHeartbeats 4000000
/-! Sk: zip(xs, ys, strict=True) of two lists of one length. -/
namespace Sk
open PySem PySem.Spec PyProof.Rows L2
section
variable {prog : Program} {w : World} {A : Around} {E : Value → Shared → Prop} {s : Shared}
abbrev IsZipS (h : Heap) (z TI TO : Addr) (f0 : Value) : Prop :=
  h.get? z = some { cls := .type "zip", dict := none, slots := #[], data := .fields #[f0, .bool false, .bool true, .ref TI, .ref TO] }
theorem isStop {e : Addr} {Q : Bool → Shared → Prop} (he : ∃ o, s.heap.get? e = some o ∧ o.cls = .type "StopIteration") (h : Q true s) : wpAny (model prog w) A (isInstance (.ref e) (.type "StopIteration")) Q E s := by
  obtain ⟨o, ho, hc⟩ := he
  exact wpAny_isInstance (T := "StopIteration") (b := true) ⟨o, ho, hc⟩ isSubtype_stop h
theorem orEnd_item {it l : Addr} {i : Nat} {items : Array Value} {x : Value} {Q : Option Value → Shared → Prop} (hit : s.heap.IsListIter it l i) (hl : s.heap.IsList l items) (hx : items[i]? = some x)
    (hQ : ∀ h', h'.IsListIter it l (i + 1) → Heap.SameBut it s.heap h' → Q (some x) { s with heap := h' }) : wpAny (model prog w) A (Builtin.SmallTypes.nextOrEnd (.ref it)) Q E s := by
  unfold Builtin.SmallTypes.nextOrEnd
  exact wpAny_bind (wpAny_attempt (wpAny_nextOf_list_item hit hl hx fun h' a b => wpAny_pure (hQ h' a b)))
theorem orEnd_end {it l : Addr} {i : Nat} {items : Array Value} {Q : Option Value → Shared → Prop} (hh : A.handled = none) (hit : s.heap.IsListIter it l i) (hl : s.heap.IsList l items) (hx : items[i]? = none)
    (hQ : ∀ h', Heap.ExtBut it s.heap h' → Q none { s with heap := h' }) : wpAny (model prog w) A (Builtin.SmallTypes.nextOrEnd (.ref it)) Q E s := by
  unfold Builtin.SmallTypes.nextOrEnd
  refine wpAny_bind (wpAny_attempt (wpAny_nextOf_list_end hh hit hl hx fun h' e a b => ?_))
  exact wpAny_bind (isStop b (wpAny_pure (hQ h' a)))
theorem stop_raise {α : Type} {Q : α → Shared → Prop} (hh : A.handled = none)
    (hE : ∀ h' e, (∀ b o, s.heap.get? b = some o → h'.get? b = some o) → (∃ o, h'.get? e = some o ∧ o.cls = .type "StopIteration") → E (.ref e) { s with heap := h' }) : wpAny (model prog w) A (Builtin.SmallTypes.stopIteration : Sem α) Q E s := by
  unfold Builtin.SmallTypes.stopIteration
  refine wpAny_bind ?_
  simp only [newTuple, newExc]
  refine wpAny_bind (wpAny_newObj_type ?_ (by size_fits))
  refine wpAny_bind (m := firstArgMember _ _) (wpAny_of_eq (a := Value.none) (by simp only [firstArgMember]; rfl) ?_)
  refine wpAny_newObj_type ?_ (by size_fits)
  unfold raiseNew
  refine wpAny_bind (wpAny_handled ?_)
  rw [hh]
  refine wpAny_bind (wpAny_pure (wpAny_throw ?_))
  exact hE _ _ (fun b o e => Heap.get?_push_of_some _ (Heap.get?_push_of_some _ e)) ⟨_, Heap.get?_push_size _ rfl, rfl⟩
theorem zipS_item {z TI TO i1 i2 l1 l2 : Addr} {k1 k2 : Nat} {xs ys : Array Value} {x y a b : Value} {Q : Value → Shared → Prop} (D : ZipApart z TI TO i1 i2 l1 l2)
    (hz : IsZipS s.heap z TI TO .none) (hTI : IsPair s.heap TI (.ref i1) (.ref i2)) (hTO : IsPair s.heap TO a b)
    (h1 : s.heap.IsListIter i1 l1 k1) (h2 : s.heap.IsListIter i2 l2 k2) (hl1 : s.heap.IsList l1 xs) (hl2 : s.heap.IsList l2 ys) (hx : xs[k1]? = some x) (hy : ys[k2]? = some y)
    (hQ : ∀ h', IsZipS h' z TI TO (rawInt s.heap.objs.size) → IsPair h' TO x y → h'.IsListIter i1 l1 (k1 + 1) → h'.IsListIter i2 l2 (k2 + 1) → IsPair h' s.heap.objs.size x y → h'.objs.size = s.heap.objs.size + 1 →
      (∀ c o, c ≠ z → c ≠ TO → c ≠ i1 → c ≠ i2 → s.heap.get? c = some o → h'.get? c = some o) → Q (.ref s.heap.objs.size) { s with heap := h' }) :
    wpAny (model prog w) A (Builtin.«zip.__next__» ⟨[.ref z], []⟩) (fun fin s' => ∃ v, fin = .done (.ret v) ∧ Q v s') E s := by
  show wpAny _ _ (field (.ref z) 2 >>= _) _ _ _
  refine wpAny_bind (wpAny_field hz rfl (x := .bool true) rfl ?_)
  show wpAny _ _ (field (.ref z) 3 >>= _) _ _ _
  refine wpAny_bind (wpAny_field hz rfl (x := .ref TI) rfl (wpAny_bind (wpAny_seqItems hTI rfl ?_)))
  show wpAny _ _ (Builtin.SmallTypes.ownedTupleIsFree (.ref z) >>= _) _ _ _
  refine wpAny_bind ?_
  unfold Builtin.SmallTypes.ownedTupleIsFree
  refine wpAny_bind (wpAny_field hz rfl (x := .none) rfl (wpAny_pure ?_))
  simp only [if_true]
  refine wpAny_bind (wpAny_rule (wpAny_bind (wpAny_field hz rfl (x := .ref TO) rfl (wpAny_bind (wpAny_setField_rec hz (by simp) fun g1 hz1 hs1 => ?_)))))
  replace hz1 : IsZipS g1 z TI TO .ellipsis := hz1
  refine wpAny_bind ?_
  simp only [List.zipIdx_nil, List.zipIdx_cons, List.forIn_nil, List.forIn_cons]
  refine wpAny_bind (wpAny_bind (wpAny_onRaise ?_))
  show wpAny _ _ (Builtin.SmallTypes.nextOrEnd (.ref i1)) _ _ _
  refine orEnd_item (h1.extBut hs1.extBut D.i1z) (hl1.extBut hs1.extBut D.l1z) hx fun g2 h12 hs2 => ?_
  have hTO2 : IsPair g2 TO a b := hs2.extBut _ _ D.TOi1 (hs1.extBut _ _ D.TOz hTO)
  refine wpAny_bind (wpAny_seqItems hTO2 rfl (wpAny_bind (wpAny_updateSeq_pair hTO2 fun g3 hTO3 hs3 => ?_)))
  replace hTO3 : IsPair g3 TO x b := hTO3
  refine wpAny_bind (wpAny_letGo (wpAny_pure ?_))
  refine wpAny_bind (wpAny_bind (wpAny_onRaise ?_))
  show wpAny _ _ (Builtin.SmallTypes.nextOrEnd (.ref i2)) _ _ _
  refine orEnd_item (((h2.extBut hs1.extBut D.i2z).extBut hs2.extBut D.i12.symm).extBut hs3.extBut D.TOi2.symm)
    (((hl2.extBut hs1.extBut D.l2z).extBut hs2.extBut D.l2i1).extBut hs3.extBut D.l2TO) hy fun g4 h24 hs4 => ?_
  have hTO4 : IsPair g4 TO x b := hs4.extBut _ _ D.TOi2 hTO3
  refine wpAny_bind (wpAny_seqItems hTO4 rfl (wpAny_bind (wpAny_updateSeq_pair hTO4 fun g5 hTO5 hs5 => ?_)))
  replace hTO5 : IsPair g5 TO x y := hTO5
  refine wpAny_bind (wpAny_letGo (wpAny_pure (wpAny_pure ?_)))
  refine wpAny_bind (wpAny_seqItems hTO5 rfl (wpAny_bind (wpAny_newTuple ?_)))
  have hsz : g5.objs.size = s.heap.objs.size := by rw [hs5.1, hs4.1, hs3.1, hs2.1, hs1.1]
  have hz5 : IsZipS g5 z TI TO .ellipsis := hs5.extBut _ _ D.TOz.symm (hs4.extBut _ _ D.i2z.symm (hs3.extBut _ _ D.TOz.symm (hs2.extBut _ _ D.i1z.symm hz1)))
  have hk5 : ∀ c o, c ≠ z → c ≠ TO → c ≠ i1 → c ≠ i2 → s.heap.get? c = some o → g5.get? c = some o := fun c o c1 c2 c3 c4 e =>
    hs5.extBut _ _ c2 (hs4.extBut _ _ c4 (hs3.extBut _ _ c2 (hs2.extBut _ _ c3 (hs1.extBut _ _ c1 e))))
  have h15 : g5.IsListIter i1 l1 (k1 + 1) := ((h12.extBut hs3.extBut D.TOi1.symm).extBut hs4.extBut D.i12).extBut hs5.extBut D.TOi1.symm
  have h25 : g5.IsListIter i2 l2 (k2 + 1) := h24.extBut hs5.extBut D.TOi2.symm
  have hzlt : z < g5.objs.size := Heap.lt_size hz5
  show wpAny _ _ (Builtin.SmallTypes.ownedTupleHandOut (.ref z) (.ref g5.objs.size) >>= _) _ _ _
  refine wpAny_bind ?_
  unfold Builtin.SmallTypes.ownedTupleHandOut
  have hz6 : IsZipS (g5.push { cls := .type "tuple", data := .seq #[x, y] }) z TI TO .ellipsis := Heap.get?_push_of_some _ hz5
  refine wpAny_bind (wpAny_setField_rec hz6 (by simp) fun g7 hz7 hs7 => ?_)
  replace hz7 : IsZipS g7 z TI TO (rawInt g5.objs.size) := hz7
  refine wpAny_setField_rec hz7 (by simp) fun g8 hz8 hs8 => ?_
  replace hz8 : IsZipS g8 z TI TO (rawInt g5.objs.size) := hz8
  have up : ∀ c o, c ≠ z → g5.get? c = some o → g8.get? c = some o := fun c o c1 e => hs8.extBut _ _ c1 (hs7.extBut _ _ c1 (Heap.get?_push_of_some _ e))
  have hT8 : IsPair g8 g5.objs.size x y := hs8.extBut _ _ (Nat.ne_of_gt hzlt) (hs7.extBut _ _ (Nat.ne_of_gt hzlt) (Heap.get?_push_size _ rfl))
  have sz8 : g8.objs.size = g5.objs.size + 1 := by rw [hs8.1, hs7.1, Heap.size_push]
  rw [hsz] at hz8 hT8 sz8
  refine wpAny_pure ⟨_, rfl, ?_⟩
  show Q (.ref g5.objs.size) _
  rw [hsz]
  exact hQ g8 hz8 (up _ _ D.TOz hTO5) (h15.at fun o e => up _ o D.i1z e) (h25.at fun o e => up _ o D.i2z e) hT8 sz8 fun c o c1 c2 c3 c4 e => up c o c1 (hk5 c o c1 c2 c3 c4 e)
theorem zipS_end {z TI TO i1 i2 l1 l2 : Addr} {k1 k2 : Nat} {xs ys : Array Value} {a b : Value} {Q : Fin → Shared → Prop} (hh : A.handled = none) (D : ZipApart z TI TO i1 i2 l1 l2)
    (hz : IsZipS s.heap z TI TO .none) (hTI : IsPair s.heap TI (.ref i1) (.ref i2)) (hTO : IsPair s.heap TO a b)
    (h1 : s.heap.IsListIter i1 l1 k1) (h2 : s.heap.IsListIter i2 l2 k2) (hl1 : s.heap.IsList l1 xs) (hl2 : s.heap.IsList l2 ys) (hx : xs[k1]? = none) (hy : ys[k2]? = none)
    (hE : ∀ h' e, (∀ c o, c ≠ z → c ≠ TO → c ≠ i1 → c ≠ i2 → s.heap.get? c = some o → h'.get? c = some o) → (∃ o, h'.get? e = some o ∧ o.cls = .type "StopIteration") → E (.ref e) { s with heap := h' }) :
    wpAny (model prog w) A (Builtin.«zip.__next__» ⟨[.ref z], []⟩) Q E s := by
  show wpAny _ _ (field (.ref z) 2 >>= _) _ _ _
  refine wpAny_bind (wpAny_field hz rfl (x := .bool true) rfl ?_)
  show wpAny _ _ (field (.ref z) 3 >>= _) _ _ _
  refine wpAny_bind (wpAny_field hz rfl (x := .ref TI) rfl (wpAny_bind (wpAny_seqItems hTI rfl ?_)))
  show wpAny _ _ (Builtin.SmallTypes.ownedTupleIsFree (.ref z) >>= _) _ _ _
  refine wpAny_bind ?_
  unfold Builtin.SmallTypes.ownedTupleIsFree
  refine wpAny_bind (wpAny_field hz rfl (x := .none) rfl (wpAny_pure ?_))
  simp only [if_true]
  refine wpAny_bind (wpAny_rule (wpAny_bind (wpAny_field hz rfl (x := .ref TO) rfl (wpAny_bind (wpAny_setField_rec hz (by simp) fun g1 hz1 hs1 => ?_)))))
  replace hz1 : IsZipS g1 z TI TO .ellipsis := hz1
  refine wpAny_bind ?_
  simp only [List.zipIdx_nil, List.zipIdx_cons, List.forIn_nil, List.forIn_cons]
  refine wpAny_bind (wpAny_bind (wpAny_onRaise ?_))
  show wpAny _ _ (Builtin.SmallTypes.nextOrEnd (.ref i1)) _ _ _
  refine orEnd_end hh (h1.extBut hs1.extBut D.i1z) (hl1.extBut hs1.extBut D.l1z) hx fun g2 hs2 => ?_
  have hz2 : IsZipS g2 z TI TO .ellipsis := hs2 _ _ D.i1z.symm hz1
  refine wpAny_bind (wpAny_setField_rec hz2 (by simp) fun g3 hz3 hs3 => ?_)
  refine wpAny_bind ?_
  show wpAny _ _ ((forIn [((Value.ref i2), 1)] PUnit.unit _) >>= _) _ _ _
  refine wpAny_bind ?_
  simp only [List.forIn_cons, List.forIn_nil]
  refine wpAny_bind (wpAny_bind ?_)
  have h23 : g3.IsListIter i2 l2 k2 := ((h2.extBut hs1.extBut D.i2z).extBut hs2 D.i12.symm).extBut hs3.extBut D.i2z
  have hl23 : g3.IsList l2 ys := ((hl2.extBut hs1.extBut D.l2z).extBut hs2 D.l2i1).extBut hs3.extBut D.l2z
  refine orEnd_end hh h23 hl23 hy fun g4 hs4 => ?_
  show wpAny _ _ (pure (ForInStep.yield PUnit.unit)) _ _ _
  refine wpAny_pure (wpAny_pure (wpAny_bind (wpAny_rule ?_)))
  refine stop_raise hh fun g5 e hk he => ?_
  exact hE g5 e (fun c o c1 c2 c3 c4 x => hk _ _ (hs4 _ _ c4 (hs3.extBut _ _ c1 (hs2 _ _ c3 (hs1.extBut _ _ c1 x))))) he
theorem nextS_item {z TI TO i1 i2 l1 l2 : Addr} {k1 k2 : Nat} {xs ys : Array Value} {x y a b : Value} {Q : Option Value → Shared → Prop} (D : ZipApart z TI TO i1 i2 l1 l2)
    (hz : IsZipS s.heap z TI TO .none) (hTI : IsPair s.heap TI (.ref i1) (.ref i2)) (hTO : IsPair s.heap TO a b)
    (h1 : s.heap.IsListIter i1 l1 k1) (h2 : s.heap.IsListIter i2 l2 k2) (hl1 : s.heap.IsList l1 xs) (hl2 : s.heap.IsList l2 ys) (hx : xs[k1]? = some x) (hy : ys[k2]? = some y)
    (hQ : ∀ h', IsZipS h' z TI TO (rawInt s.heap.objs.size) → IsPair h' TO x y → h'.IsListIter i1 l1 (k1 + 1) → h'.IsListIter i2 l2 (k2 + 1) → IsPair h' s.heap.objs.size x y → h'.objs.size = s.heap.objs.size + 1 →
      (∀ c o, c ≠ z → c ≠ TO → c ≠ i1 → c ≠ i2 → s.heap.get? c = some o → h'.get? c = some o) → Q (some (.ref s.heap.objs.size)) { s with heap := h' }) :
    wpAny (model prog w) A (pyNext (.ref z)) Q E s := by
  have hT : s.TypeIs (.ref z) "zip" := ⟨_, hz, rfl⟩
  unfold pyNext
  refine wpAny_bind (wpAny_attempt (wpAny_callSpecial?_slot (name := Str.ofString "__next__") hT F.slot_zip_next ?_))
  exact wpAny_call_entry F.slot_zip_next hT F.entry_zip_next (zipS_item D hz hTI hTO h1 h2 hl1 hl2 hx hy fun h' a1 a2 a3 a4 a5 a6 a7 => wpAny_pure (hQ h' a1 a2 a3 a4 a5 a6 a7)) (F.args_zip_next_1 _)
theorem nextS_end {z TI TO i1 i2 l1 l2 : Addr} {k1 k2 : Nat} {xs ys : Array Value} {a b : Value} {Q : Option Value → Shared → Prop} (hh : A.handled = none) (D : ZipApart z TI TO i1 i2 l1 l2)
    (hz : IsZipS s.heap z TI TO .none) (hTI : IsPair s.heap TI (.ref i1) (.ref i2)) (hTO : IsPair s.heap TO a b)
    (h1 : s.heap.IsListIter i1 l1 k1) (h2 : s.heap.IsListIter i2 l2 k2) (hl1 : s.heap.IsList l1 xs) (hl2 : s.heap.IsList l2 ys) (hx : xs[k1]? = none) (hy : ys[k2]? = none)
    (hQ : ∀ h', (∀ c o, c ≠ z → c ≠ TO → c ≠ i1 → c ≠ i2 → s.heap.get? c = some o → h'.get? c = some o) → Q none { s with heap := h' }) : wpAny (model prog w) A (pyNext (.ref z)) Q E s := by
  have hT : s.TypeIs (.ref z) "zip" := ⟨_, hz, rfl⟩
  unfold pyNext
  refine wpAny_bind (wpAny_attempt (wpAny_callSpecial?_slot (name := Str.ofString "__next__") hT F.slot_zip_next ?_))
  refine wpAny_call_entry F.slot_zip_next hT F.entry_zip_next (zipS_end hh D hz hTI hTO h1 h2 hl1 hl2 hx hy fun h' e hk he => ?_) (F.args_zip_next_1 _)
  exact wpAny_bind (isStop he (wpAny_pure (hQ _ hk)))
theorem goS {elts : List Expr} {x1} {pos : Pos} {z TI TO T : Addr} {Q : Unit → Shared → Prop} (hz : IsZipS s.heap z TI TO (rawInt T))
    (hQ : ∀ h', IsZipS h' z TI TO .none → Heap.SameBut z s.heap h' → Q () { s with heap := h' }) : wpAny (model prog w) A (letOwnedTupleGo (.Tuple elts x1 pos) (.ref z) (.ref T)) Q E s := by
  unfold letOwnedTupleGo
  refine wpAny_bind (wpAny_load hz ?_)
  show wpAny _ _ (if (["enumerate", "zip", "dict_itemiterator", "dict_reverseitemiterator", "odict_iterator", "itertools.zip_longest", "itertools.pairwise"].contains "zip" && (#[rawInt T, .bool false, .bool true, .ref TI, .ref TO] : Array Value)[0]? == some (rawInt T)) = true then _ else _) Q E s
  rw [if_pos (by simp)]
  refine wpAny_bind (wpAny_rule ?_)
  show wpAny _ _ (setField (.ref z) 0 .none) Q E s
  exact wpAny_setField_rec hz (by simp) fun h' a b => hQ h' a b
theorem iterS {z TI TO : Addr} {f0 : Value} {Q : Value → Shared → Prop} (hz : IsZipS s.heap z TI TO f0) (h : Q (.ref z) s) : wpAny (model prog w) A (pyIter (.ref z)) Q E s := by
  have hT : s.TypeIs (.ref z) "zip" := ⟨_, hz, rfl⟩
  refine wpAny_pyIter_slot hT F.slot_zip_iter (wpAny_call_entry F.slot_zip_iter hT F.entry_zip_iter ?_ (F.args_zip_iter_1 _))
  show wpAny _ _ (ret (.ref z)) _ _ s
  exact wpAny_pure ⟨_, rfl, "zip", _, hT, F.slot_zip_next.lookup, h⟩
/-! ### the making -/
abbrev kwS : List (Str × Value) := [("strict", .bool true)]
abbrev zS5 (h : Heap) (l1 l2 : Addr) : Heap := (zipH4 h l1 l2).push { cls := .type "zip", data := .fields #[.none, .bool false, .bool true, .ref (zipH2 h l1 l2).objs.size, .ref (zipH3 h l1 l2).objs.size] }
theorem meets_zipS (l1 l2 : Addr) (xs ys : Array Value) :
    Meets (Builtin.«zip.__new__» ⟨[.type "zip", .ref l1, .ref l2], kwS⟩) (fun _ R s => s.heap.IsList l1 xs ∧ s.heap.IsList l2 ys ∧
      R (.ok (.ret (.ref (zipH4 s.heap l1 l2).objs.size))) { s with heap := zS5 s.heap l1 l2 }) :=
  .of_wp fun prog w A R s h => by
    obtain ⟨hp, g, d, tk, os⟩ := s; obtain ⟨hl1, hl2, h⟩ := h
    have hsub := sub_zip
    have hL1 : Heap.IsList (Shared.heap ⟨hp, g, d, tk, os⟩) l1 xs := hl1
    have hL2 : Heap.IsList (Shared.heap ⟨hp.push { cls := .type "list_iterator", data := .fields #[.ref l1, .int 0 0] }, g, d, tk, os⟩) l2 ys := Heap.IsList.push hl2 _
    wp_walk using wpAny_pyIter_list hL1, wpAny_pyIter_list hL2
    exact ⟨_, rfl, h⟩
end
end Sk

set_option Elab.async false
set_option linter.all false
set_option maxRecDepth 100000
set_option maxHeartbeats 4000000
/-! Sk: zip with strict=True, called and walked. -/
namespace Sk
open PySem PySem.Spec PyProof.Rows L2
section
variable {prog : Program} {w : World} {A : Around} {E : Value → Shared → Prop} {s : Shared}
theorem zipS_typeCall (a b : Value) : checkTypeCall "zip" ⟨[a, b], kwS⟩ = pure () := by kernel_rfl
theorem zipS_newCall (a b : Value) : checkBuiltinCall "zip.__new__" ⟨[.type "zip", a, b], kwS⟩ = pure () := by kernel_rfl
theorem zipS_initOk (a b c : Value) : argsOk "object.__init__" ⟨[a, b, c], kwS⟩ := by
  unfold argsOk
  rw [signature?_of (id := "object.__init__") (n := ['_', '_', 't', 'i', 'n', 'i', '_', '_']) (o := ['t', 'c', 'e', 'j', 'b', 'o']) (by kernel_rfl) F.owner_object]
  kernel_rfl
theorem initS_meets {self : Value} {rest : List Value} :
    Meets (Builtin.«object.__init__» ⟨self :: rest, kwS⟩) (fun _ R s => s.TypeIs self "zip" ∧ R (.ok (.ret .none)) s) := by
  have hl := F.called_zip.init.lookup
  have hm := F.called_zip.made
  have hne : (some "zip.__new__" != some "object.__new__") = true := by decide
  refine Meets.of_wp fun prog w A R s hs => ?_
  obtain ⟨hT, hq⟩ := hs
  repeat (any_goals (first | assumption | wp_step))
  exact ⟨_, rfl, hq⟩
theorem call_zipS {l1 l2 : Addr} {xs ys : Array Value} {Q : Value → Shared → Prop} (hl1 : s.heap.IsList l1 xs) (hl2 : s.heap.IsList l2 ys)
    (h : ∀ h', IsZipS h' (s.heap.objs.size + 4) (s.heap.objs.size + 2) (s.heap.objs.size + 3) .none → IsPair h' (s.heap.objs.size + 2) (.ref s.heap.objs.size) (.ref (s.heap.objs.size + 1)) →
      IsPair h' (s.heap.objs.size + 3) .none .none → h'.IsListIter s.heap.objs.size l1 0 → h'.IsListIter (s.heap.objs.size + 1) l2 0 → h'.objs.size = s.heap.objs.size + 5 →
      (∀ c o, s.heap.get? c = some o → h'.get? c = some o) → Q (.ref (s.heap.objs.size + 4)) { s with heap := h' }) :
    wpAny (model prog w) A (call (.type "zip") [.ref l1, .ref l2] kwS) Q E s := by
  have ft := F.called_zip
  obtain ⟨c, tl, hmro⟩ := ft.mro
  have hmade := ft.made
  have hsub := ft.sub
  refine wpAny_call (codeAny_of_tree ?_)
  show wpAny _ _ (callAny (.type "zip") _) _ _ _
  refine wpAny_pure ⟨Code.quiet_builtin _ (by decide +kernel), codeAny_builtin F.entry_type_call ?_⟩
  rw [Around.under_plain (weight_type_call_type "zip" [.ref l1, .ref l2] kwS) (units_type_call_type "zip" [.ref l1, .ref l2] kwS)]
  have h1 := ft.notType
  have h2 := ft.canCreate
  have hct := zipS_typeCall (.ref l1) (.ref l2)
  repeat (any_goals (first | assumption | wp_step))
  refine codeAny_mono (codeAny_call_builtin ft.plain F.entry_zip_new (wpAny_of_eq (zipS_newCall _ _) (meets_zipS l1 l2 xs ys prog w A.in1 (wants (fun obj s1 => s1.TypeIs obj "zip" ∧ Q obj s1) E) s ⟨hl1, hl2, ?_⟩))) fun r s1 hr => ?_
  · have z1 : (zipH1 s.heap l1).objs.size = s.heap.objs.size + 1 := Heap.size_push ..
    have z2 : (zipH2 s.heap l1 l2).objs.size = s.heap.objs.size + 2 := by rw [Heap.size_push, z1]
    have z3 : (zipH3 s.heap l1 l2).objs.size = s.heap.objs.size + 3 := by rw [Heap.size_push, z2]
    have z4 : (zipH4 s.heap l1 l2).objs.size = s.heap.objs.size + 4 := by rw [Heap.size_push, z3]
    have z5 : (zS5 s.heap l1 l2).objs.size = s.heap.objs.size + 5 := by rw [Heap.size_push, z4]
    have up : ∀ {c o}, (zipH4 s.heap l1 l2).get? c = some o → (zS5 s.heap l1 l2).get? c = some o := fun e => Heap.get?_push_of_some _ e
    have g5 : (zS5 s.heap l1 l2).get? (zipH4 s.heap l1 l2).objs.size = some _ := Heap.get?_push_size _ rfl
    have g4 : (zS5 s.heap l1 l2).get? (zipH3 s.heap l1 l2).objs.size = some _ := up (Heap.get?_push_size _ rfl)
    have g3 : (zS5 s.heap l1 l2).get? (zipH2 s.heap l1 l2).objs.size = some _ := up (Heap.get?_push_of_some _ (Heap.get?_push_size _ rfl))
    have g2 : (zS5 s.heap l1 l2).get? (zipH1 s.heap l1).objs.size = some _ := up (Heap.get?_push_of_some _ (Heap.get?_push_of_some _ (Heap.get?_push_size _ rfl)))
    have g1 : (zS5 s.heap l1 l2).get? s.heap.objs.size = some _ := up (Heap.get?_push_of_some _ (Heap.get?_push_of_some _ (Heap.get?_push_of_some _ (Heap.get?_push_size _ rfl))))
    show _ ∧ _
    rw [z2, z3, z4] at g5
    rw [z1, z2] at g3
    rw [z3] at g4
    rw [z1] at g2
    rw [z4]
    refine ⟨⟨_, g5, rfl⟩, h _ g5 g3 g4 ⟨_, g1, rfl, rfl⟩ ⟨_, g2, rfl, rfl⟩ z5 fun c o x => ?_⟩
    exact up (Heap.get?_push_of_some _ (Heap.get?_push_of_some _ (Heap.get?_push_of_some _ (Heap.get?_push_of_some _ x))))
  cases r with
  | error e => exact hr
  | ok fl =>
    cases fl with
    | ret obj =>
      obtain ⟨hT, hq⟩ := (show s1.TypeIs obj "zip" ∧ Q obj s1 from hr)
      have hli := ft.init.lookup
      have hbi := ft.init.bind obj
      repeat (any_goals (first | assumption | wp_step))
      refine codeAny_mono (codeAny_call_builtin ft.init.plain F.entry_object_init (ft.init.check _ _ _ _ _ _ _ _ hT (zipS_initOk obj _ _) (initS_meets prog w A.in1 (wants (fun r s2 => r = .none ∧ Q obj s2) E) s1 ⟨hT, rfl, hq⟩))) fun r2 s2 hr2 => ?_
      cases r2 with
      | error e => exact hr2
      | ok fl2 =>
        cases fl2 with
        | ret r =>
          obtain ⟨rfl, hq⟩ := hr2
          repeat (any_goals (first | assumption | wp_step))
        | _ => exact hr2.elim
    | _ => exact hr.elim
end
/-- the lists at a and b, of one length, the items in new pairs -/
def ItzS (K : PySem.W.Frag) (a b : Addr) : It :=
  ⟨fun i H => ∃ (xs ys : List V) (x y : V), SqL K H a xs ∧ SqL K H b ys ∧ xs[i]? = some x ∧ ys[i]? = some y,
    fun i H v H' => ∃ T x y, v = .ref T ∧ H T = none ∧ H' = upd H T (.tup [x, y]) ∧ (∀ xs, SqL K H a xs → xs[i]? = some x) ∧ ∀ ys, SqL K H b ys → ys[i]? = some y,
    fun i H => ∃ xs ys : List V, SqL K H a xs ∧ SqL K H b ys ∧ xs.length ≤ i ∧ ys.length ≤ i⟩
theorem turn_zipS {P : Program} {w : World} {K : PySem.W.Frag} {elts : List Expr} {kk : Nat} {tpos : Pos} {a b z TI TO i1 i2 : Addr} (D : ZipApart z TI TO i1 i2 a b) :
    Turn P w K (.Tuple elts kk tpos) (ItzS K a b) [z, TI, TO, i1, i2] z (fun i h => IsZipS h z TI TO .none ∧ IsPair h TI (.ref i1) (.ref i2) ∧ (∃ x y, IsPair h TO x y) ∧ h.IsListIter i1 a i ∧ h.IsListIter i2 b i) where
  mem := by simp
  obj := fun i h st c hc => by
    obtain ⟨hz, hTI, ⟨x, y, hTO⟩, ⟨o1, e1, _, d1⟩, ⟨o2, e2, _, d2⟩⟩ := st
    have e' : c = z ∨ c = TI ∨ c = TO ∨ c = i1 ∨ c = i2 := by simpa using hc
    rcases e' with rfl | rfl | rfl | rfl | rfl
    · exact ⟨_, hz, fun v q => nomatch q⟩
    · exact ⟨_, hTI, fun v q => nomatch q⟩
    · exact ⟨_, hTO, fun v q => nomatch q⟩
    · exact ⟨o1, e1, fun v q => by rw [d1] at q; cases q⟩
    · exact ⟨o2, e2, fun v q => by rw [d2] at q; cases q⟩
  keep := fun i h h' st k => by
    obtain ⟨hz, hTI, ⟨x, y, hTO⟩, h1, h2⟩ := st
    exact ⟨k z (by simp) _ hz, k TI (by simp) _ hTI, ⟨x, y, k TO (by simp) _ hTO⟩, h1.at fun o q => k i1 (by simp) o q, h2.at fun o q => k i2 (by simp) o q⟩
  item := by
    intro X hP hw hK hc i pins s σ H E I hf st hg
    subst hP hw hK
    obtain ⟨hz, hTI, ⟨x0, y0, hTO⟩, h1, h2⟩ := st
    obtain ⟨xs, ys, x, y, hqx, hqy, hx, hy⟩ := hg
    obtain ⟨its, rv, p, _⟩ := I.list hqx
    obtain ⟨its2, rv2, p2, _⟩ := I.list hqy
    obtain ⟨u, hu, ru⟩ := rv.get hx
    obtain ⟨u2, hu2, ru2⟩ := rv2.get hy
    have hzl : z < s.heap.objs.size := Heap.lt_size hz
    refine nextS_item D hz hTI hTO h1 h2 p.isList p2.isList (x := u) (y := u2) (by simpa using hu) (by simpa using hu2) fun h' z' TO' h1' h2' hT hsz hk => ?_
    refine ⟨_, rfl, goS (s := { s with heap := h' }) z' fun h'' z'' sb => ?_⟩
    have hT2 : h''.get? s.heap.objs.size = some { cls := .type "tuple", data := .seq #[u, u2] } := (sb.2 _ (Nat.ne_of_gt hzl)).trans hT
    have new : ObjOk X.prog X.w (upd H s.heap.objs.size (.tup [x, y])) h'' s.heap.objs.size (.tup [x, y]) :=
      ⟨by show 2 ≤ sizeLine; decide, [u, u2], .cons ru (.cons ru2 .nil), ⟨_, hT2, rfl, _, rfl⟩⟩
    have I1 : Inv X pins σ (upd H s.heap.objs.size (.tup [x, y])) { s with heap := h'' } :=
      I.turnedNew (t' := s.toks) (ch := [z, TI, TO, i1, i2]) (fun c o hb q => (sb.2 c (fun q' => hb (by simp [q']))).trans (hk c o (fun q' => hb (by simp [q'])) (fun q' => hb (by simp [q'])) (fun q' => hb (by simp [q'])) (fun q' => hb (by simp [q'])) q)) hf (Nat.le_refl _) new
    refine ⟨.ref s.heap.objs.size, _, I1, rfl, ⟨_, x, y, rfl, I.hok.fresh (Nat.le_refl _), rfl, fun l hl => by rw [I.list_inj hl hqx]; exact hx, fun l hl => by rw [I.list_inj hl hqy]; exact hy⟩, ⟨z'', ?_, ⟨u, u2, ?_⟩, ?_, ?_⟩, fun c hcm => ?_⟩
    · exact (sb.2 _ D.TIz).trans (hk _ _ D.TIz D.TITO D.TIi1 D.TIi2 hTI)
    · exact (sb.2 _ D.TOz).trans TO'
    · exact h1'.at fun o q => (sb.2 _ D.i1z).trans q
    · exact h2'.at fun o q => (sb.2 _ D.i2z).trans q
    · have hlt : c < s.heap.objs.size := by
        have e' : c = z ∨ c = TI ∨ c = TO ∨ c = i1 ∨ c = i2 := by simpa using hcm
        rcases e' with rfl | rfl | rfl | rfl | rfl
        · exact hzl
        · exact Heap.lt_size hTI
        · exact Heap.lt_size hTO
        · obtain ⟨_, e1, _⟩ := h1; exact Heap.lt_size e1
        · obtain ⟨_, e2, _⟩ := h2; exact Heap.lt_size e2
      rw [upd_ne (Nat.ne_of_lt hlt)]
      exact (hf c hcm).1
  done := by
    intro X hP hw hK hc i pins s σ H E I hf st hg
    subst hP hw hK
    obtain ⟨hz, hTI, ⟨x0, y0, hTO⟩, h1, h2⟩ := st
    obtain ⟨xs, ys, hqx, hqy, hex, hey⟩ := hg
    obtain ⟨its, rv, p, _⟩ := I.list hqx
    obtain ⟨its2, rv2, p2, _⟩ := I.list hqy
    have l1 := rv.length
    have l2 := rv2.length
    exact nextS_end (I.ok.hd hc) D hz hTI hTO h1 h2 p.isList p2.isList (by simp; omega) (by simp; omega) fun h' hk => ⟨rfl, I.turnedL (t' := s.toks) (ch := [z, TI, TO, i1, i2]) (fun c o hb q =>
      hk c o (fun q' => hb (by simp [q'])) (fun q' => hb (by simp [q'])) (fun q' => hb (by simp [q'])) (fun q' => hb (by simp [q'])) q) hf⟩
  self := fun A i s Q E st h => iterS st.1 h
def iZipS (K : PySem.W.Frag) (ta : TA) : TI := fun σ H R => ta σ H fun vs H1 => ∃ a b xs ys, vs = [.ref a, .ref b] ∧ SqL K H1 a xs ∧ SqL K H1 b ys ∧ R (ItzS K a b) H1
theorem callWith_typeK {M : Model} {A : Around} {E : Value → Shared → Prop} {s : Shared} {pos : Pos} {T : String} {args : List (Bool × Sem Value)} {keywords : List (Option Str × Sem Value)} {Q : Value → Shared → Prop}
    (hplain : args.any (·.1) = false) (hkw : keywords.any (·.1.isNone) = false)
    (h : wpAny M A (evalArgs (.type T) true args keywords) (fun a s1 => wpAny M A (call (.type T) a.pos a.kw) Q E s1) E s) : wpAny M A (callWith pos (.type T) [] args keywords) Q E s := by
  unfold callWith
  refine wpAny_bind (wpAny_holding (wpAny_mono h (fun a s1 h1 => wpAny_bind (wpAny_standAt ?_)) fun _ _ x => x))
  rw [hplain, hkw]
  refine wpAny_bind (wpAny_pure ?_)
  exact wpAny_bind (wpAny_mono h1 (fun r s2 hr => wpAny_bind (wpAny_holding (wpAny_point (wpAny_pure hr)))) fun _ _ x => x)
theorem pi_zipS {X : Cx} {e e2 : Expr} {ta : TA} {p pos tpos kp vp : Pos} {k : Nat} {elts : List Expr} {kk : Nat} (hg : Gl X "zip") (hm : X.mg "zip" = none) (ha : PA X [e, e2] ta)
    (he : backTo pos (starEach [e, e2] X.env) = (false, eval e X.env) :: backTo pos (starEach [e2] X.env) := by rfl) (hpl : (backTo pos (starEach [e, e2] X.env)).any (·.1) = false := by rfl)
    (hkw : (backToKw pos (keywordEach [⟨some "strict", .Constant (.bool true) k vp, kp⟩] X.env)).any (·.1.isNone) = false := by rfl)
    (hall : (backToKw pos (keywordEach [⟨some "strict", .Constant (.bool true) k vp, kp⟩] X.env)).all (·.1.isSome) = true := by rfl)
    (hks : (backToKw pos (keywordEach [⟨some "strict", .Constant (.bool true) k vp, kp⟩] X.env)).filterMap (·.1) = [Str.ofString "strict"] := by rfl) :
    PI X (.Tuple elts kk tpos) (.Call (.Name "zip" p) [e, e2] [⟨some "strict", .Constant (.bool true) k vp, kp⟩] pos) (iZipS X.K ta) := by
  refine ⟨fun pins s σ H R I h => ?_⟩
  refine wpAny_Call_Name_kw (ld_blt I hg hm PyProof.Rows.boot_zip ?_)
  refine callWith_typeK hpl hkw ?_
  have hrun := ha.run pos pins s σ H _ I h
  rw [he] at hrun ⊢
  refine evalArgs_kwB hall (thn hrun fun us s1 ⟨vs, H1, I1, r1, q1⟩ => ?_)
  have kk1 : PK X [⟨some "strict", .Constant (.bool true) k vp, kp⟩] (tCons (tC (.bl true)) tNil) := pk_cons pe_bl pk_nil
  refine thn (kk1.run pos pins s1 σ H1 (fun zs H2 => zs = [.bl true] ∧ H2 = H1) I1 ⟨rfl, rfl⟩) fun ws s2 ⟨zs, H2, I2, r2, e2, e3⟩ => ?_
  subst e2 e3
  rw [hks]
  obtain ⟨a, b, xs, ys, ex, hqx, hqy, q⟩ := q1
  subst ex
  obtain ⟨u1, u2, rfl, ra, rb⟩ := vals2 r1
  cases (show u1 = Value.ref a from ra)
  cases (show u2 = Value.ref b from rb)
  cases r2 with
  | cons rw1 rn =>
    cases rn
    cases rw1
    obtain ⟨its, rv, p1, _⟩ := I2.list hqx
    obtain ⟨its2, rv2, p2, _⟩ := I2.list hqy
    have la : a < s2.heap.objs.size := p1.lt
    have lb : b < s2.heap.objs.size := p2.lt
    refine call_zipS p1.isList p2.isList fun h' hz hTI hTO h1 h2 hsz hk => iterS hz ?_
    have I3 := I2.kept (h' := h') (t' := s2.toks) hk
    refine ⟨s2.heap.objs.size + 4, [s2.heap.objs.size + 4, s2.heap.objs.size + 2, s2.heap.objs.size + 3, s2.heap.objs.size, s2.heap.objs.size + 1], _, _, _, rfl, I3, turn_zipS (PySem.W.ktu_apart s2.heap.objs.size a b la lb), ⟨hz, hTI, ⟨_, _, hTO⟩, h1, h2⟩, fun c hcm => ?_, q⟩
    have hle : s2.heap.objs.size ≤ c := by
      have e' : c = s2.heap.objs.size + 4 ∨ c = s2.heap.objs.size + 2 ∨ c = s2.heap.objs.size + 3 ∨ c = s2.heap.objs.size ∨ c = s2.heap.objs.size + 1 := by simpa using hcm
      rcases e' with rfl | rfl | rfl | rfl | rfl <;> omega
    exact I2.fpOk hle (I2.hok.fresh hle)
theorem walk_zipS {K : PySem.W.Frag} {a b : Addr} {xs ys : List V} (hl : xs.length = ys.length) : Walk (ItzS K a b) xs.length (fun H => SqL K H a xs ∧ SqL K H b ys) (YPair (fun i => xs[i]?) (fun i => ys[i]?)) := by
  refine ⟨fun i H hi q => ⟨xs, ys, xs[i], ys[i], q.1, q.2, by simp [hi], by rw [List.getElem?_eq_getElem]⟩, fun H q => ⟨xs, ys, q.1, q.2, Nat.le_refl _, by omega⟩, fun i H v H' hi q y => ?_⟩
  obtain ⟨T, x, y, e1, e2, e3, e4, e5⟩ := y
  exact ⟨T, x, y, e1, e2, e3, e4 xs q.1, e5 ys q.2⟩
theorem k_zipS {X : Cx} (K : PySem.W.Frag) {e e2 : Expr} {ta : TA} {p pos tpos kp vp : Pos} {k : Nat} {elts : List Expr} {kk : Nat} (hg : Gl X "zip") (hm : X.mg "zip" = none) (ha : PA X [e, e2] ta) (hK : X.K = K := by rfl)
    (he : backTo pos (starEach [e, e2] X.env) = (false, eval e X.env) :: backTo pos (starEach [e2] X.env) := by rfl) (hpl : (backTo pos (starEach [e, e2] X.env)).any (·.1) = false := by rfl)
    (hkw : (backToKw pos (keywordEach [⟨some "strict", .Constant (.bool true) k vp, kp⟩] X.env)).any (·.1.isNone) = false := by rfl)
    (hall : (backToKw pos (keywordEach [⟨some "strict", .Constant (.bool true) k vp, kp⟩] X.env)).all (·.1.isSome) = true := by rfl)
    (hks : (backToKw pos (keywordEach [⟨some "strict", .Constant (.bool true) k vp, kp⟩] X.env)).filterMap (·.1) = [Str.ofString "strict"] := by rfl) :
    PI X (.Tuple elts kk tpos) (.Call (.Name "zip" p) [e, e2] [⟨some "strict", .Constant (.bool true) k vp, kp⟩] pos) (iZipS K ta) := by
  subst hK
  exact pi_zipS hg hm ha he hpl hkw hall hks
end Sk

set_option Elab.async false
set_option linter.all false
set_option maxRecDepth 100000
set_option maxHeartbeats 0
namespace K79
open PySem PySem.Spec PyProof.Rows L2
def tp (i : Nat) : Stmt := PySem.Challenge.pw_skipcounts_k79_whole_one_least_form.main.body.getD i (.Pass ⟨0, 0, 0, 0⟩)
abbrev s_is_whole : Stmt := tp 6
abbrev s_is_between : Stmt := tp 7
abbrev s_check_number : Stmt := tp 8
abbrev s_is_string_of : Stmt := tp 9
abbrev s_is_letters_alone : Stmt := tp 10
abbrev s_check_text : Stmt := tp 11
abbrev s_check_depth : Stmt := tp 13
abbrev s_ranks_ahead : Stmt := tp 14
abbrev s_ranks_of : Stmt := tp 15
abbrev s_taken_once : Stmt := tp 16
abbrev s_taken_down : Stmt := tp 17
abbrev s_put_in_order : Stmt := tp 18
abbrev s_way_down : Stmt := tp 19
abbrev s_least_form_of : Stmt := tp 20
abbrev s_least_form : Stmt := tp 21
abbrev s_read_alike : Stmt := tp 23
abbrev s_l_hash : Stmt := tp 25
abbrev s_l_random : Stmt := tp 26
abbrev s_l_cell : Stmt := tp 27
abbrev s_l_generator : Stmt := tp 28
abbrev s_l_letters : Stmt := tp 29
abbrev s_l_size : Stmt := tp 30
abbrev s_l_text : Stmt := tp 31
abbrev s_l_near : Stmt := tp 32
abbrev s_l_is_read : Stmt := tp 33
abbrev s_l_longer : Stmt := tp 34
abbrev s_l_reads : Stmt := tp 35
abbrev s_l_same : Stmt := tp 36
abbrev s_l_alike : Stmt := tp 37
abbrev s_l_first_alike : Stmt := tp 38
abbrev s_l_small_right : Stmt := tp 39
abbrev s_l_wide_right : Stmt := tp 40
abbrev s_law : Stmt := tp 41
abbrev n_is_whole : List Str := ["value"]
abbrev p_is_whole : List Str := ["value"]
theorem sc_is_whole : FnScope n_is_whole p_is_whole (defScope s_is_whole) :=
  ⟨rfl, rfl, rfl, by decide +kernel, rfl, by decide +kernel, by decide +kernel⟩
abbrev n_is_between : List Str := ["value", "low", "high"]
abbrev p_is_between : List Str := ["value", "low", "high"]
theorem sc_is_between : FnScope n_is_between p_is_between (defScope s_is_between) :=
  ⟨rfl, rfl, rfl, by decide +kernel, rfl, by decide +kernel, by decide +kernel⟩
abbrev n_check_number : List Str := ["number", "low", "high"]
abbrev p_check_number : List Str := ["number", "low", "high"]
theorem sc_check_number : FnScope n_check_number p_check_number (defScope s_check_number) :=
  ⟨rfl, rfl, rfl, by decide +kernel, rfl, by decide +kernel, by decide +kernel⟩
abbrev n_is_string_of : List Str := ["value", "signs"]
abbrev p_is_string_of : List Str := ["value", "signs"]
theorem sc_is_string_of : FnScope n_is_string_of p_is_string_of (defScope s_is_string_of) :=
  ⟨rfl, rfl, rfl, by decide +kernel, rfl, by decide +kernel, by decide +kernel⟩
abbrev n_is_letters_alone : List Str := ["value"]
abbrev p_is_letters_alone : List Str := ["value"]
theorem sc_is_letters_alone : FnScope n_is_letters_alone p_is_letters_alone (defScope s_is_letters_alone) :=
  ⟨rfl, rfl, rfl, by decide +kernel, rfl, by decide +kernel, by decide +kernel⟩
abbrev n_check_text : List Str := ["text"]
abbrev p_check_text : List Str := ["text"]
theorem sc_check_text : FnScope n_check_text p_check_text (defScope s_check_text) :=
  ⟨rfl, rfl, rfl, by decide +kernel, rfl, by decide +kernel, by decide +kernel⟩
abbrev n_check_depth : List Str := ["depth"]
abbrev p_check_depth : List Str := ["depth"]
theorem sc_check_depth : FnScope n_check_depth p_check_depth (defScope s_check_depth) :=
  ⟨rfl, rfl, rfl, by decide +kernel, rfl, by decide +kernel, by decide +kernel⟩
abbrev n_ranks_ahead : List Str := ["text", "least", "found", "letter", "rank", "other"]
abbrev p_ranks_ahead : List Str := ["text"]
theorem sc_ranks_ahead : FnScope n_ranks_ahead p_ranks_ahead (defScope s_ranks_ahead) :=
  ⟨rfl, rfl, rfl, by decide +kernel, rfl, by decide +kernel, by decide +kernel⟩
abbrev n_ranks_of : List Str := ["text", "behind", "one", "other"]
abbrev p_ranks_of : List Str := ["text"]
theorem sc_ranks_of : FnScope n_ranks_of p_ranks_of (defScope s_ranks_of) :=
  ⟨rfl, rfl, rfl, by decide +kernel, rfl, by decide +kernel, by decide +kernel⟩
abbrev n_taken_once : List Str := ["depth", "start", "found", "kept", "least", "ahead", "at", "rank", "other"]
abbrev p_taken_once : List Str := ["depth", "start"]
theorem sc_taken_once : FnScope n_taken_once p_taken_once (defScope s_taken_once) :=
  ⟨rfl, rfl, rfl, by decide +kernel, rfl, by decide +kernel, by decide +kernel⟩
abbrev n_taken_down : List Str := ["depth", "text", "found", "fresh"]
abbrev p_taken_down : List Str := ["depth", "text"]
theorem sc_taken_down : FnScope n_taken_down p_taken_down (defScope s_taken_down) :=
  ⟨rfl, rfl, rfl, by decide +kernel, rfl, by decide +kernel, by decide +kernel⟩
abbrev n_put_in_order : List Str := ["depth", "text", "pairs", "found", "at", "now", "pair"]
abbrev p_put_in_order : List Str := ["depth", "text"]
theorem sc_put_in_order : FnScope n_put_in_order p_put_in_order (defScope s_put_in_order) :=
  ⟨rfl, rfl, rfl, by decide +kernel, rfl, by decide +kernel, by decide +kernel⟩
abbrev n_way_down : List Str := ["depth", "text", "found"]
abbrev p_way_down : List Str := ["depth", "text"]
theorem sc_way_down : FnScope n_way_down p_way_down (defScope s_way_down) :=
  ⟨rfl, rfl, rfl, by decide +kernel, rfl, by decide +kernel, by decide +kernel⟩
abbrev n_least_form_of : List Str := ["depth", "text"]
abbrev p_least_form_of : List Str := ["depth", "text"]
theorem sc_least_form_of : FnScope n_least_form_of p_least_form_of (defScope s_least_form_of) :=
  ⟨rfl, rfl, rfl, by decide +kernel, rfl, by decide +kernel, by decide +kernel⟩
abbrev n_least_form : List Str := ["depth", "text"]
abbrev p_least_form : List Str := ["depth", "text"]
theorem sc_least_form : FnScope n_least_form p_least_form (defScope s_least_form) :=
  ⟨rfl, rfl, rfl, by decide +kernel, rfl, by decide +kernel, by decide +kernel⟩
abbrev n_read_alike : List Str := ["depth", "one", "other"]
abbrev p_read_alike : List Str := ["depth", "one", "other"]
theorem sc_read_alike : FnScope n_read_alike p_read_alike (defScope s_read_alike) :=
  ⟨rfl, rfl, rfl, by decide +kernel, rfl, by decide +kernel, by decide +kernel⟩
abbrev n_l_hash : List Str := ["_law_seed", "_law_index", "_law_mixed"]
abbrev p_l_hash : List Str := ["_law_seed", "_law_index"]
theorem sc_l_hash : FnScope n_l_hash p_l_hash (defScope s_l_hash) :=
  ⟨rfl, rfl, rfl, by decide +kernel, rfl, by decide +kernel, by decide +kernel⟩
abbrev n_l_random : List Str := ["_law_generator_here", "_law_bound", "_law_drawn", "_law_turn"]
abbrev p_l_random : List Str := ["_law_generator_here", "_law_bound"]
theorem sc_l_random : FnScope n_l_random p_l_random (defScope s_l_random) :=
  ⟨rfl, rfl, rfl, by decide +kernel, rfl, by decide +kernel, by decide +kernel⟩
abbrev n_l_cell : List Str := ["_law_script", "_law_index"]
abbrev p_l_cell : List Str := ["_law_script", "_law_index"]
theorem sc_l_cell : FnScope n_l_cell p_l_cell (defScope s_l_cell) :=
  ⟨rfl, rfl, rfl, by decide +kernel, rfl, by decide +kernel, by decide +kernel⟩
abbrev n_l_generator : List Str := ["_law_script", "_law_index", "_law_seed"]
abbrev p_l_generator : List Str := ["_law_script", "_law_index"]
theorem sc_l_generator : FnScope n_l_generator p_l_generator (defScope s_l_generator) :=
  ⟨rfl, rfl, rfl, by decide +kernel, rfl, by decide +kernel, by decide +kernel⟩
abbrev n_l_letters : List Str := ["_law_generator_here", "_law_least", "_law_most", "_law_left", "_law_many", "_law_turn"]
abbrev p_l_letters : List Str := ["_law_generator_here", "_law_least", "_law_most"]
theorem sc_l_letters : FnScope n_l_letters p_l_letters (defScope s_l_letters) :=
  ⟨rfl, rfl, rfl, by decide +kernel, rfl, by decide +kernel, by decide +kernel⟩
abbrev n_l_size : List Str := ["_law_generator_here", "_law_least", "_law_most"]
abbrev p_l_size : List Str := ["_law_generator_here", "_law_least", "_law_most"]
theorem sc_l_size : FnScope n_l_size p_l_size (defScope s_l_size) :=
  ⟨rfl, rfl, rfl, by decide +kernel, rfl, by decide +kernel, by decide +kernel⟩
abbrev n_l_text : List Str := ["_law_generator_here", "_law_letters_here", "_law_least", "_law_most", "_law_many", "_law_text_here", "_law_turn"]
abbrev p_l_text : List Str := ["_law_generator_here", "_law_letters_here", "_law_least", "_law_most"]
theorem sc_l_text : FnScope n_l_text p_l_text (defScope s_l_text) :=
  ⟨rfl, rfl, rfl, by decide +kernel, rfl, by decide +kernel, by decide +kernel⟩
abbrev n_l_near : List Str := ["_law_generator_here", "_law_letters_here", "_law_text_here", "_law_at", "_law_way", "_law_letter"]
abbrev p_l_near : List Str := ["_law_generator_here", "_law_letters_here", "_law_text_here"]
theorem sc_l_near : FnScope n_l_near p_l_near (defScope s_l_near) :=
  ⟨rfl, rfl, rfl, by decide +kernel, rfl, by decide +kernel, by decide +kernel⟩
abbrev n_l_is_read : List Str := ["_law_word", "_law_text_here", "_law_at", "_law_letter"]
abbrev p_l_is_read : List Str := ["_law_word", "_law_text_here"]
theorem sc_l_is_read : FnScope n_l_is_read p_l_is_read (defScope s_l_is_read) :=
  ⟨rfl, rfl, rfl, by decide +kernel, rfl, by decide +kernel, by decide +kernel⟩
abbrev n_l_longer : List Str := ["_law_words", "_law_letters_here", "_law_text_here", "_law_found", "_law_word", "_law_letter"]
abbrev p_l_longer : List Str := ["_law_words", "_law_letters_here", "_law_text_here"]
theorem sc_l_longer : FnScope n_l_longer p_l_longer (defScope s_l_longer) :=
  ⟨rfl, rfl, rfl, by decide +kernel, rfl, by decide +kernel, by decide +kernel⟩
abbrev n_l_reads : List Str := ["_law_depth", "_law_text_here", "_law_level", "_law_found", "_law_letters_here", "_law_size_here", "_law_letter"]
abbrev p_l_reads : List Str := ["_law_depth", "_law_text_here"]
theorem sc_l_reads : FnScope n_l_reads p_l_reads (defScope s_l_reads) :=
  ⟨rfl, rfl, rfl, by decide +kernel, rfl, by decide +kernel, by decide +kernel⟩
abbrev n_l_same : List Str := ["_law_told", "_law_due"]
abbrev p_l_same : List Str := ["_law_told", "_law_due"]
theorem sc_l_same : FnScope n_l_same p_l_same (defScope s_l_same) :=
  ⟨rfl, rfl, rfl, by decide +kernel, rfl, by decide +kernel, by decide +kernel⟩
abbrev n_l_alike : List Str := ["_law_generator_here", "_law_letters_here", "_law_depth", "_law_text_here", "_law_most", "_law_due", "_law_now", "_law_turn", "_law_near_here"]
abbrev p_l_alike : List Str := ["_law_generator_here", "_law_letters_here", "_law_depth", "_law_text_here", "_law_most"]
theorem sc_l_alike : FnScope n_l_alike p_l_alike (defScope s_l_alike) :=
  ⟨rfl, rfl, rfl, by decide +kernel, rfl, by decide +kernel, by decide +kernel⟩
abbrev n_l_first_alike : List Str := ["_law_depth", "_law_text_here", "_law_letters_here", "_law_due", "_law_level", "_law_size_here", "_law_found", "_law_longer_here", "_law_near_here", "_law_letter"]
abbrev p_l_first_alike : List Str := ["_law_depth", "_law_text_here"]
theorem sc_l_first_alike : FnScope n_l_first_alike p_l_first_alike (defScope s_l_first_alike) :=
  ⟨rfl, rfl, rfl, by decide +kernel, rfl, by decide +kernel, by decide +kernel⟩
abbrev n_l_small_right : List Str := ["_law_generator_here", "_law_letters_here", "_law_depth", "_law_text_here", "_law_due", "_law_told", "_law_mate", "_law_near_here", "_law_same_here"]
abbrev p_l_small_right : List Str := ["_law_generator_here"]
theorem sc_l_small_right : FnScope n_l_small_right p_l_small_right (defScope s_l_small_right) :=
  ⟨rfl, rfl, rfl, by decide +kernel, rfl, by decide +kernel, by decide +kernel⟩
abbrev n_l_wide_right : List Str := ["_law_generator_here", "_law_letters_here", "_law_depth", "_law_text_here", "_law_told", "_law_mate", "_law_goes", "_law_turned", "_law_less", "_law_whole", "_law_at", "_law_near_here"]
abbrev p_l_wide_right : List Str := ["_law_generator_here"]
theorem sc_l_wide_right : FnScope n_l_wide_right p_l_wide_right (defScope s_l_wide_right) :=
  ⟨rfl, rfl, rfl, by decide +kernel, rfl, by decide +kernel, by decide +kernel⟩
abbrev n_law : List Str := ["_law_script", "_law_index", "_law_generator_here", "_law_due", "_law_told", "_law_letter"]
abbrev p_law : List Str := ["_law_script"]
theorem sc_law : FnScope n_law p_law (defScope s_law) :=
  ⟨rfl, rfl, rfl, by decide +kernel, rfl, by decide +kernel, by decide +kernel⟩
def fn : List He.DefD := [Sk.dd "is_whole" s_is_whole, Sk.dd "is_between" s_is_between, Sk.dd "check_number" s_check_number, Sk.dd "is_string_of" s_is_string_of, Sk.dd "is_letters_alone" s_is_letters_alone, Sk.dd "check_text" s_check_text, Sk.dd "check_depth" s_check_depth, Sk.dd "ranks_ahead" s_ranks_ahead, Sk.dd "ranks_of" s_ranks_of, Sk.dd "taken_once" s_taken_once, Sk.dd "taken_down" s_taken_down, Sk.dd "put_in_order" s_put_in_order, Sk.dd "way_down" s_way_down, Sk.dd "least_form_of" s_least_form_of, Sk.dd "least_form" s_least_form, Sk.dd "read_alike" s_read_alike, Sk.dd "_law_hash" s_l_hash, Sk.dd "_law_random" s_l_random, Sk.dd "_law_cell" s_l_cell, Sk.dd "_law_generator" s_l_generator, Sk.dd "_law_letters" s_l_letters, Sk.dd "_law_size" s_l_size, Sk.dd "_law_text" s_l_text, Sk.dd "_law_near" s_l_near, Sk.dd "_law_is_read" s_l_is_read, Sk.dd "_law_longer" s_l_longer, Sk.dd "_law_reads" s_l_reads, Sk.dd "_law_same" s_l_same, Sk.dd "_law_alike" s_l_alike, Sk.dd "_law_first_alike" s_l_first_alike, Sk.dd "_law_small_right" s_l_small_right, Sk.dd "_law_wide_right" s_l_wide_right, Sk.dd "law" s_law]
def fa : List He.Fa := [.glo "is_whole", .glo "is_between", .glo "check_number", .glo "is_string_of", .glo "is_letters_alone", .glo "check_text", .glo "check_depth", .glo "ranks_ahead", .glo "ranks_of", .glo "taken_once", .glo "taken_down", .glo "put_in_order", .glo "way_down", .glo "least_form_of", .glo "least_form", .glo "read_alike", .glo "_law_hash", .glo "_law_random", .glo "_law_cell", .glo "_law_generator", .glo "_law_letters", .glo "_law_size", .glo "_law_text", .glo "_law_near", .glo "_law_is_read", .glo "_law_longer", .glo "_law_reads", .glo "_law_same", .glo "_law_alike", .glo "_law_first_alike", .glo "_law_small_right", .glo "_law_wide_right", .glo "law", .free "bool", .free "int", .free "isinstance", .free "len", .free "list", .free "max", .free "min", .free "range", .free "repr", .free "sorted", .free "str", .free "sum", .free "zip", .str "LETTERS" "abcdefghijklmnopqrstuvwxyz"]
abbrev RR : PySem.W.OpenRow := PySem.W.OpenLaw.row PySem.Challenge.rw_skipcounts_k79_whole_one_least_form
abbrev hk : PySem.W.Hook := He.hookD 4 fa fn
def ob (s : PySem.W.SharedT) : He.AlD := He.obsDG 4 fa fn (HandSHeadRun.getT s)
theorem ob_eq (s : PySem.W.SharedT) : ob s = hk.obs s.abs :=
  He.obsDG_eq (HandSHeadRun.getT_eq s)
def lo0 : List Str := ["SkipError", "InvalidNumber", "InvalidText", "LETTERS", "is_whole", "is_between", "check_number", "is_string_of", "is_letters_alone", "check_text", "check_depth", "ranks_ahead", "ranks_of", "taken_once", "taken_down", "put_in_order", "way_down", "least_form_of", "least_form", "read_alike", "_law_hash", "_law_random", "_law_cell", "_law_generator", "_law_letters", "_law_size", "_law_text", "_law_near", "_law_is_read", "_law_longer"]
def lo1 : List Str := ["_law_reads", "_law_same", "_law_alike", "_law_first_alike", "_law_small_right", "_law_wide_right"]
def lo : List Str := lo0 ++ lo1
theorem run (w : World) : HandSHeadRun.RunEq RR (PySem.W.view RR.prog [41]) hk ob 4000 lo w := by
  intro os
  kernel_rfl
end K79

set_option Elab.async false
set_option linter.all false
set_option maxRecDepth 100000
set_option maxHeartbeats 4000000
namespace K79
open PySem PySem.Spec PyProof.Rows L2 Sk
section
variable {P : Program} {w : World} {K : PySem.W.Frag} {mg : Str → Option Value} {base : Heap}
abbrev abc : List Nat := [97, 98, 99, 100, 101, 102, 103, 104, 105, 106, 107, 108, 109, 110, 111, 112, 113, 114, 115, 116, 117, 118, 119, 120, 121, 122]
def sp_is_whole : Sp := fun vs H Q _ => ∃ i : Int, vs = [.int i] ∧ Q (.bl true) H
theorem ok_is_whole (F : Facts fa fn K mg)  : Callee P w K mg base 1 "is_whole" p_is_whole sp_is_whole := by
  refine F.callee 0 0 sc_is_whole (fun vs H Q E h => ?_) (fun _ _ _ _ _ _ us hl => match us, hl with | [_], _ => rfl) (fun f cdv A outer t0 H vs Q E hg hr h => ?_)
  · obtain ⟨i, rfl, q⟩ := h
    rfl
  · obtain ⟨i, rfl, q⟩ := h
    refine ⟨_, (pss_one (ps_ret (pe_and (pe_callB (k_isi K) (by rfl) (F.free 35) (by decide +kernel) (pa_cons (pv 0) (pa_cons (pe_bltn (v := .ty "int") (by rfl) (F.free 34) (by decide +kernel) rfl) pa_nil))) (pe_one (pe_not (pe_callB (k_isi K) (by rfl) (F.free 35) (by decide +kernel) (pa_cons (pv 0) (pa_cons (pe_bltn (v := .ty "bool") (by rfl) (F.free 33) (by decide +kernel) rfl) pa_nil)))))))), ?_⟩
    refine ⟨_, rfl, _, _, _, _, _, rfl, .ty _, .base (.int _), kit_ty (r := true) (by decide +kernel), ?_⟩
    refine ⟨true, rfl, ?_⟩
    exact ⟨_, rfl, _, _, _, _, _, rfl, .ty _, .base (.int _), kit_ty (r := false) (by decide +kernel), _, rfl, q⟩
def sp_is_between : Sp := fun vs H Q _ => ∃ (i lo : Int) (h : V), vs = [.int i, .int lo, h] ∧ lo ≤ i ∧ (h = .non ∨ ∃ hi : Int, h = .int hi ∧ i ≤ hi) ∧ Q (.bl true) H
theorem ok_is_between (F : Facts fa fn K mg) (c_is_whole : Callee P w K mg base 1 "is_whole" p_is_whole sp_is_whole) : Callee P w K mg base 2 "is_between" p_is_between sp_is_between := by
  refine F.callee 1 1 sc_is_between (fun vs H Q E h => ?_) (fun _ _ _ _ _ _ us hl => match us, hl with | [_, _, _], _ => rfl) (fun f cdv A outer t0 H vs Q E hg hr h => ?_)
  · obtain ⟨i, lo, h, rfl, h1, h2, q⟩ := h
    rfl
  · obtain ⟨i, lo, h, rfl, h1, h2, q⟩ := h
    refine ⟨_, (pss_cons (ps_if (pt_not (pt_val (pe_cal c_is_whole hg (hr.mono (by decide)) (pa_cons (pv 0) pa_nil)))) (pss_one (ps_ret pe_bl))
      pss_nil)
      (pss_one (ps_ret (pe_and (pe_or (pe_cmpR op_isN (pv 1) pe_non (nomark _)) (pe_one (pe_cmpR op_ge (pv 0) (pv 1) (nomark _)))) (pe_one (pe_or (pe_cmpR op_isN (pv 2) pe_non (nomark _)) (pe_one (pe_cmpR op_le (pv 0) (pv 2) (nomark _))))))))), ?_⟩
    refine ⟨_, rfl, i, rfl, _, rfl, iteF ?_⟩
    refine ⟨_, rfl, rfl, false, rfl, iteF ⟨_, rfl, _, rfl, _, _, rfl, rfl, _, rfl, ?_⟩⟩
    rw [decide_eq_true (show i ≥ lo from h1)]
    refine iteT ?_
    rcases h2 with rfl | ⟨hi, rfl, h2⟩
    · exact ⟨_, rfl, rfl, true, rfl, iteT q⟩
    · refine ⟨_, rfl, rfl, false, rfl, iteF ⟨_, rfl, _, rfl, _, _, rfl, rfl, ?_⟩⟩
      show Q (.bl (decide (i ≤ hi))) H
      rw [decide_eq_true h2]
      exact q
def sp_check_number : Sp := fun vs H Q _ => ∃ (i lo : Int) (h : V), vs = [.int i, .int lo, h] ∧ lo ≤ i ∧ (h = .non ∨ ∃ hi : Int, h = .int hi ∧ i ≤ hi) ∧ Q .non H
theorem ok_check_number (F : Facts fa fn K mg) (c_is_between : Callee P w K mg base 2 "is_between" p_is_between sp_is_between) : Callee P w K mg base 3 "check_number" p_check_number sp_check_number := by
  refine F.callee 2 2 sc_check_number (fun vs H Q E h => ?_) (fun _ _ _ _ _ _ us hl => match us, hl with | [_, _, _], _ => rfl) (fun f cdv A outer t0 H vs Q E hg hr h => ?_)
  · obtain ⟨i, lo, h, rfl, h1, h2, q⟩ := h
    rfl
  · obtain ⟨i, lo, h, rfl, h1, h2, q⟩ := h
    refine ⟨_, (pss_one (ps_if (pt_not (pt_val (pe_cal c_is_between hg (hr.mono (by decide)) (pa_cons (pv 0) (pa_cons (pv 1) (pa_cons (pv 2) pa_nil)))))) (pss_one ps_never)
      pss_nil)), ?_⟩
    refine ⟨_, rfl, _, rfl, _, rfl, i, lo, h, rfl, h1, h2, ?_⟩
    exact ⟨_, rfl, iteF q⟩
def sp_check_depth : Sp := fun vs H Q _ => ∃ i : Int, vs = [.int i] ∧ 0 ≤ i ∧ Q .non H
theorem ok_check_depth (F : Facts fa fn K mg) (c_check_number : Callee P w K mg base 3 "check_number" p_check_number sp_check_number) : Callee P w K mg base 4 "check_depth" p_check_depth sp_check_depth := by
  refine F.callee 6 6 sc_check_depth (fun vs H Q E h => ?_) (fun _ _ _ _ _ _ us hl => match us, hl with | [_], _ => rfl) (fun f cdv A outer t0 H vs Q E hg hr h => ?_)
  · obtain ⟨i, rfl, h1, q⟩ := h
    rfl
  · obtain ⟨i, rfl, h1, q⟩ := h
    refine ⟨_, (pss_one (ps_expr (pe_cal c_check_number hg (hr.mono (by decide)) (pa_cons (pv 0) (pa_cons pe_int (pa_cons pe_non pa_nil)))))), ?_⟩
    exact ⟨_, rfl, i, 0, .non, rfl, h1, .inl rfl, q⟩
def sp_is_string_of : Sp := fun vs H Q _ => ∃ l b, vs = [T l, T b] ∧ l.length ≤ 100000 ∧ Q (.bl (decide (∀ c ∈ l, c ∈ b))) H
theorem ok_is_string_of (F : Facts fa fn K mg)  : Callee P w K mg base 1 "is_string_of" p_is_string_of sp_is_string_of := by
  refine F.callee 3 3 sc_is_string_of (fun vs H Q E h => ?_) (fun _ _ _ _ _ _ us hl => match us, hl with | [_, _], _ => rfl) (fun f cdv A outer t0 H vs Q E hg hr h => ?_)
  · obtain ⟨l, b, rfl, hz, q⟩ := h
    rfl
  · obtain ⟨l, b, rfl, hz, q⟩ := h
    refine ⟨_, (pss_one (ps_ret (pe_and (pe_callB (k_isi K) (by rfl) (F.free 35) (by decide +kernel) (pa_cons (pv 0) (pa_cons (pe_bltn (v := .ty "str") (by rfl) (F.free 43) (by decide +kernel) rfl) pa_nil))) (pe_one (pe_cmpR op_eqT (k_bm K PySem.F.plainAttrs_str PySem.F.slot_str_strip PySem.F.type_str_strip mt_stripT (pv 0) (pa_cons (pv 1) pa_nil)) (pe_txt []) (nomark _)))))), ?_⟩
    refine ⟨_, rfl, _, _, _, _, _, rfl, .ty _, .base (.str _), kit_ty (r := true) (by decide +kernel), ?_⟩
    refine ⟨true, rfl, ?_⟩
    refine ⟨_, rfl, rfl, _, rfl, l, b, rfl, rfl, by omega, fun r hr => ?_⟩
    refine ⟨r, [], rfl, rfl, ?_⟩
    show Q (.bl (decide (r = []))) H
    have e : decide (r = []) = decide (∀ c ∈ l, c ∈ b) := by
      by_cases h : r = []
      · rw [decide_eq_true h, decide_eq_true (hr.mp h)]
      · rw [decide_eq_false h, decide_eq_false (fun z => h (hr.mpr z))]
    rw [e]
    exact q
def sp_is_letters_alone : Sp := fun vs H Q _ => ∃ l, vs = [T l] ∧ l.length ≤ 100000 ∧ Q (.bl (decide (∀ c ∈ l, c ∈ abc))) H
theorem ok_is_letters_alone (F : Facts fa fn K mg) (c_is_string_of : Callee P w K mg base 1 "is_string_of" p_is_string_of sp_is_string_of) : Callee P w K mg base 2 "is_letters_alone" p_is_letters_alone sp_is_letters_alone := by
  refine F.callee 4 4 sc_is_letters_alone (fun vs H Q E h => ?_) (fun _ _ _ _ _ _ us hl => match us, hl with | [_], _ => rfl) (fun f cdv A outer t0 H vs Q E hg hr h => ?_)
  · obtain ⟨l, rfl, hz, q⟩ := h
    rfl
  · obtain ⟨l, rfl, hz, q⟩ := h
    obtain ⟨t_LETTERS, m_LETTERS⟩ := F.str (x := "LETTERS") 46
    refine ⟨_, (pss_one (ps_ret (pe_cal c_is_string_of hg (hr.mono (by decide)) (pa_cons (pv 0) (pa_cons (pe_gtxt [97, 98, 99, 100, 101, 102, 103, 104, 105, 106, 107, 108, 109, 110, 111, 112, 113, 114, 115, 116, 117, 118, 119, 120, 121, 122] m_LETTERS) pa_nil))))), ?_⟩
    exact ⟨_, rfl, l, abc, rfl, hz, q⟩
def sp_check_text : Sp := fun vs H Q _ => ∃ l, vs = [T l] ∧ l.length ≤ 100000 ∧ (∀ c ∈ l, c ∈ abc) ∧ Q .non H
theorem ok_check_text (F : Facts fa fn K mg) (c_is_letters_alone : Callee P w K mg base 2 "is_letters_alone" p_is_letters_alone sp_is_letters_alone) : Callee P w K mg base 3 "check_text" p_check_text sp_check_text := by
  refine F.callee 5 5 sc_check_text (fun vs H Q E h => ?_) (fun _ _ _ _ _ _ us hl => match us, hl with | [_], _ => rfl) (fun f cdv A outer t0 H vs Q E hg hr h => ?_)
  · obtain ⟨l, rfl, hz, hc, q⟩ := h
    rfl
  · obtain ⟨l, rfl, hz, hc, q⟩ := h
    refine ⟨_, (pss_one (ps_if (pt_not (pt_val (pe_cal c_is_letters_alone hg (hr.mono (by decide)) (pa_cons (pv 0) pa_nil)))) (pss_one ps_never)
      pss_nil)), ?_⟩
    refine ⟨_, rfl, l, rfl, hz, ?_⟩
    rw [decide_eq_true hc]
    exact ⟨_, rfl, iteF q⟩
end

end K79

set_option Elab.async false
set_option linter.all false
set_option maxRecDepth 100000
set_option maxHeartbeats 4000000
namespace K79
open PySem PySem.Spec PyProof.Rows L2 Sk
section
variable {P : Program} {w : World} {K : PySem.W.Frag} {mg : Str → Option Value} {base : Heap}
theorem get_zero {p : List Nat} {kvs : List (Key × V)} (h : LeastAt p kvs) (c : Nat) : (valV kvs (.inr (tx [c]))).getD (.int 0) = .int (Lf p c : Nat) := by
  rw [h.at_]
  by_cases hc : c ∈ p
  · rw [if_pos hc]; rfl
  · rw [if_neg hc, Lf_fresh hc]; rfl
def sp_ranks_ahead : Sp := fun vs H Q _ => ∃ l : List Nat, vs = [T l] ∧ l.length ≤ 100000 ∧ ∀ H' p, Same H H' → H p = none → H' p = some (.lst ((rkf [] l).map fun n => V.int (n : Nat))) → Q (.ref p) H'
theorem ok_ranks_ahead (F : Facts fa fn K mg)  : Callee P w K mg base 1 "ranks_ahead" p_ranks_ahead sp_ranks_ahead := by
  refine F.callee 7 7 sc_ranks_ahead (fun vs H Q E h => ?_) (fun _ _ _ _ _ _ us hl => match us, hl with | [_], _ => rfl) (fun f cdv A outer t0 H vs Q E hg hr h => ?_)
  · obtain ⟨l, rfl, hz, q⟩ := h
    rfl
  · obtain ⟨l, rfl, hz, q⟩ := h
    refine ⟨_, (pss_cons (ps_asg (pe_tup (pa_cons pe_dnewK (pa_cons (pe_lst pa_nil) pa_nil))) (k_tup (n := 2) K rfl (pgs_cons (pg_name (i := 1) sc_ranks_ahead.nd rfl (by first | exact Or.inl rfl | exact Or.inr rfl)) (pgs_cons (pg_name (i := 2) sc_ranks_ahead.nd rfl (by first | exact Or.inl rfl | exact Or.inr rfl)) pgs_nil))))
      (pss_cons (ps_for PassesOwn.never rfl (pi_str (pv 0)) (pg_name (i := 3) sc_ranks_ahead.nd rfl (by first | exact Or.inl rfl | exact Or.inr rfl))
      (pss_cons (ps_set (i := 4) sc_ranks_ahead.nd rfl (by first | exact Or.inl rfl | exact Or.inr rfl) (pe_op op_add (pe_dget2 (hu_of hr) (pv 1) (pv 3) pe_int ⟨rfl, rfl, rfl, rfl⟩) pe_int))
      (pss_cons (ps_set (i := 1) sc_ranks_ahead.nd rfl (by first | exact Or.inl rfl | exact Or.inr rfl) (pe_lock (pe_dc (own := [("other", 5)]) rfl sc_ranks_ahead.nd (pi_keys (pv 1)) (blkOk_by (by kernel_rfl)) (fun _ _ _ _ _ => (pg_name (i := 5) sc_ranks_ahead.nd rfl (by first | exact Or.inl rfl | exact Or.inr rfl))) (fun _ _ _ _ _ => pts_nil) (fun _ _ _ _ _ => (pv 5)) (fun _ _ _ _ _ => (pe_callB (call_min2 rfl) (by rfl) (F.free 39) (by decide +kernel) (pa_cons (pe_dget (hu_of hr) (pv 1) (pv 5) (fun _ _ => rfl)) (pa_cons (pv 4) pa_nil)))))))
      (pss_cons (ps_dput (hu_of hr) (pv 1) (pv 3) (pv 4) rfl)
      (pss_one (ps_expr (k_bm K PySem.F.plainAttrs_list PySem.F.slot_list_append PySem.F.type_list_append mt_append (pv 2) (pa_cons (pv 4) pa_nil))))))))
      (pss_one (ps_ret (pv 2))))), ?_⟩
    -- least, found = ({}, [])
    refine fun a1 na1 => ?_
    refine ⟨Nat.zero_le _, fun a2 na2 => ?_⟩
    refine ⟨by show 2 ≤ sizeLine; decide, fun a3 na3 => ?_⟩
    refine ⟨_, _, rfl, .inl (.inl upd_same), rfl, _, _, rfl, _, _, rfl, rfl, ?_⟩
    have n12 : a1 ≠ a2 := ne_of_none upd_same na2
    have nH2 : H a2 = none := by rw [upd_ne n12.symm] at na2; exact na2
    have s2 : Same H (upd (upd H a1 (.dK [])) a2 (.lst [])) := snew (same_new na1) na2
    -- for letter in text:
    refine ⟨_, rfl, _, rfl, for_it walk_txt (fun i σ H3 => ∃ (d : Addr) (kvs : List (Key × V)) (x3 x4 x5 : Option V), σ = [some (T l), some (.ref d), some (.ref a2), x3, x4, x5] ∧ i ≤ l.length ∧ Same H H3 ∧ H3 a2 = some (.lst (((rkf [] l).take i).map fun n => V.int (n : Nat))) ∧ H3 d = some (.dK kvs) ∧ H d = none ∧ LeastAt (l.take i) kvs) ?start (fun _ _ _ _ _ => trivial) ?turn ?fin⟩
    case start =>
      refine ⟨a1, [], none, none, none, rfl, Nat.zero_le _, snew s2 na3, ?_, ?_, na1, least_nil⟩
      · rw [upd_ne (ne_of_none upd_same na3), upd_same]; rfl
      · rw [upd_ne (ne_of_none (show upd (upd H a1 (.dK [])) a2 (.lst []) a1 = some (.dK []) by rw [upd_ne n12, upd_same]) na3), upd_ne n12, upd_same]
    case turn =>
      rintro i x σ H3 H4 hi ⟨d, kvs, x3, x4, x5, rfl, hil, s3, e3, ed, nd, hL⟩ ⟨rfl, c, hc, rfl⟩
      have hlen : kvs.length ≤ 100000 := by
        have := hL.len
        rw [List.length_take] at this
        omega
      -- rank = least.get(letter, 0) + 1
      refine ⟨_, rfl, d, rfl, .inl ⟨kvs, .inl ed⟩, _, rfl, _, DGet.k (k := .inr (tx [c])) ed, ?_⟩
      rw [get_zero hL]
      refine ⟨_, _, rfl, rfl, ?_⟩
      -- least = {other: min(least[other], rank) for other in least}
      refine rd_dictmap (r := 1) (j := 5) (fun _ => fmin ((Lf (l.take i) c : Int) + 1)) rfl ed (by show 5 < 6; omega) hL.nd (by omega) (fun k v o H5 Qk hm h5 _ qk => ?_) (fun D H5 s5 hD e5 => ?_)
      · obtain ⟨c', hc', e⟩ := hL.keys _ hm
        cases e
        have h9 : some (V.int (Lf (l.take i) c' : Nat)) = valV kvs (.inr (tx [c'])) := by rw [hL.at_, if_pos hc']
        exact ⟨_, rfl, _, rfl, d, _, rfl, .inl ⟨kvs, .inr (tx [c']), .inr ⟨o, h5⟩, rfl, h9⟩, _, rfl, _, _, rfl, qk⟩
      have nD : H D = none := s3.free hD
      have na : a2 ≠ D := ne_of_none e3 hD
      -- least[letter] = rank
      refine ⟨_, rfl, _, rfl, _, rfl, D, _, rfl, DPut.k (k := .inr (tx [c])) e5 (by rw [List.length_map]; exact line_lt (by omega)), ?_⟩
      have e6 : upd H5 D (.dK (putK (kvs.map fun kv => (kv.1, fmin ((Lf (l.take i) c : Int) + 1) kv.2)) (.inr (tx [c])) (.int ((Lf (l.take i) c : Int) + 1)))) a2 = some (.lst (((rkf [] l).take i).map fun n => V.int (n : Nat))) := by
        rw [upd_ne na]
        exact s5 _ _ e3
      -- found.append(rank)
      refine ⟨_, rfl, .inl ⟨rfl, _, SqL.of e6⟩, _, rfl, _, _, _, rfl, rfl, e6, ?_, ?_⟩
      · rw [List.length_map, List.length_take]; exact line_lt (by omega)
      have hl : l.take (i + 1) = l.take i ++ [c] := by rw [List.take_add_one, hc]; rfl
      refine ⟨D, putK (kvs.map fun kv => (kv.1, fmin ((Lf (l.take i) c : Int) + 1) kv.2)) (.inr (tx [c])) (.int ((Lf (l.take i) c : Int) + 1)), _, _, _, rfl, hi, smut (smut (s3.trans s5) nD) nH2, ?_, ?_, nD, ?_⟩
      · rw [upd_same, rkf_take l i c hc, List.map_append]
        rfl
      · rw [upd_ne na.symm, upd_same]
      · rw [hl]
        exact least_step hL c
    case fin =>
      rintro σ H3 ⟨d, kvs, x3, x4, x5, rfl, hil, s3, e3, ed, nd, hL⟩
      rw [List.take_of_length_le (by rw [rkf_len]; exact Nat.le_refl _)] at e3
      exact ⟨_, rfl, q _ a2 s3 nH2 e3⟩
/-- the pairs of ranks, as tuples at ps -/
def Pairs (H : Hp) (l : List Nat) (ps : List Addr) : Prop := ps.length = l.length ∧ ∀ i p c, ps[i]? = some p → l[i]? = some c → H p = some (.tup [.int (Lf (l.take i) c + 1 : Nat), .int (Rf (l.drop (i + 1)) c + 1 : Nat)])
def sp_ranks_of : Sp := fun vs H Q _ => ∃ l : List Nat, vs = [T l] ∧ l.length ≤ 100000 ∧ ∀ H' p ps, Same H H' → H p = none → H' p = some (.lst (ps.map V.ref)) → Pairs H' l ps → Q (.ref p) H'
theorem ok_ranks_of (F : Facts fa fn K mg) (c_ranks_ahead : Callee P w K mg base 1 "ranks_ahead" p_ranks_ahead sp_ranks_ahead) : Callee P w K mg base 2 "ranks_of" p_ranks_of sp_ranks_of := by
  refine F.callee 8 8 sc_ranks_of (fun vs H Q E h => ?_) (fun _ _ _ _ _ _ us hl => match us, hl with | [_], _ => rfl) (fun f cdv A outer t0 H vs Q E hg hr h => ?_)
  · obtain ⟨l, rfl, hz, q⟩ := h
    rfl
  · obtain ⟨l, rfl, hz, q⟩ := h
    refine ⟨_, (pss_cons (ps_set (i := 1) sc_ranks_of.nd rfl (by first | exact Or.inl rfl | exact Or.inr rfl) (pe_cal c_ranks_ahead hg (hr.mono (by decide)) (pa_cons (pe_revT (pv 0)) pa_nil)))
      (pss_cons (ps_expr (k_bm0 K PySem.F.plainAttrs_list PySem.F.slot_list_reverse PySem.F.type_list_reverse mt_reverse (pv 1)))
      (pss_one (ps_ret (pe_lc (own := [("one", 2), ("other", 3)]) rfl sc_ranks_of.nd (k_zipS K (by rfl) (F.free 45) (pa_cons (pe_cal c_ranks_ahead hg (hr.mono (by decide)) (pa_cons (pv 0) pa_nil)) (pa_cons (pv 1) pa_nil))) (blkOk_by (by kernel_rfl)) (fun _ _ _ _ _ => (k_tup (n := 2) K rfl (pgs_cons (pg_name (i := 2) sc_ranks_of.nd rfl (by first | exact Or.inl rfl | exact Or.inr rfl)) (pgs_cons (pg_name (i := 3) sc_ranks_of.nd rfl (by first | exact Or.inl rfl | exact Or.inr rfl)) pgs_nil)))) (fun _ _ _ _ _ => pts_nil) (fun _ _ _ _ _ => (pe_tup (pa_cons (pv 2) (pa_cons (pv 3) pa_nil))))))))), ?_⟩
    -- behind = ranks_ahead(text[::-1])
    refine ⟨_, rfl, l, rfl, by omega, l.reverse, rfl, by rw [List.length_reverse]; exact hz, fun H1 b s1 nb eb => ?_⟩
    -- behind.reverse()
    refine ⟨_, rfl, .inl ⟨rfl, _, SqL.of eb⟩, _, _, rfl, rfl, eb, ?_⟩
    have s2 : Same H (upd H1 b (.lst ((rkf [] l.reverse).map fun n => V.int (n : Nat)).reverse)) := smut s1 nb
    have eb2 : upd H1 b (.lst ((rkf [] l.reverse).map fun n => V.int (n : Nat)).reverse) b = some (.lst (((rkf [] l.reverse).reverse).map fun n => V.int (n : Nat))) := by
      rw [upd_same, List.map_reverse]
    generalize upd H1 b (.lst ((rkf [] l.reverse).map fun n => V.int (n : Nat)).reverse) = H2 at *
    -- return [(one, other) for one, other in zip(ranks_ahead(text), behind, strict=True)]
    refine ⟨_, rfl, l, rfl, hz, fun H3 a s3 na ea => ?_⟩
    have eb3 := s3 _ _ eb2
    refine ⟨_, rfl, a, b, _, _, rfl, SqL.of ea, SqL.of eb3, fun D hD => ?_⟩
    have nD : H D = none := (s2.trans s3).free hD
    refine lc_it (walk_zipS (by rw [List.length_map, List.length_map, List.length_reverse, rkf_len, rkf_len, List.length_reverse])) (fun i H4 => Same H3 H4 ∧ ∃ ps : List Addr, ps.length = i ∧ H4 D = some (.lst (ps.map V.ref)) ∧ ∀ j p c, ps[j]? = some p → l[j]? = some c → H4 p = some (.tup [.int (Lf (l.take j) c + 1 : Nat), .int (Rf (l.drop (j + 1)) c + 1 : Nat)])) ?start (fun i H4 _ p => ⟨SqL.of (p.1 _ _ ea), SqL.of (p.1 _ _ eb3)⟩) ?turn ?fin
    case start => exact ⟨same_new hD, [], rfl, upd_same, fun j p c h _ => by cases h⟩
    case turn =>
      rintro i x H4 H5 hi ⟨s4, ps, hl, e4, hp⟩ ⟨Tz, u, v, rfl, nT, rfl, hu, hv⟩
      rw [List.length_map, rkf_len] at hi
      have hc : l[i]? = some l[i] := List.getElem?_eq_getElem hi
      have hu : ((rkf [] l).map fun n => V.int (n : Nat))[i]? = some u := hu
      have hv : (((rkf [] l.reverse).reverse).map fun n => V.int (n : Nat))[i]? = some v := hv
      rw [List.getElem?_map, rkf_get, hc] at hu
      rw [List.getElem?_map, rkr_get, hc] at hv
      have hu : V.int ((Lf (l.take i) l[i] + 1 : Nat) : Int) = u := by simpa using hu
      have hv : V.int ((Rf (l.drop (i + 1)) l[i] + 1 : Nat) : Int) = v := by simpa using hv
      subst hu hv
      refine ⟨_, _, rfl, SqT.of upd_same, rfl, _, _, rfl, _, _, rfl, rfl, ?_⟩
      refine ⟨rfl, yes_ (iteT ?_)⟩
      refine ⟨_, rfl, _, rfl, by show 2 ≤ sizeLine; decide, fun a6 na6 => ?_⟩
      have s6 : Same H4 (upd (upd H4 Tz (.tup [.int ((Lf (l.take i) l[i] + 1 : Nat) : Int), .int ((Rf (l.drop (i + 1)) l[i] + 1 : Nat) : Int)])) a6 (.tup [.int ((Lf (l.take i) l[i] + 1 : Nat) : Int), .int ((Rf (l.drop (i + 1)) l[i] + 1 : Nat) : Int)])) := snew (same_new nT) na6
      refine ⟨_, s6 _ _ e4, by rw [List.length_map]; exact line_lt (by omega), smut (s4.trans s6) hD, ps ++ [a6], by rw [List.length_append, hl]; rfl, ?_, fun j p c hj hc' => ?_⟩
      · rw [upd_same, List.map_append]; rfl
      · rw [List.getElem?_append] at hj
        split at hj
        · have h7 := s6 _ _ (hp j p c hj hc')
          rw [upd_ne (ne_of h7 (s6 _ _ e4) (by intro z; cases z))]
          exact h7
        · rename_i hjl
          have ej : j = i := by
            have := (List.getElem?_eq_some_iff.mp hj).1
            simp only [List.length_singleton] at this
            omega
          subst ej
          rw [hl, Nat.sub_self] at hj
          have : a6 = p := Option.some.inj hj
          subst this
          rw [hc] at hc'
          have : l[j] = c := Option.some.inj hc'
          subst this
          rw [upd_ne (ne_of_none (show upd H4 Tz _ D = some _ from (same_new nT) _ _ e4) na6).symm, upd_same]
    case fin =>
      rintro H4 ⟨s4, ps, hl, e4, hp⟩
      rw [List.length_map, rkf_len] at hl
      exact q H4 D ps ((s2.trans s3).trans s4) nD e4 ⟨hl, hp⟩
end

end K79

set_option Elab.async false
set_option linter.all false
set_option maxRecDepth 100000
set_option maxHeartbeats 4000000
namespace K79
open PySem PySem.Spec PyProof.Rows L2 Sk
section
variable {P : Program} {w : World} {K : PySem.W.Frag} {mg : Str → Option Value} {base : Heap}
def sp_taken_once : Sp := fun vs H Q _ => ∃ (d : Nat) (l : List Nat), vs = [.int d, T l] ∧ l.length ≤ 500 ∧ ∀ H' p fr, Same H H' → H p = none → H' p = some (.lst (List.map T fr)) → Row (Del d) l fr → (fr = [] → Reduced d l) → Q (.ref p) H'
theorem ok_taken_once (F : Facts fa fn K mg) (c_ranks_ahead : Callee P w K mg base 1 "ranks_ahead" p_ranks_ahead sp_ranks_ahead) : Callee P w K mg base 2 "taken_once" p_taken_once sp_taken_once := by
  refine F.callee 9 9 sc_taken_once (fun vs H Q E h => ?_) (fun _ _ _ _ _ _ us hl => match us, hl with | [_, _], _ => rfl) (fun f cdv A outer t0 H vs Q E hg hr h => ?_)
  · obtain ⟨d, l, rfl, hz, q⟩ := h
    rfl
  · obtain ⟨d, l, rfl, hz, q⟩ := h
    refine ⟨_, (pss_cons (ps_asg (pe_tup (pa_cons (pe_lst pa_nil) (pa_cons (pe_txt []) (pa_cons pe_dnewK (pa_cons (pe_cal c_ranks_ahead hg (hr.mono (by decide)) (pa_cons (pv 1) pa_nil)) pa_nil))))) (k_tup (n := 4) K rfl (pgs_cons (pg_name (i := 2) sc_taken_once.nd rfl (by first | exact Or.inl rfl | exact Or.inr rfl)) (pgs_cons (pg_name (i := 3) sc_taken_once.nd rfl (by first | exact Or.inl rfl | exact Or.inr rfl)) (pgs_cons (pg_name (i := 4) sc_taken_once.nd rfl (by first | exact Or.inl rfl | exact Or.inr rfl)) (pgs_cons (pg_name (i := 5) sc_taken_once.nd rfl (by first | exact Or.inl rfl | exact Or.inr rfl)) pgs_nil))))))
      (pss_cons (ps_for PassesOwn.never rfl (pi_range3 (by rfl) (F.free 40) (pa_cons (pe_op op_sub (pe_callB call_lenT (by rfl) (F.free 36) (by decide +kernel) (pa_cons (pv 1) pa_nil)) pe_int) (pa_cons (pe_un un_neg pe_int) (pa_cons (pe_un un_neg pe_int) pa_nil)))) (pg_name (i := 6) sc_taken_once.nd rfl (by first | exact Or.inl rfl | exact Or.inr rfl))
      (pss_cons (ps_set (i := 7) sc_taken_once.nd rfl (by first | exact Or.inl rfl | exact Or.inr rfl) (pe_op op_add (pe_dget2 (hu_of hr) (pv 4) (pe_ix ix_txt (pv 1) (pv 6) (fun _ _ => rfl)) pe_int ⟨rfl, rfl, rfl, rfl⟩) pe_int))
      (pss_one (ps_if (pt_cmpR op_gt (pe_op op_add (pe_ix (k_ixl K) (pv 5) (pv 6) (fun _ _ => rfl)) (pv 7)) (pe_op op_add (pv 0) pe_int) (nomark _)) (pss_one (ps_expr (k_bm K PySem.F.plainAttrs_list PySem.F.slot_list_append PySem.F.type_list_append mt_append (pv 2) (pa_cons (pe_op op_addT (pe_slice sl_txt (pv 1) po_none (po_some (pv 6))) (pv 3)) pa_nil))))
      (pss_cons (ps_set (i := 3) sc_taken_once.nd rfl (by first | exact Or.inl rfl | exact Or.inr rfl) (pe_op op_addT (pe_ix ix_txt (pv 1) (pv 6) (fun _ _ => rfl)) (pv 3)))
      (pss_cons (ps_set (i := 4) sc_taken_once.nd rfl (by first | exact Or.inl rfl | exact Or.inr rfl) (pe_lock (pe_dc (own := [("other", 8)]) rfl sc_taken_once.nd (pi_keys (pv 4)) (blkOk_by (by kernel_rfl)) (fun _ _ _ _ _ => (pg_name (i := 8) sc_taken_once.nd rfl (by first | exact Or.inl rfl | exact Or.inr rfl))) (fun _ _ _ _ _ => pts_nil) (fun _ _ _ _ _ => (pv 8)) (fun _ _ _ _ _ => (pe_callB (call_min2 rfl) (by rfl) (F.free 39) (by decide +kernel) (pa_cons (pe_dget (hu_of hr) (pv 4) (pv 8) (fun _ _ => rfl)) (pa_cons (pv 7) pa_nil)))))))
      (pss_one (ps_dput (hu_of hr) (pv 4) (pe_ix ix_txt (pv 1) (pv 6) (fun _ _ => rfl)) (pv 7) rfl))))))))
      (pss_one (ps_ret (pv 2))))), ?_⟩
    -- found, kept, least, ahead = ([], '', {}, ranks_ahead(start))
    refine ⟨Nat.zero_le _, fun a1 na1 => ?_⟩
    refine fun a2 na2 => ?_
    have n12 : a1 ≠ a2 := ne_of_none upd_same na2
    have nH2 : H a2 = none := by rw [upd_ne n12.symm] at na2; exact na2
    have s2 : Same H (upd (upd H a1 (.lst [])) a2 (.dK [])) := snew (same_new na1) na2
    have e1 : upd (upd H a1 (.lst [])) a2 (.dK []) a1 = some (.lst []) := by rw [upd_ne n12, upd_same]
    have e2 : upd (upd H a1 (.lst [])) a2 (.dK []) a2 = some (.dK []) := upd_same
    refine ⟨_, rfl, l, rfl, by omega, fun H3 a3 s3 na3 e3 => ?_⟩
    have n13 : a1 ≠ a3 := ne_of_none e1 na3
    refine ⟨by show 4 ≤ sizeLine; decide, fun a4 na4 => ?_⟩
    refine ⟨_, _, rfl, .inl (.inl upd_same), rfl, _, _, rfl, _, _, rfl, _, _, rfl, _, _, rfl, rfl, ?_⟩
    have s4 : Same H (upd H3 a4 (.tup [.ref a1, T [], .ref a2, .ref a3])) := snew (s2.trans s3) na4
    have e14 : upd H3 a4 (.tup [.ref a1, T [], .ref a2, .ref a3]) a1 = some (.lst []) := (snew s3 na4) _ _ e1
    have e24 : upd H3 a4 (.tup [.ref a1, T [], .ref a2, .ref a3]) a2 = some (.dK []) := (snew s3 na4) _ _ e2
    have e34 : upd H3 a4 (.tup [.ref a1, T [], .ref a2, .ref a3]) a3 = some (.lst ((rkf [] l).map fun n => V.int (n : Nat))) := (same_new na4) _ _ e3
    have nH3 : H a3 = none := s2.free na3
    -- for at in range(len(start) - 1, -1, -1):
    refine ⟨_, rfl, l, rfl, by omega, _, _, rfl, rfl, _, rfl, _, rfl, (l.length : Int) - 1, -1, -1, l.length, rfl, ?rg, for_it walk_rangeC (fun i σ H5 => ∃ (kept : List Nat) (fr : List (List Nat)) (dl : Addr) (kvs : List (Key × V)) (x6 x7 x8 : Option V), σ = [some (.int d), some (T l), some (.ref a1), some (T kept), some (.ref dl), some (.ref a3), x6, x7, x8] ∧ i ≤ l.length ∧ kept.length ≤ i ∧ Same H H5 ∧ H5 a1 = some (.lst (List.map T fr)) ∧ fr.length ≤ i ∧ H5 a3 = some (.lst ((rkf [] l).map fun n => V.int (n : Nat))) ∧ H dl = none ∧ H5 dl = some (.dK kvs) ∧ LeastAt kept.reverse kvs ∧ Row (Del d) l fr ∧ fin l fr = l.take (l.length - i) ++ kept ∧ (fr = [] → kept = l.drop (l.length - i) ∧ ∀ j c, l.length - i ≤ j → l[j]? = some c → Lf (l.take j) c + Rf (l.drop (j + 1)) c + 2 ≤ d + 1)) ?start (fun _ _ _ _ _ => trivial) ?turn ?fin⟩
    case rg =>
      have := RgC.neg (i := (l.length : Int) - 1) (j := -1) (by omega) (by omega) (by decide) (by decide)
      rw [show ((l.length : Int) - 1 - -1).toNat = l.length by omega] at this
      exact this
    case start =>
      refine ⟨[], [], a2, [], none, none, none, rfl, Nat.zero_le _, Nat.zero_le _, s4, e14, Nat.zero_le _, e34, nH2, e24, least_nil, trivial, ?_, fun _ => ⟨?_, fun j c hj hc => ?_⟩⟩
      · show l = _
        rw [Nat.sub_zero, List.take_length, List.append_nil]
      · rw [Nat.sub_zero, List.drop_length]
      · have := (List.getElem?_eq_some_iff.mp hc).1
        omega
    case turn =>
      rintro i x σ H5 H6 hi ⟨kept, fr, dl, kvs, x6, x7, x8, rfl, hil, hkl, s5, e1, hfl, e3, nd, ed, hL, hR, hfin, hemp⟩ ⟨rfl, rfl⟩
      have hat : (l.length : Int) - 1 + (i : Nat) * -1 = ((l.length - 1 - i : Nat) : Int) := by omega
      show tSeq _ _ _ ([some (.int d), some (T l), some (.ref a1), some (T kept), some (.ref dl), some (.ref a3), some (.int ((l.length : Int) - 1 + (i : Nat) * -1)), x7, x8]) H6
      rw [hat]
      obtain ⟨at_, hat_⟩ : ∃ at_, at_ = l.length - 1 - i := ⟨_, rfl⟩
      rw [← hat_]
      have hlt : at_ < l.length := by omega
      obtain ⟨c, hc⟩ : ∃ c, l[at_]? = some c := ⟨_, List.getElem?_eq_getElem hlt⟩
      have hlen : kvs.length ≤ 500 := by
        have := hL.len
        rw [List.length_reverse] at this
        omega
      have htk : l.take (l.length - i) = l.take at_ ++ [c] := by
        rw [show l.length - i = at_ + 1 by omega, List.take_add_one, hc]; rfl
      have hdr : l.drop at_ = c :: l.drop (l.length - i) := by
        obtain ⟨h1, h2⟩ := List.getElem?_eq_some_iff.mp hc
        rw [List.drop_eq_getElem_cons h1, h2, show at_ + 1 = l.length - i by omega]
      -- rank = least.get(start[at], 0) + 1
      refine ⟨_, rfl, dl, rfl, .inl ⟨kvs, .inl ed⟩, _, rfl, _, rfl, l, (at_ : Int), c, rfl, rfl, by omega, atI_nat hc, _, DGet.k (k := .inr (tx [c])) ed, ?_⟩
      rw [get_zero hL]
      refine ⟨_, _, rfl, rfl, ?_⟩
      -- if ahead[at] + rank > depth + 1:
      have hrk : ((rkf [] l).map fun n => V.int (n : Nat))[at_]? = some (V.int (Lf (l.take at_) c + 1 : Nat)) := by
        rw [List.getElem?_map, rkf_get, hc]; rfl
      refine ⟨_, rfl, _, rfl, a3, _, (at_ : Int), _, rfl, rfl, SqL.of e3, atI_nat hrk, _, rfl, _, _, rfl, rfl, _, rfl, _, _, rfl, rfl, _, _, rfl, rfl, _, rfl, ?_⟩
      have hRf : Lf kept.reverse c = Rf kept c := rfl
      have nil : l.length - (i + 1) = at_ := by omega
      refine ite2 (fun h => ?_) (fun h => ?_)
      · have h := of_decide_eq_true h
        -- found.append(start[:at] + kept)
        refine ⟨_, rfl, .inl ⟨rfl, _, SqL.of e1⟩, _, rfl, _, rfl, _, rfl, l, rfl, by omega, _, rfl, _, _, rfl, rfl, ?_, _, _, _, rfl, rfl, e1, ?_, ?_⟩
        · rw [show cutL l none (some (at_ : Int)) = l.take at_ from cut_to l at_, List.length_take]; omega
        · rw [List.length_map]; exact line_lt (by omega)
        rw [show cutL l none (some (at_ : Int)) = l.take at_ from cut_to l at_]
        have hdel : Del d (fin l fr) (l.take at_ ++ kept) := by
          rw [hfin, htk, List.append_assoc]
          exact ⟨⟨l.take at_, c, kept, rfl, rfl⟩, del_alike (p := l.take at_) (a := c) (q := kept) (by omega)⟩
        refine ⟨kept, fr ++ [l.take at_ ++ kept], dl, kvs, _, _, _, rfl, hi, by omega, smut s5 na1, ?_, by rw [List.length_append]; simp; omega, ?_, nd, ?_, hL, row_append.mpr ⟨hR, hdel, trivial⟩, ?_, fun h => ?_⟩
        · rw [upd_same, List.map_append]; rfl
        · rw [upd_ne n13.symm]
          exact e3
        · rw [upd_ne (ne_of ed e1 (by intro z; cases z))]
          exact ed
        · rw [fin_snoc, nil]
        · exact absurd h (by simp)
      · have h : ¬ (((Lf (l.take at_) c + 1 : Nat) : Int) + ((Lf kept.reverse c : Int) + 1) > (d : Int) + 1) := fun z => h (decide_eq_true z)
        -- kept = start[at] + kept
        refine ⟨_, rfl, _, rfl, l, (at_ : Int), c, rfl, rfl, by omega, atI_nat hc, _, rfl, _, _, rfl, rfl, by simp; omega, ?_⟩
        -- least = {other: min(least[other], rank) for other in least}
        refine rd_dictmap (r := 4) (j := 8) (fun _ => fmin ((Lf kept.reverse c : Int) + 1)) rfl ed (by show 8 < 9; omega) hL.nd (by omega) (fun k v o H7 Qk hm h7 _ qk => ?_) (fun D H7 s7 hD e7 => ?_)
        · obtain ⟨c', hc', e⟩ := hL.keys _ hm
          cases e
          have h9 : some (V.int (Lf kept.reverse c' : Nat)) = valV kvs (.inr (tx [c'])) := by rw [hL.at_, if_pos hc']
          exact ⟨_, rfl, _, rfl, dl, _, rfl, .inl ⟨kvs, .inr (tx [c']), .inr ⟨o, h7⟩, rfl, h9⟩, _, rfl, _, _, rfl, qk⟩
        have nD : H D = none := s5.free hD
        -- least[start[at]] = rank
        refine ⟨_, rfl, _, rfl, _, rfl, _, rfl, l, (at_ : Int), c, rfl, rfl, by omega, atI_nat hc, D, _, rfl, DPut.k (k := .inr (tx [c])) e7 (by rw [List.length_map]; exact line_lt (by omega)), ?_⟩
        refine ⟨[c] ++ kept, fr, D, putK (kvs.map fun kv => (kv.1, fmin ((Lf kept.reverse c : Int) + 1) kv.2)) (.inr (tx [c])) (.int ((Lf kept.reverse c : Int) + 1)), _, _, _, rfl, hi, by simp; omega, smut (s5.trans s7) nD, ?_, by omega, ?_, nD, upd_same, ?_, hR, ?_, fun h0 => ?_⟩
        · rw [upd_ne (ne_of_none e1 hD)]
          exact s7 _ _ e1
        · rw [upd_ne (ne_of_none e3 hD)]
          exact s7 _ _ e3
        · have := least_step hL c
          rw [show ([c] ++ kept).reverse = kept.reverse ++ [c] by simp]
          exact this
        · rw [hfin, htk, nil, List.append_assoc]
        · obtain ⟨k1, k2⟩ := hemp h0
          refine ⟨?_, fun j c' hj hc' => ?_⟩
          · rw [nil, hdr, k1]; rfl
          · rw [nil] at hj
            by_cases ej : j = at_
            · subst ej
              rw [hc] at hc'
              have : c = c' := Option.some.inj hc'
              subst this
              have e9 : l.drop (j + 1) = kept := by rw [k1]; congr 1; omega
              rw [e9]
              omega
            · exact k2 j c' (by omega) hc'
    case fin =>
      rintro σ H5 ⟨kept, fr, dl, kvs, x6, x7, x8, rfl, hil, hkl, s5, e1, hfl, e3, nd, ed, hL, hR, hfin, hemp⟩
      refine ⟨_, rfl, q _ a1 fr s5 na1 e1 hR fun h => reduced_at fun j c hc => (hemp h).2 j c ?_ hc⟩
      omega
end

end K79

set_option Elab.async false
set_option linter.all false
set_option maxRecDepth 100000
set_option maxHeartbeats 4000000
namespace K79
open PySem PySem.Spec PyProof.Rows L2 Sk
section
variable {P : Program} {w : World} {K : PySem.W.Frag} {mg : Str → Option Value} {base : Heap}
def sp_taken_down : Sp := fun vs H Q _ => ∃ (d : Nat) (l : List Nat), vs = [.int d, T l] ∧ l.length ≤ 500 ∧ Low l ∧ ∀ H' p fr, Same H H' → H p = none → H' p = some (.lst (List.map T (l :: fr))) → Row (Del d) l fr → Reduced d (fin l fr) → Q (.ref p) H'
theorem ok_taken_down (F : Facts fa fn K mg) (c_taken_once : Callee P w K mg base 2 "taken_once" p_taken_once sp_taken_once) : Callee P w K mg base 3 "taken_down" p_taken_down sp_taken_down := by
  refine F.callee 10 10 sc_taken_down (fun vs H Q E h => ?_) (fun _ _ _ _ _ _ us hl => match us, hl with | [_, _], _ => rfl) (fun f cdv A outer t0 H vs Q E hg hr h => ?_)
  · obtain ⟨d, l, rfl, hz, hlow, q⟩ := h
    rfl
  · obtain ⟨d, l, rfl, hz, hlow, q⟩ := h
    refine ⟨_, (pss_cons (ps_set (i := 2) sc_taken_down.nd rfl (by first | exact Or.inl rfl | exact Or.inr rfl) (pe_lst (pa_cons (pv 1) pa_nil)))
      (pss_cons (ps_set (i := 3) sc_taken_down.nd rfl (by first | exact Or.inl rfl | exact Or.inr rfl) (pe_cal c_taken_once hg (hr.mono (by decide)) (pa_cons (pv 0) (pa_cons (pv 1) pa_nil))))
      (pss_cons (ps_while PassesOwn.never (pt_cmpR (k_ne K hr.units) (pv 3) (pe_lst pa_nil) (nomark _))
      (pss_cons (ps_set (i := 2) sc_taken_down.nd rfl (by first | exact Or.inl rfl | exact Or.inr rfl) (pe_op op_cat (pv 2) (pv 3)))
      (pss_one (ps_set (i := 3) sc_taken_down.nd rfl (by first | exact Or.inl rfl | exact Or.inr rfl) (pe_cal c_taken_once hg (hr.mono (by decide)) (pa_cons (pv 0) (pa_cons (pe_ix (k_ixl K) (pv 2) (pe_un un_neg pe_int) (fun _ _ => rfl)) pa_nil)))))))
      (pss_one (ps_ret (pv 2)))))), ?_⟩
    -- found = [text]
    refine ⟨_, rfl, by show 1 ≤ sizeLine; decide, fun a1 na1 => ?_⟩
    have e1 : upd H a1 (.lst [T l]) a1 = some (.lst [T l]) := upd_same
    -- fresh = taken_once(depth, text)
    refine ⟨_, rfl, _, rfl, d, l, rfl, hz, fun H2 p2 fs s2 n2 ep2 hR hem => ?_⟩
    have s02 : Same H H2 := (same_new na1).trans s2
    -- while fresh != []:
    refine ⟨fun m σ H3 => ∃ (fr fs : List (List Nat)) (pf ps : Addr), σ = [some (.int d), some (T l), some (.ref pf), some (.ref ps)] ∧ Same H H3 ∧ H pf = none ∧ H3 pf = some (.lst (List.map T (l :: fr))) ∧ H3 ps = some (.lst (List.map T fs)) ∧ Row (Del d) l fr ∧ Row (Del d) (fin l fr) fs ∧ (fs = [] → Reduced d (fin l fr)) ∧ m = (fin l fr).length, ⟨_, [], fs, a1, p2, rfl, s02, na1, s2 _ _ e1, ep2, trivial, hR, hem, rfl⟩, ?_⟩
    rintro m σ H3 ⟨fr, fs, pf, ps, rfl, s3, npf, epf, eps, hRf, hRs, hem, rfl⟩
    have hsub := rowD_sub hRf
    have hsub2 := rowD_sub hRs
    have hlen := rowD_len hRf
    have hlen2 := rowD_len hRs
    have hf := hsub _ (fin_mem l fr)
    refine ⟨_, rfl, Nat.zero_le _, fun a3 na3 => ?_⟩
    have s4 : Same H3 (upd H3 a3 (.lst [])) := same_new na3
    refine ne_nil (SqL.of (s4 _ _ eps)) ?flat (SqL.of upd_same) ⟨_, rfl, ?_⟩
    case flat =>
      intro x hx
      obtain ⟨y, hy, rfl⟩ := List.mem_map.mp hx
      exact flat_T fun c hc => hlow c (hf.2 c ((hsub2 y (List.mem_cons_of_mem _ hy)).2 c hc))
    by_cases hfs : fs = []
    · subst hfs
      rw [decide_eq_true (show List.map T [] = [] from rfl)]
      refine iteF ⟨_, rfl, q _ pf fr (s3.trans s4) npf (s4 _ _ epf) hRf (hem rfl)⟩
    · rw [decide_eq_false (fun z => hfs (List.map_eq_nil_iff.mp z))]
      refine iteT ⟨_, fun _ _ h => h, ?_⟩
      have hpos : 1 ≤ fs.length := by
        cases fs with
        | nil => exact absurd rfl hfs
        | cons x r => simp
      -- found = found + fresh
      refine ⟨_, rfl, _, rfl, pf, ps, _, _, rfl, rfl, s4 _ _ epf, s4 _ _ eps, ?_, fun a5 na5 => ?_⟩
      · rw [List.length_map, List.length_map, List.length_cons]; exact line_ok (by omega)
      rw [← List.map_append, List.cons_append]
      have s5 : Same H3 (upd (upd H3 a3 (.lst [])) a5 (.lst (List.map T (l :: (fr ++ fs))))) := snew s4 na5
      have e5 : upd (upd H3 a3 (.lst [])) a5 (.lst (List.map T (l :: (fr ++ fs)))) a5 = some (.lst (List.map T (l :: (fr ++ fs)))) := upd_same
      have n5 : H a5 = none := (s3.trans s4).free na5
      -- fresh = taken_once(depth, found[-1])
      refine ⟨_, rfl, _, rfl, _, rfl, a5, _, -1, _, rfl, rfl, SqL.of e5, atI_fin l (fr ++ fs), d, _, rfl, ?_, fun H7 p7 fs7 s7 n7 e7 hR7 hem7 => ?_⟩
      · rw [fin_append]; omega
      refine ⟨_, ?_, fr ++ fs, fs7, a5, p7, rfl, (s3.trans s5).trans s7, n5, s7 _ _ e5, e7, row_append.mpr ⟨hRf, hRs⟩, hR7, hem7, rfl⟩
      rw [fin_append]
      omega
end

end K79

set_option Elab.async false
set_option linter.all false
set_option maxRecDepth 100000
set_option maxHeartbeats 4000000
namespace K79
open PySem PySem.Spec PyProof.Rows L2 Sk
section
variable {P : Program} {w : World} {K : PySem.W.Frag} {mg : Str → Option Value} {base : Heap}
def sp_put_in_order : Sp := fun vs H Q _ => ∃ (d : Nat) (l : List Nat), vs = [.int d, T l] ∧ l.length ≤ 500 ∧ Reduced d l ∧ ∀ H' p fr, Same H H' → H p = none → H' p = some (.lst (List.map T (l :: fr))) → Row (Stp d) l fr → (∀ x ∈ fr, x.length ≤ l.length + 1 ∧ ∀ c ∈ x, c ∈ l) → fr.length ≤ 600000 → NF d l (fin l fr) → (fin l fr).length = l.length → Q (.ref p) H'
theorem ok_put_in_order (F : Facts fa fn K mg) (c_ranks_of : Callee P w K mg base 2 "ranks_of" p_ranks_of sp_ranks_of) : Callee P w K mg base 3 "put_in_order" p_put_in_order sp_put_in_order := by
  refine F.callee 11 11 sc_put_in_order (fun vs H Q E h => ?_) (fun _ _ _ _ _ _ us hl => match us, hl with | [_, _], _ => rfl) (fun f cdv A outer t0 H vs Q E hg hr h => ?_)
  · obtain ⟨d, l, rfl, hz, hred, q⟩ := h
    rfl
  · obtain ⟨d, l, rfl, hz, hred, q⟩ := h
    refine ⟨_, (pss_cons (ps_par3 (i := 2) (j := 3) (l := 4) rfl sc_put_in_order.nd rfl rfl rfl (by decide) (by decide) (by decide) rfl rfl rfl (pa_cons (pe_cal c_ranks_of hg (hr.mono (by decide)) (pa_cons (pv 1) pa_nil)) (pa_cons (pe_lst (pa_cons (pv 1) pa_nil)) (pa_cons pe_int pa_nil))) rfl)
      (pss_cons (ps_while PassesOwn.never (pt_cmpR op_lt (pe_op op_add (pv 4) pe_int) (pe_callB call_lenT (by rfl) (F.free 36) (by decide +kernel) (pa_cons (pv 1) pa_nil)) (nomark _))
      (pss_cons (ps_par (i := 5) (j := 6) rfl sc_put_in_order.nd rfl rfl (by decide) rfl rfl (pa_cons (pe_ix (k_ixl K) (pv 3) (pe_un un_neg pe_int) (fun _ _ => rfl)) (pa_cons (pe_ix (k_ixl K) (pv 2) (pv 4) (fun _ _ => rfl)) pa_nil)) rfl)
      (pss_one (ps_if (PW.pt (pw_and (pt_cmpR (k_eq K hr.units) (pv 6) (pe_ix (k_ixl K) (pv 2) (pe_op op_add (pv 4) pe_int) (fun _ _ => rfl)) (nomark _)) (pw_and (pt_cmpR op_eq (pe_op op_add (pe_ix (k_ixt K) (pv 6) pe_int (fun _ _ => rfl)) (pe_ix (k_ixt K) (pv 6) pe_int (fun _ _ => rfl))) (pe_op op_add (pv 0) pe_int) (nomark _)) (pw_and1 (pt_cmpR op_gtT (pe_ix ix_txt (pv 5) (pv 4) (fun _ _ => rfl)) (pe_ix ix_txt (pv 5) (pe_op op_add (pv 4) pe_int) (fun _ _ => rfl)) (nomark _)))))) (pss_cons (ps_expr (k_bm K PySem.F.plainAttrs_list PySem.F.slot_list_append PySem.F.type_list_append mt_append (pv 3) (pa_cons (pe_op op_addT (pe_op op_addT (pe_slice sl_txt (pv 5) po_none (po_some (pe_op op_add (pv 4) pe_int))) (pe_ix ix_txt (pv 5) (pv 4) (fun _ _ => rfl))) (pe_slice sl_txt (pv 5) (po_some (pe_op op_add (pv 4) pe_int)) po_none)) pa_nil)))
      (pss_cons (ps_expr (k_bm K PySem.F.plainAttrs_list PySem.F.slot_list_append PySem.F.type_list_append mt_append (pv 3) (pa_cons (pe_op op_addT (pe_op op_addT (pe_op op_addT (pe_slice sl_txt (pv 5) po_none (po_some (pv 4))) (pe_ix ix_txt (pv 5) (pe_op op_add (pv 4) pe_int) (fun _ _ => rfl))) (pe_ix ix_txt (pv 5) (pv 4) (fun _ _ => rfl))) (pe_slice sl_txt (pv 5) (po_some (pe_op op_add (pv 4) pe_int)) po_none)) pa_nil)))
      (pss_one (ps_set (i := 4) sc_put_in_order.nd rfl (by first | exact Or.inl rfl | exact Or.inr rfl) (pe_callB (call_max2 rfl) (by rfl) (F.free 38) (by decide +kernel) (pa_cons pe_int (pa_cons (pe_op op_sub (pv 4) pe_int) pa_nil)))))))
      (pss_one (ps_set (i := 4) sc_put_in_order.nd rfl (by first | exact Or.inl rfl | exact Or.inr rfl) (pe_op op_add (pv 4) pe_int)))))))
      (pss_one (ps_ret (pv 3))))), ?_⟩
    -- pairs, found, at = (ranks_of(text), [text], 0)
    refine ⟨_, rfl, l, rfl, by omega, fun H1 pp ps s1 np ep hP => ?_⟩
    refine ⟨_, rfl, by show 1 ≤ sizeLine; decide, fun a1 na1 => ?_⟩
    have s2 : Same H (upd H1 a1 (.lst [T l])) := snew s1 na1
    have n1 : H a1 = none := s1.free na1
    have npa : pp ≠ a1 := ne_of_none ep na1
    have e1 : upd H1 a1 (.lst [T l]) a1 = some (.lst (List.map T [l])) := upd_same
    have ep2 := (same_new (o := HO.lst [T l]) na1) _ _ ep
    have hP2 : Pairs (upd H1 a1 (.lst [T l])) l ps := ⟨hP.1, fun i p c h1 h2 => (same_new na1) _ _ (hP.2 i p c h1 h2)⟩
    generalize upd H1 a1 (.lst [T l]) = H2 at *
    have hinv := inv_le l
    have hsq : l.length * l.length ≤ 500 * 500 := Nat.mul_le_mul hz hz
    -- while at + 1 < len(text):
    refine ⟨_, _, _, rfl, ?_⟩
    refine ⟨fun m σ H3 => ∃ (t : List Nat) (fr : List (List Nat)) (at_ : Nat) (x5 x6 : Option V), σ = [some (.int d), some (T l), some (.ref pp), some (.ref a1), some (.int at_), x5, x6] ∧ Same H H3 ∧ H3 pp = some (.lst (ps.map V.ref)) ∧ Pairs H3 l ps ∧ H3 a1 = some (.lst (List.map T (l :: fr))) ∧
      Row (Stp d) l fr ∧ (∀ x ∈ fr, x.length ≤ l.length + 1 ∧ ∀ c ∈ x, c ∈ l) ∧ fin l fr = t ∧ t.length = l.length ∧ (∀ c ∈ t, c ∈ l) ∧ (∀ j, rx t j = rx l j ∧ ry t j = ry l j) ∧ at_ ≤ l.length ∧ (∀ j, j < at_ → ¬ BadP d l t j) ∧ fr.length + 2 * inv t ≤ 2 * inv l ∧ m = (l.length - at_) + 2 * inv t, ⟨_, l, [], 0, none, none, rfl, s2, ep2, hP2, e1, trivial, fun x hx => (by cases hx), rfl, rfl, fun c hc => hc, fun j => ⟨rfl, rfl⟩, Nat.zero_le _, fun j hj => absurd hj (Nat.not_lt_zero _), by simp, rfl⟩, ?_⟩
    rintro m σ H3 ⟨t, fr, at_, x5, x6, rfl, s3, ep3, hP3, e3, hR, hsub, hfin, htl, htc, hprof, hat, hord, hfr, rfl⟩
    refine ⟨_, rfl, _, _, rfl, rfl, _, rfl, l, rfl, by omega, _, _, rfl, rfl, _, rfl, ?_⟩
    by_cases hlt : at_ + 1 < l.length
    · rw [decide_eq_true (show (at_ : Int) + 1 < (l.length : Int) by omega)]
      refine iteT ⟨_, fun _ _ h => h, ?_⟩
      obtain ⟨p, a, b, r, ht, hpl⟩ := at_split (t := t) (j := at_) (by omega)
      obtain ⟨y1, y2, y3, y4⟩ := prof_split p r a b
      rw [← ht, hpl] at y1 y2 y3 y4
      rw [(hprof _).1] at y1 y3
      rw [(hprof _).2] at y2 y4
      obtain ⟨c1, hc1⟩ : ∃ c, l[at_]? = some c := ⟨_, List.getElem?_eq_getElem (show at_ < l.length by omega)⟩
      obtain ⟨c2, hc2⟩ : ∃ c, l[at_ + 1]? = some c := ⟨_, List.getElem?_eq_getElem hlt⟩
      obtain ⟨p1, hp1⟩ : ∃ x, ps[at_]? = some x := ⟨_, List.getElem?_eq_getElem (show at_ < ps.length by have := hP3.1; omega)⟩
      obtain ⟨p2, hp2⟩ : ∃ x, ps[at_ + 1]? = some x := ⟨_, List.getElem?_eq_getElem (show at_ + 1 < ps.length by have := hP3.1; omega)⟩
      have g1 := hP3.2 _ _ _ hp1 hc1
      have g2 := hP3.2 _ _ _ hp2 hc2
      have z1 : Lf (l.take at_) c1 = Lf p a := by unfold rx at y1; rw [hc1] at y1; simpa using y1
      have z2 : Rf (l.drop (at_ + 1)) c1 = Rf (b :: r) a := by unfold ry at y2; rw [hc1] at y2; simpa using y2
      have z3 : Lf (l.take (at_ + 1)) c2 = Lf (p ++ [a]) b := by unfold rx at y3; rw [hc2] at y3; simpa using y3
      have z4 : Rf (l.drop (at_ + 1 + 1)) c2 = Rf r b := by unfold ry at y4; rw [hc2] at y4; simpa using y4
      rw [z1, z2] at g1
      rw [z3, z4] at g2
      have hta : t[at_]? = some a := by rw [ht, ← hpl]; simp
      have htb : t[at_ + 1]? = some b := by rw [ht, ← hpl, List.getElem?_append_right (by omega)]; simp
      have i1 : (ps.map V.ref)[at_]? = some (.ref p1) := by rw [List.getElem?_map, hp1]; rfl
      have i2 : (ps.map V.ref)[at_ + 1]? = some (.ref p2) := by rw [List.getElem?_map, hp2]; rfl
      -- now, pair = (found[-1], pairs[at])
      refine ⟨_, rfl, _, rfl, a1, _, -1, _, rfl, rfl, SqL.of e3, atI_fin l fr, _, rfl, _, rfl, pp, _, (at_ : Int), _, rfl, rfl, SqL.of ep3, atI_nat i1, _, _, rfl, ?_⟩
      rw [hfin]
      -- if pair == pairs[at + 1] and pair[0] + pair[1] == depth + 1 and now[at] > now[at + 1]:
      apply join_yn (Lf p a = Lf (p ++ [a]) b ∧ Rf (b :: r) a = Rf r b ∧ Lf p a + Rf r b + 2 = d + 1 ∧ b < a)
      case h =>
        intro y no
        refine ⟨_, rfl, _, rfl, _, rfl, _, _, rfl, rfl, pp, _, ((at_ + 1 : Nat) : Int), _, rfl, rfl, SqL.of ep3, atI_nat i2, .tuple [.int _, .int _], .tuple [.int _, .int _], .tup (SqT.of g1) (.cons (.int _) (.cons (.int _) .nil)), .tup (SqT.of g2) (.cons (.int _) (.cons (.int _) .nil)), shaped_pair _ _, shaped_pair _ _, _, rfl, ?_⟩
        rw [eqv_pair]
        by_cases k1 : Lf p a = Lf (p ++ [a]) b ∧ Rf (b :: r) a = Rf r b
        · rw [decide_eq_true (show ((Lf p a + 1 : Nat) : Int) = ((Lf (p ++ [a]) b + 1 : Nat) : Int) ∧ ((Rf (b :: r) a + 1 : Nat) : Int) = ((Rf r b + 1 : Nat) : Int) by omega)]
          refine iteT ⟨_, rfl, p1, _, 0, _, rfl, rfl, SqT.of g1, atI_nat (j := 0) rfl, _, rfl, p1, _, 1, _, rfl, rfl, SqT.of g1, atI_nat (j := 1) rfl, _, _, rfl, rfl, _, rfl, _, _, rfl, rfl, rfl, _, rfl, ?_⟩
          by_cases k2 : Lf p a + Rf r b + 2 = d + 1
          · rw [decide_eq_true (show V.int (((Lf p a + 1 : Nat) : Int) + ((Rf (b :: r) a + 1 : Nat) : Int)) = V.int ((d : Int) + 1) by congr 1; omega)]
            refine iteT ⟨_, rfl, _, rfl, t, (at_ : Int), a, rfl, rfl, by omega, atI_nat hta, _, rfl, _, rfl, _, _, rfl, rfl, t, ((at_ + 1 : Nat) : Int), b, rfl, rfl, by omega, atI_nat htb, [a], [b], rfl, rfl, _, rfl, ?_⟩
            by_cases k3 : b < a
            · rw [decide_eq_true (show [b] < [a] from one_lt.mpr k3)]
              exact y ⟨k1.1, k1.2, k2, k3⟩
            · rw [decide_eq_false (show ¬ [b] < [a] from fun z => k3 (one_lt.mp z))]
              exact no (fun z => k3 z.2.2.2)
          · rw [decide_eq_false (vint_ne (show ¬ (((Lf p a + 1 : Nat) : Int) + ((Rf (b :: r) a + 1 : Nat) : Int)) = (d : Int) + 1 by omega))]
            exact iteF (no (fun z => k2 z.2.2.1))
        · rw [decide_eq_false (show ¬ (((Lf p a + 1 : Nat) : Int) = ((Lf (p ++ [a]) b + 1 : Nat) : Int) ∧ ((Rf (b :: r) a + 1 : Nat) : Int) = ((Rf r b + 1 : Nat) : Int)) by omega)]
          exact iteF (no (fun z => k1 ⟨z.1, z.2.1⟩))
      case hy =>
        rintro ⟨k1, k2, k3, k4⟩
        have hpr := pair_of k1 k2 k3
        have c1 : cutL t none (some ((at_ : Int) + 2)) = p ++ [a, b] := by
          have := cut_to t (at_ + 2)
          rw [show t.take (at_ + 2) = p ++ [a, b] by rw [ht, ← hpl, List.take_append, List.take_of_length_le (by omega), show p.length + 2 - p.length = 2 by omega]; rfl] at this
          exact this
        have c2 : cutL t (some ((at_ : Int) + 2)) none = r := by
          have := cut_from t (at_ + 2)
          rw [show t.drop (at_ + 2) = r by rw [ht, ← hpl, List.drop_append, List.drop_of_length_le (by omega), show p.length + 2 - p.length = 2 by omega]; rfl] at this
          exact this
        have c3 : cutL t none (some (at_ : Int)) = p := by
          rw [cut_to, ht, ← hpl]; simp
        have hl5 : p.length + (r.length + 2) ≤ 500 := by
          have := congrArg List.length ht
          rw [List.length_append, List.length_cons, List.length_cons] at this
          omega
        refine iteT ?_
        -- found.append(now[:at + 2] + now[at] + now[at + 2:])
        refine ⟨_, rfl, .inl ⟨rfl, _, SqL.of e3⟩, _, rfl, _, rfl, _, _, rfl, rfl, _, rfl, t, rfl, by omega, _, rfl, _, rfl, t, (at_ : Int), a, rfl, rfl, by omega, atI_nat hta, _, _, rfl, rfl, ?_, _, rfl, _, rfl, _, _, rfl, rfl, _, rfl, t, rfl, by omega, _, _, rfl, rfl, ?_, _, _, _, rfl, rfl, e3, ?_, ?_⟩
        · rw [c1]; simp; omega
        · rw [c1, c2]; simp; omega
        · rw [List.length_map, List.length_cons]; exact line_lt (by omega)
        rw [c1, c2]
        have x1 : (p ++ [a, b] ++ [a]) ++ r = p ++ a :: b :: a :: r := by simp
        rw [x1]
        have s4 : Same H3 (upd H3 a1 (.lst (List.map T (l :: fr) ++ [T (p ++ a :: b :: a :: r)]))) → True := fun _ => trivial
        have e4 : upd H3 a1 (.lst (List.map T (l :: fr) ++ [T (p ++ a :: b :: a :: r)])) a1 = some (.lst (List.map T (l :: (fr ++ [p ++ a :: b :: a :: r])))) := by
          rw [upd_same, ← List.cons_append, List.map_append]; rfl
        generalize hH4 : upd H3 a1 (.lst (List.map T (l :: fr) ++ [T (p ++ a :: b :: a :: r)])) = H4 at *
        -- found.append(now[:at] + now[at + 1] + now[at] + now[at + 2:])
        refine ⟨_, rfl, .inl ⟨rfl, _, SqL.of e4⟩, _, rfl, _, rfl, _, rfl, t, rfl, by omega, _, rfl, _, rfl, _, _, rfl, rfl, t, ((at_ + 1 : Nat) : Int), b, rfl, rfl, by omega, atI_nat htb, _, _, rfl, rfl, ?_, _, rfl, _, rfl, t, (at_ : Int), a, rfl, rfl, by omega, atI_nat hta, _, _, rfl, rfl, ?_, _, rfl, _, rfl, _, _, rfl, rfl, _, rfl, t, rfl, by omega, _, _, rfl, rfl, ?_, _, _, _, rfl, rfl, e4, ?_, ?_⟩
        · rw [c3]; simp; omega
        · rw [c3]; simp; omega
        · rw [c3, c2]; simp; omega
        · rw [List.length_map, List.length_cons, List.length_append]; simp; exact line_lt (by omega)
        rw [c3, c2]
        have x2 : ((p ++ [b]) ++ [a]) ++ r = p ++ b :: a :: r := by simp
        rw [x2]
        have e5 : upd H4 a1 (.lst (List.map T (l :: (fr ++ [p ++ a :: b :: a :: r])) ++ [T (p ++ b :: a :: r)])) a1 = some (.lst (List.map T (l :: (fr ++ [p ++ a :: b :: a :: r, p ++ b :: a :: r])))) := by
          rw [upd_same]
          simp [List.map_append]
        have keep : ∀ b' o, b' ≠ a1 → H3 b' = some o → upd H4 a1 (.lst (List.map T (l :: (fr ++ [p ++ a :: b :: a :: r])) ++ [T (p ++ b :: a :: r)])) b' = some o := by
          intro b' o nb e
          rw [upd_ne nb, ← hH4, upd_ne nb]
          exact e
        have s5 : Same H (upd H4 a1 (.lst (List.map T (l :: (fr ++ [p ++ a :: b :: a :: r])) ++ [T (p ++ b :: a :: r)]))) := by
          rw [← hH4]
          exact smut (smut s3 n1) n1
        generalize upd H4 a1 (.lst (List.map T (l :: (fr ++ [p ++ a :: b :: a :: r])) ++ [T (p ++ b :: a :: r)])) = H5 at *
        -- at = max(0, at - 1)
        refine ⟨_, rfl, _, _, rfl, rfl, _, _, rfl, ?_⟩
        have hmax : (if ((at_ : Int) - 1) > 0 then ((at_ : Int) - 1) else 0) = ((at_ - 1 : Nat) : Int) := by
          split <;> omega
        show ∃ m', _ ∧ _
        have hinv2 := inv_swap k4 r p
        rw [← ht] at hinv2
        refine ⟨(l.length - (at_ - 1)) + 2 * inv (p ++ b :: a :: r), by omega, p ++ b :: a :: r, fr ++ [p ++ a :: b :: a :: r, p ++ b :: a :: r], at_ - 1, _, _, by rw [← hmax]; rfl, s5, keep _ _ ?_ ep3, ⟨hP3.1, fun i p' c h1 h2 => keep _ _ ?_ (hP3.2 i p' c h1 h2)⟩, e5, ?_, ?_, ?_, ?_, ?_, ?_, by omega, ?_, ?_, rfl⟩
        · exact npa
        · exact ne_of (hP3.2 i p' c h1 h2) e3 (by intro z; cases z)
        · refine row_append.mpr ⟨hR, ?_⟩
          rw [hfin]
          refine ⟨⟨.inr ⟨p ++ [a, b], a, r, by simp, by rw [ht]; simp⟩, ?_⟩, ⟨.inl ⟨p, a, b :: a :: r, rfl, rfl⟩, hpr.mid2⟩, trivial⟩
          rw [ht]
          exact hpr.mid
        · intro x hx
          have hmem : ∀ c ∈ p ++ a :: b :: r, c ∈ l := by rw [← ht]; exact htc
          rcases List.mem_append.mp hx with z | z
          · exact hsub x z
          · have hlen : t.length = p.length + (r.length + 2) := by rw [ht]; simp
            rcases List.mem_cons.mp z with z | z
            · subst z
              refine ⟨by simp; omega, fun c hc => hmem c ?_⟩
              simp at hc ⊢
              rcases hc with h | h | h | h | h <;> simp [h]
            · rw [List.mem_singleton.mp z]
              refine ⟨by simp; omega, fun c hc => hmem c ?_⟩
              simp at hc ⊢
              rcases hc with h | h | h | h <;> simp [h]
        · rw [fin_append]; rfl
        · rw [← htl, ht]; simp
        · intro c hc
          refine htc c ?_
          rw [ht]
          simp at hc ⊢
          rcases hc with h | h | h | h <;> simp [h]
        · intro j
          have h1 := hpr.prof j
          rw [← ht] at h1
          exact ⟨h1.1 ▸ (hprof j).1, h1.2 ▸ (hprof j).2⟩
        · intro j hj
          rintro ⟨h1, h2, h3, a', b', h6, h7, h8⟩
          refine hord j (by omega) ⟨h1, h2, h3, a', b', ?_, ?_, h8⟩
          · rw [List.getElem?_append_left (by omega)] at h6
            rw [ht, List.getElem?_append_left (by omega)]
            exact h6
          · rw [List.getElem?_append_left (by omega)] at h7
            rw [ht, List.getElem?_append_left (by omega)]
            exact h7
        · rw [List.length_append]
          simp
          omega
      case hn =>
        intro hc
        -- at = at + 1
        refine iteF ⟨_, rfl, _, _, rfl, rfl, _, ?_, t, fr, at_ + 1, _, _, rfl, s3, ep3, hP3, e3, hR, hsub, hfin, htl, htc, hprof, by omega, fun j hj => ?_, hfr, rfl⟩
        · omega
        · by_cases ej : j = at_
          · subst ej
            rintro ⟨h1, h2, ⟨x, y, h3, h4, h5⟩, a', b', h6, h7, h8⟩
            rw [y1, y3] at h1
            rw [y2, y4] at h2
            rw [y1] at h3
            rw [y2] at h4
            rw [hta] at h6
            rw [htb] at h7
            have h1 := Option.some.inj h1
            have h2 := Option.some.inj h2
            have h3 := Option.some.inj h3
            have h4 := Option.some.inj h4
            have h6 := Option.some.inj h6
            have h7 := Option.some.inj h7
            exact hc ⟨h1, h2, by omega, by omega⟩
          · exact hord j (by omega)
    · rw [decide_eq_false (show ¬ (at_ : Int) + 1 < (l.length : Int) by omega)]
      refine iteF ⟨_, rfl, q _ a1 fr s3 n1 e3 hR hsub (by omega) ?_ (by rw [hfin]; exact htl)⟩
      have hal := row_alike hR
      rw [hfin] at hal ⊢
      exact ⟨hal, reduced_of hprof hred, order_of hprof fun j hj => hord j (by omega)⟩
end

end K79

set_option Elab.async false
set_option linter.all false
set_option maxRecDepth 100000
set_option maxHeartbeats 4000000
namespace K79
open PySem PySem.Spec PyProof.Rows L2 Sk
section
variable {P : Program} {w : World} {K : PySem.W.Frag} {mg : Str → Option Value} {base : Heap}
def sp_way_down : Sp := fun vs H Q _ => ∃ (d : Nat) (l : List Nat), vs = [.int d, T l] ∧ l.length ≤ 500 ∧ Low l ∧ ∀ H' p fr, Same H H' → H p = none → H' p = some (.lst (List.map T (l :: fr))) → Row (Stp d) l fr → NF d l (fin l fr) → (∀ x ∈ l :: fr, x.length ≤ l.length + 1 ∧ ∀ c ∈ x, c ∈ l) → fr.length ≤ 700000 → (fin l fr).length ≤ l.length → Q (.ref p) H'
theorem ok_way_down (F : Facts fa fn K mg) (c_taken_down : Callee P w K mg base 3 "taken_down" p_taken_down sp_taken_down) (c_put_in_order : Callee P w K mg base 3 "put_in_order" p_put_in_order sp_put_in_order) : Callee P w K mg base 4 "way_down" p_way_down sp_way_down := by
  refine F.callee 12 12 sc_way_down (fun vs H Q E h => ?_) (fun _ _ _ _ _ _ us hl => match us, hl with | [_, _], _ => rfl) (fun f cdv A outer t0 H vs Q E hg hr h => ?_)
  · obtain ⟨d, l, rfl, hz, hlow, q⟩ := h
    rfl
  · obtain ⟨d, l, rfl, hz, hlow, q⟩ := h
    refine ⟨_, (pss_cons (ps_set (i := 2) sc_way_down.nd rfl (by first | exact Or.inl rfl | exact Or.inr rfl) (pe_cal c_taken_down hg (hr.mono (by decide)) (pa_cons (pv 0) (pa_cons (pv 1) pa_nil))))
      (pss_one (ps_ret (pe_op op_cat (pv 2) (pe_slice (k_sll K) (pe_cal c_put_in_order hg (hr.mono (by decide)) (pa_cons (pv 0) (pa_cons (pe_ix (k_ixl K) (pv 2) (pe_un un_neg pe_int) (fun _ _ => rfl)) pa_nil))) (po_some pe_int) po_none))))), ?_⟩
    -- found = taken_down(depth, text)
    refine ⟨_, rfl, _, rfl, d, l, rfl, hz, hlow, fun H1 p1 fr s1 n1 e1 hR hred => ?_⟩
    have hsub := rowD_sub hR
    have hlen := rowD_len hR
    have hf := hsub _ (fin_mem l fr)
    -- return found + put_in_order(depth, found[-1])[1:]
    refine ⟨_, rfl, _, rfl, _, rfl, _, rfl, p1, _, -1, _, rfl, rfl, SqL.of e1, atI_fin l fr, d, _, rfl, by omega, hred, fun H2 p2 fs s2 n2 e2 hR2 hsub2 hfs hnf hfl => ?_⟩
    refine ⟨_, rfl, p2, _, rfl, SqL.of e2, fun p3 n3 => ?_⟩
    rw [List.map_cons, cutV_tail]
    have s3 : Same H2 (upd H2 p3 (.lst (List.map T fs))) := same_new n3
    refine ⟨p1, p3, _, _, rfl, rfl, s3 _ _ (s2 _ _ e1), upd_same, ?_, fun p4 n4 => ?_⟩
    · rw [List.length_map, List.length_map, List.length_cons]; exact line_ok (by omega)
    rw [← List.map_append, List.cons_append]
    have hfin2 : fin l (fr ++ fs) = fin (fin l fr) fs := fin_append l fs fr
    have hall := row_append.mpr ⟨row_mono (fun _ _ => Del.stp) hR, hR2⟩
    have ha1 := row_alike (row_mono (fun _ _ => Del.stp) hR)
    have hlast := fin_mem (fin l fr) fs
    refine q _ p4 (fr ++ fs) (snew (s1.trans (s2.trans s3)) n4) ((s1.trans (s2.trans s3)).free n4) upd_same hall ?_ (fun x hx => ?_) (by rw [List.length_append]; omega) ?_
    · rw [hfin2]
      exact ⟨ha1.trans hnf.al, hnf.red, hnf.ord⟩
    · rcases List.mem_cons.mp hx with z | z
      · rw [z]; exact ⟨by omega, fun c h => h⟩
      · rcases List.mem_append.mp z with z | z
        · have := hsub x (List.mem_cons_of_mem _ z)
          exact ⟨by omega, this.2⟩
        · have := hsub2 x z
          exact ⟨by omega, fun c h => hf.2 c (this.2 c h)⟩
    · rw [hfin2, hfl]; exact hf.1
def sp_least_form_of : Sp := fun vs H Q _ => ∃ (d : Nat) (l : List Nat), vs = [.int d, T l] ∧ l.length ≤ 500 ∧ Low l ∧ ∀ H' v, Same H H' → NF d l v → v.length ≤ l.length → (∀ c ∈ v, c ∈ l) → Q (T v) H'
theorem ok_least_form_of (F : Facts fa fn K mg) (c_way_down : Callee P w K mg base 4 "way_down" p_way_down sp_way_down) : Callee P w K mg base 5 "least_form_of" p_least_form_of sp_least_form_of := by
  refine F.callee 13 13 sc_least_form_of (fun vs H Q E h => ?_) (fun _ _ _ _ _ _ us hl => match us, hl with | [_, _], _ => rfl) (fun f cdv A outer t0 H vs Q E hg hr h => ?_)
  · obtain ⟨d, l, rfl, hz, hlow, q⟩ := h
    rfl
  · obtain ⟨d, l, rfl, hz, hlow, q⟩ := h
    refine ⟨_, (pss_one (ps_ret (pe_ix (k_ixl K) (pe_cal c_way_down hg (hr.mono (by decide)) (pa_cons (pv 0) (pa_cons (pv 1) pa_nil))) (pe_un un_neg pe_int) (fun _ _ => rfl)))), ?_⟩
    refine ⟨_, rfl, _, rfl, d, l, rfl, hz, hlow, fun H1 p1 fr s1 n1 e1 hR hnf hsub hfr hlast => ?_⟩
    refine ⟨_, rfl, p1, _, -1, _, rfl, rfl, SqL.of e1, atI_fin l fr, ?_⟩
    exact q _ _ s1 hnf hlast (hsub _ (fin_mem l fr)).2
theorem abc_low {l : List Nat} (h : ∀ c ∈ l, c ∈ abc) : Low l := fun c hc => by
  have : ∀ x ∈ abc, x < 1114112 := by decide
  exact this c (h c hc)
end

section
variable {P : Program} {w : World} {K : PySem.W.Frag} {mg : Str → Option Value} {base : Heap}
def sp_least_form : Sp := fun vs H Q _ => ∃ (d : Nat) (l : List Nat), vs = [.int d, T l] ∧ l.length ≤ 500 ∧ (∀ c ∈ l, c ∈ abc) ∧ ∀ H' v, Same H H' → NF d l v → v.length ≤ l.length → (∀ c ∈ v, c ∈ l) → Q (T v) H'
theorem ok_least_form (F : Facts fa fn K mg) (c_check_depth : Callee P w K mg base 4 "check_depth" p_check_depth sp_check_depth) (c_check_text : Callee P w K mg base 3 "check_text" p_check_text sp_check_text) (c_least_form_of : Callee P w K mg base 5 "least_form_of" p_least_form_of sp_least_form_of) : Callee P w K mg base 6 "least_form" p_least_form sp_least_form := by
  refine F.callee 14 14 sc_least_form (fun vs H Q E h => ?_) (fun _ _ _ _ _ _ us hl => match us, hl with | [_, _], _ => rfl) (fun f cdv A outer t0 H vs Q E hg hr h => ?_)
  · obtain ⟨d, l, rfl, hz, hc, q⟩ := h
    rfl
  · obtain ⟨d, l, rfl, hz, hc, q⟩ := h
    refine ⟨_, (pss_cons (ps_expr (pe_cal c_check_depth hg (hr.mono (by decide)) (pa_cons (pv 0) pa_nil)))
      (pss_cons (ps_expr (pe_cal c_check_text hg (hr.mono (by decide)) (pa_cons (pv 1) pa_nil)))
      (pss_one (ps_ret (pe_cal c_least_form_of hg (hr.mono (by decide)) (pa_cons (pv 0) (pa_cons (pv 1) pa_nil))))))), ?_⟩
    refine ⟨_, rfl, d, rfl, by omega, ?_⟩
    refine ⟨_, rfl, l, rfl, by omega, hc, ?_⟩
    exact ⟨_, rfl, _, rfl, d, l, rfl, hz, abc_low hc, fun H1 v s h1 h2 h3 => q _ _ s h1 h2 h3⟩
end

section
variable {P : Program} {w : World} {K : PySem.W.Frag} {mg : Str → Option Value} {base : Heap}
def sp_read_alike : Sp := fun vs H Q _ => ∃ (d : Nat) (l m : List Nat), vs = [.int d, T l, T m] ∧ l.length ≤ 500 ∧ (∀ c ∈ l, c ∈ abc) ∧ m.length ≤ 500 ∧ (∀ c ∈ m, c ∈ abc) ∧ ∀ H', Same H H' → Q (.bl (alk d l m)) H'
theorem ok_read_alike (F : Facts fa fn K mg) (c_check_depth : Callee P w K mg base 4 "check_depth" p_check_depth sp_check_depth) (c_check_text : Callee P w K mg base 3 "check_text" p_check_text sp_check_text) (c_least_form_of : Callee P w K mg base 5 "least_form_of" p_least_form_of sp_least_form_of) : Callee P w K mg base 6 "read_alike" p_read_alike sp_read_alike := by
  refine F.callee 15 15 sc_read_alike (fun vs H Q E h => ?_) (fun _ _ _ _ _ _ us hl => match us, hl with | [_, _, _], _ => rfl) (fun f cdv A outer t0 H vs Q E hg hr h => ?_)
  · obtain ⟨d, l, m, rfl, hz, hc, hz2, hc2, q⟩ := h
    rfl
  · obtain ⟨d, l, m, rfl, hz, hc, hz2, hc2, q⟩ := h
    refine ⟨_, (pss_cons (ps_expr (pe_cal c_check_depth hg (hr.mono (by decide)) (pa_cons (pv 0) pa_nil)))
      (pss_cons (ps_expr (pe_cal c_check_text hg (hr.mono (by decide)) (pa_cons (pv 1) pa_nil)))
      (pss_cons (ps_expr (pe_cal c_check_text hg (hr.mono (by decide)) (pa_cons (pv 2) pa_nil)))
      (pss_one (ps_ret (pe_cmpR op_eqT (pe_cal c_least_form_of hg (hr.mono (by decide)) (pa_cons (pv 0) (pa_cons (pv 1) pa_nil))) (pe_cal c_least_form_of hg (hr.mono (by decide)) (pa_cons (pv 0) (pa_cons (pv 2) pa_nil))) (nomark _))))))), ?_⟩
    refine ⟨_, rfl, d, rfl, by omega, ?_⟩
    refine ⟨_, rfl, l, rfl, by omega, hc, ?_⟩
    refine ⟨_, rfl, m, rfl, by omega, hc2, ?_⟩
    refine ⟨_, rfl, _, rfl, d, l, rfl, hz, abc_low hc, fun H1 v s1 g1 g2 g3 => ?_⟩
    refine ⟨_, rfl, _, rfl, d, m, rfl, hz2, abc_low hc2, fun H2 v' s2 f1 f2 f3 => ?_⟩
    refine ⟨v, v', rfl, rfl, ?_⟩
    have e : decide (v = v') = alk d l m := by
      by_cases h : v = v'
      · rw [decide_eq_true h, alk_true ((NF.iff g1 f1).mp h)]
      · rw [decide_eq_false h, alk_false (fun z => h ((NF.iff g1 f1).mpr z))]
    rw [e]
    exact q _ (s1.trans s2)
end

end K79

set_option Elab.async false
set_option linter.all false
set_option maxRecDepth 100000
set_option maxHeartbeats 4000000
set_option exponentiation.threshold 5000
namespace K79
open PySem PySem.Spec PyProof.Rows L2 Sk
section
variable {P : Program} {w : World} {K : PySem.W.Frag} {mg : Str → Option Value} {base : Heap}
def sp_l_hash : Sp := fun vs H Q _ => ∃ a b : Int, vs = [.int a, .int b] ∧ a.natAbs < 2 ^ 64 ∧ b.natAbs < 2 ^ 64 ∧ ∀ r : Int, 0 ≤ r → r < 2147483647 → Q (.int r) H
theorem ok_l_hash (F : Facts fa fn K mg)  : Callee P w K mg base 1 "_law_hash" p_l_hash sp_l_hash := by
  refine F.callee 16 16 sc_l_hash (fun vs H Q E h => ?_) (fun _ _ _ _ _ _ us hl => match us, hl with | [_, _], _ => rfl) (fun f cdv A outer t0 H vs Q E hg hr h => ?_)
  · obtain ⟨a, b, rfl, ha, hb, q⟩ := h
    rfl
  · obtain ⟨a, b, rfl, ha, hb, q⟩ := h
    refine ⟨_, (pss_cons (ps_set (i := 2) sc_l_hash.nd rfl (by first | exact Or.inl rfl | exact Or.inr rfl) (pe_op op_modN (pe_callTy call_int1 (by rfl) (F.free 34) (by decide +kernel) (pa_cons (pe_op op_add (pe_op op_add (pe_op op_add (pe_op op_mulW (pv 0) pe_int) (pe_op op_mulW (pe_op op_mulW pe_int (pv 1)) (pv 1))) (pe_op op_mulW pe_int (pv 1))) pe_int) pa_nil)) pe_int))
      (pss_cons (ps_set (i := 2) sc_l_hash.nd rfl (by first | exact Or.inl rfl | exact Or.inr rfl) (pe_op op_modN (pe_callTy call_int1 (by rfl) (F.free 34) (by decide +kernel) (pa_cons (pe_op op_add (pe_op op_add (pe_op op_mulW (pv 2) (pv 2)) (pe_op op_mulW pe_int (pv 1))) pe_int) pa_nil)) pe_int))
      (pss_one (ps_ret (pe_op op_modN (pe_callTy call_int1 (by rfl) (F.free 34) (by decide +kernel) (pa_cons (pe_op op_mulW (pv 2) pe_int) pa_nil)) pe_int))))), ?_⟩
    have k1 : (1140671 : Int).natAbs < 2 ^ 21 := by decide
    have k2 : (27644437 : Int).natAbs < 2 ^ 25 := by decide
    have k3 : (131 : Int).natAbs < 2 ^ 8 := by decide
    refine ⟨_, rfl, _, _, rfl, rfl, wide_mul ha k1 (by decide) (by decide) (by decide), _, rfl, _, _, rfl, rfl, wide_mul k2 hb (by decide) (by decide) (by decide), _, rfl, _, _, rfl, rfl, wide_mul (nab_mul k2 hb) hb (by decide) (by decide) (by decide), _, _, rfl, rfl, _, rfl, _, _, rfl, rfl, wide_mul k3 hb (by decide) (by decide) (by decide), _, _, rfl, rfl, _, _, rfl, rfl, .inl ⟨_, rfl, ?_⟩⟩
    refine ⟨_, _, rfl, rfl, show (2147483629 : Int) ≠ 0 by decide, ?_⟩
    obtain ⟨m0, m1⟩ := fmod_rg (i := a * 1140671 + 27644437 * b * b + 131 * b + 19) (j := 2147483629) (by decide)
    have km : ((a * 1140671 + 27644437 * b * b + 131 * b + 19).fmod 2147483629).natAbs < 2 ^ 31 := by omega
    have k4 : (62089 : Int).natAbs < 2 ^ 16 := by decide
    refine ⟨_, rfl, _, rfl, _, _, rfl, rfl, wide_mul km km (by decide) (by decide) (by decide), _, rfl, _, _, rfl, rfl, wide_mul k4 hb (by decide) (by decide) (by decide), _, _, rfl, rfl, _, _, rfl, rfl, .inl ⟨_, rfl, ?_⟩⟩
    refine ⟨_, _, rfl, rfl, show (2147483587 : Int) ≠ 0 by decide, ?_⟩
    obtain ⟨p, hp⟩ : ∃ p : Int, p = ((a * 1140671 + 27644437 * b * b + 131 * b + 19).fmod 2147483629 * (a * 1140671 + 27644437 * b * b + 131 * b + 19).fmod 2147483629 + 62089 * b + 32416187).fmod 2147483587 := ⟨_, rfl⟩
    obtain ⟨p0, p1⟩ := fmod_rg (i := (a * 1140671 + 27644437 * b * b + 131 * b + 19).fmod 2147483629 * (a * 1140671 + 27644437 * b * b + 131 * b + 19).fmod 2147483629 + 62089 * b + 32416187) (j := 2147483587) (by decide)
    rw [← hp] at p0 p1
    have kp : p.natAbs < 2 ^ 31 := by omega
    rw [hp] at kp
    have k5 : (48271 : Int).natAbs < 2 ^ 16 := by decide
    refine ⟨_, rfl, _, _, rfl, rfl, wide_mul kp k5 (by decide) (by decide) (by decide), .inl ⟨_, rfl, ?_⟩⟩
    refine ⟨_, _, rfl, rfl, show (2147483647 : Int) ≠ 0 by decide, ?_⟩
    exact q _ (fmod_rg (by decide)).1 (fmod_rg (by decide)).2
def sp_l_random : Sp := fun vs H Q _ => ∃ (g : Addr) (b : Int) (n : Nat), vs = [.ref g, .int b] ∧ 0 < b ∧ b < 2 ^ 119 ∧ Gen (n + 5) H g ∧ ∀ (r : Int) H', 0 ≤ r → r < b → But g H H' → Gen n H' g → Q (.int r) H'
theorem ok_l_random (F : Facts fa fn K mg) (c_l_hash : Callee P w K mg base 1 "_law_hash" p_l_hash sp_l_hash) : Callee P w K mg base 2 "_law_random" p_l_random sp_l_random := by
  refine F.callee 17 17 sc_l_random (fun vs H Q E h => ?_) (fun _ _ _ _ _ _ us hl => match us, hl with | [_, _], _ => rfl) (fun f cdv A outer t0 H vs Q E hg hr h => ?_)
  · obtain ⟨g, b, n, rfl, hb0, hb1, hG, q⟩ := h
    rfl
  · obtain ⟨g, b, n, rfl, hb0, hb1, hG, q⟩ := h
    refine ⟨_, (pss_cons (ps_if (pt_cmpR op_gt (pe_ix (k_ixl K) (pv 0) pe_int (fun _ _ => rfl)) pe_int (nomark _)) (pss_cons (ps_set (i := 2) sc_l_random.nd rfl (by first | exact Or.inl rfl | exact Or.inr rfl) (pe_op op_modN (pe_callTy call_int1 (by rfl) (F.free 34) (by decide +kernel) (pa_cons (pe_ix (k_ixl K) (pv 0) pe_int (fun _ _ => rfl)) pa_nil)) (pv 1)))
      (pss_cons (ps_asg (pe_op op_fdivW (pe_ix (k_ixl K) (pv 0) pe_int (fun _ _ => rfl)) (pv 1)) (pg_sub (pv 0) pe_int set_list))
      (pss_one (ps_ret (pv 2)))))
      pss_nil)
      (pss_cons (ps_set (i := 2) sc_l_random.nd rfl (by first | exact Or.inl rfl | exact Or.inr rfl) pe_int)
      (pss_cons (ps_for PassesOwn.never rfl (pi_range1 (by rfl) (F.free 40) (pa_cons (pe_op op_add pe_int (pe_op op_fdivW (pe_bits (pv 1)) pe_int)) pa_nil)) (pg_name (i := 3) sc_l_random.nd rfl (by first | exact Or.inl rfl | exact Or.inr rfl))
      (pss_cons (ps_asg (pe_op op_add (pe_ix (k_ixl K) (pv 0) pe_int (fun _ _ => rfl)) pe_int) (pg_sub (pv 0) pe_int set_list))
      (pss_one (ps_set (i := 2) sc_l_random.nd rfl (by first | exact Or.inl rfl | exact Or.inr rfl) (pe_op op_add (pe_op op_mulW (pv 2) pe_int) (pe_cal c_l_hash hg (hr.mono (by decide)) (pa_cons (pe_ix (k_ixl K) (pv 0) pe_int (fun _ _ => rfl)) (pa_cons (pe_ix (k_ixl K) (pv 0) pe_int (fun _ _ => rfl)) pa_nil))))))))
      (pss_one (ps_ret (pe_op op_modN (pe_callTy call_int1 (by rfl) (F.free 34) (by decide +kernel) (pa_cons (pv 2) pa_nil)) (pv 1))))))), ?_⟩
    obtain ⟨x, y, z, eg, x0, x1, y0, y1, z0, z1⟩ := hG
    refine ⟨_, rfl, g, _, 0, _, rfl, rfl, SqL.of eg, atI_nat (j := 0) rfl, _, _, rfl, rfl, _, rfl, ?_⟩
    refine ite2 (fun h => ?_) (fun h => ?_)
    · -- _law_drawn = int(_law_generator_here[0]) % _law_bound
      refine ⟨_, rfl, g, _, 0, _, rfl, rfl, SqL.of eg, atI_nat (j := 0) rfl, .inl ⟨_, rfl, ?_⟩⟩
      refine ⟨_, rfl, _, _, rfl, rfl, by omega, ?_⟩
      -- _law_generator_here[0] = _law_generator_here[0] // _law_bound
      refine ⟨_, rfl, g, _, 0, _, rfl, rfl, SqL.of eg, atI_nat (j := 0) rfl, _, rfl, _, _, rfl, rfl, wide_div (b := 119) hb0 (abs_lt (by omega) hb1) (by decide) (by decide), _, rfl, g, _, 0, 0, rfl, rfl, eg, rfl, ?_⟩
      obtain ⟨r0, r1⟩ := fmod_rg (i := x) hb0
      refine ⟨_, rfl, q _ _ r0 r1 (But.gen (But.refl g H)) ⟨x / b, y, z, upd_same, Int.ediv_nonneg x0 (by omega), Int.lt_of_le_of_lt (Int.ediv_le_self b x0) x1, y0, y1, z0, by omega⟩⟩
    · -- for _law_turn in range(1 + _law_bound.bit_length() // 30):
      have hbits : Builtin.Int.intBits b ≤ 119 := bits_le hb0 hb1
      refine ⟨_, rfl, _, rfl, _, _, rfl, rfl, wide_div (b := 6) (by decide) (by decide) (by decide) (by decide), _, _, rfl, rfl, _, rfl, by omega, by omega, for_it walk_range (fun i σ H1 => ∃ (d zi : Int) (x3 : Option V), σ = [some (.ref g), some (.int b), some (.int d), x3] ∧ 0 ≤ d ∧ d < 2 ^ (31 * i) ∧ But g H H1 ∧ H1 g = some (.lst [.int x, .int y, .int zi]) ∧ zi = z + i) ?start (fun _ _ _ _ _ => trivial) ?turn ?fin⟩
      case start => exact ⟨0, z, none, rfl, by decide, by decide, But.refl _ _, eg, by simp⟩
      case turn =>
        rintro i v σ H1 H2 hi ⟨d, zi, x3, rfl, d0, d1, bt1, e1, rfl⟩ ⟨rfl, rfl⟩
        have hi5 : i < 5 := by omega
        -- _law_generator_here[2] = _law_generator_here[2] + 1
        refine ⟨_, rfl, g, _, 2, _, rfl, rfl, SqL.of e1, atI_nat (j := 2) rfl, _, _, rfl, rfl, _, rfl, g, _, 2, 2, rfl, rfl, e1, rfl, ?_⟩
        have e2 : upd H2 g (.lst [.int x, .int y, .int (z + i + 1)]) g = some (.lst [.int x, .int y, .int (z + i + 1)]) := upd_same
        have kd : d.natAbs < 2 ^ (31 * i) := abs_lt d0 d1
        have kd2 : d.natAbs < 2 ^ (31 * i + 1) := Nat.lt_of_lt_of_le kd (Nat.pow_le_pow_right (by decide) (by omega))
        -- _law_drawn = ..
        refine ⟨_, rfl, _, _, rfl, rfl, wide_mul kd2 (show (2147483587 : Int).natAbs < 2 ^ 31 by decide) (by omega) (by decide) (by omega), _, rfl, g, _, 1, _, rfl, rfl, SqL.of e2, atI_nat (j := 1) rfl, _, rfl, g, _, 2, _, rfl, rfl, SqL.of e2, atI_nat (j := 2) rfl, y, z + i + 1, rfl, by omega, by omega, fun r r0 r1 => ?_⟩
        refine ⟨_, _, rfl, rfl, ?_⟩
        refine ⟨d * 2147483587 + r, z + i + 1, _, rfl, ?_, ?_, But.gen bt1, e2, by omega⟩
        · have := Int.mul_nonneg d0 (show (0 : Int) ≤ 2147483587 by decide)
          omega
        · rw [show 31 * (i + 1) = 31 * i + 31 by omega, Int.pow_add]
          generalize (2 : Int) ^ (31 * i) = p at d1
          have h2 : (2 : Int) ^ 31 = 2147483648 := by decide
          rw [h2]
          omega
      case fin =>
        rintro σ H1 ⟨d, zi, x3, rfl, d0, d1, bt1, e1, rfl⟩
        -- return int(_law_drawn) % _law_bound
        refine ⟨_, rfl, .inl ⟨_, rfl, ?_⟩⟩
        refine ⟨_, rfl, _, _, rfl, rfl, by omega, ?_⟩
        obtain ⟨r0, r1⟩ := fmod_rg (i := d) hb0
        exact q _ _ r0 r1 bt1 ⟨x, y, _, e1, x0, x1, y0, y1, by omega, by omega⟩
def sp_l_cell (K : PySem.W.Frag) : Sp := fun vs H Q _ => ∃ (s : Addr) (ns : List Int) (i : Nat), vs = [.ref s, .int i] ∧ SqL K H s (ns.map V.int) ∧ ∀ (z : Int) H', Same H H' → Q (.int z) H'
theorem ok_l_cell (F : Facts fa fn K mg)  : Callee P w K mg base 1 "_law_cell" p_l_cell (sp_l_cell K) := by
  refine F.callee 18 18 sc_l_cell (fun vs H Q E h => ?_) (fun _ _ _ _ _ _ us hl => match us, hl with | [_, _], _ => rfl) (fun f cdv A outer t0 H vs Q E hg hr h => ?_)
  · obtain ⟨s, ns, i, rfl, hS, q⟩ := h
    rfl
  · obtain ⟨s, ns, i, rfl, hS, q⟩ := h
    refine ⟨_, (pss_cons (ps_if (pt_cmpR op_lt (pv 1) (pe_callB (k_len K) (by rfl) (F.free 36) (by decide +kernel) (pa_cons (pv 0) pa_nil)) (nomark _)) (pss_one (ps_ret (pe_ix (k_ixl K) (pv 0) (pv 1) (fun _ _ => rfl))))
      pss_nil)
      (pss_one (ps_ret (pe_op op_modN (pe_callB (k_sum K) (by rfl) (F.free 44) (by decide +kernel) (pa_cons (pe_slice (k_sll K) (pv 0) po_none (po_some pe_int)) pa_nil)) pe_int)))), ?_⟩
    refine ⟨_, rfl, _, rfl, s, _, rfl, hS, _, _, rfl, rfl, _, rfl, ?_⟩
    refine ite2 (fun h => ?_) (fun h => ?_)
    · have h := of_decide_eq_true h
      rw [List.length_map] at h
      have hi : i < ns.length := by omega
      refine ⟨_, rfl, _, rfl, s, _, _, _, rfl, rfl, hS, atI_nat (j := i) (by rw [List.getElem?_map, List.getElem?_eq_getElem hi]; rfl), ?_⟩
      exact q _ _ (Same.refl _)
    · refine ⟨_, rfl, _, rfl, s, _, rfl, hS, fun a1 na1 => ?_⟩
      have e : cutV (ns.map V.int) none (some 1) = (ns.take 1).map V.int := by
        unfold cutV
        rw [HT.sIx_none, show HT.sIx (ns.map V.int).length (ns.map V.int).length (some 1) = min 1 (ns.map V.int).length from HT.sIx_nat _ _ 1, List.length_map]
        cases ns with
        | nil => rfl
        | cons x r =>
          rw [show min 1 (x :: r).length = 1 by rw [List.length_cons]; omega]
          rfl
      refine ⟨a1, ns.take 1, rfl, SqL.of (by rw [e]; exact upd_same), _, _, rfl, rfl, show (1000003 : Int) ≠ 0 by decide, ?_⟩
      exact q _ _ (same_new na1)
def sp_l_generator (K : PySem.W.Frag) : Sp := fun vs H Q _ => ∃ (s : Addr) (ns : List Int) (i : Nat), vs = [.ref s, .int i] ∧ SqL K H s (ns.map V.int) ∧ i ≤ 10 ∧ ∀ (g : Addr) H', Same H H' → H g = none → Gen (2 ^ 39) H' g → Q (.ref g) H'
theorem ok_l_generator (F : Facts fa fn K mg) (c_l_cell : Callee P w K mg base 1 "_law_cell" p_l_cell (sp_l_cell K)) : Callee P w K mg base 2 "_law_generator" p_l_generator (sp_l_generator K) := by
  refine F.callee 19 19 sc_l_generator (fun vs H Q E h => ?_) (fun _ _ _ _ _ _ us hl => match us, hl with | [_, _], _ => rfl) (fun f cdv A outer t0 H vs Q E hg hr h => ?_)
  · obtain ⟨s, ns, i, rfl, hS, hi, q⟩ := h
    rfl
  · obtain ⟨s, ns, i, rfl, hS, hi, q⟩ := h
    refine ⟨_, (pss_cons (ps_set (i := 2) sc_l_generator.nd rfl (by first | exact Or.inl rfl | exact Or.inr rfl) (pe_cal c_l_cell hg (hr.mono (by decide)) (pa_cons (pv 0) (pa_cons (pv 1) pa_nil))))
      (pss_one (ps_ret (pe_lst (pa_cons (pe_op op_modN (pe_callTy call_int1 (by rfl) (F.free 34) (by decide +kernel) (pa_cons (pe_callB (call_max2 rfl) (by rfl) (F.free 38) (by decide +kernel) (pa_cons (pe_op op_sub (pv 2) (pe_op op_powB pe_int pe_int)) (pa_cons pe_int pa_nil))) pa_nil)) (pe_op op_powB (pe_op op_powB pe_int pe_int) pe_int)) (pa_cons (pe_op op_modN (pe_callTy call_int1 (by rfl) (F.free 34) (by decide +kernel) (pa_cons (pv 2) pa_nil)) pe_int) (pa_cons (pe_op op_mulW pe_int (pv 1)) pa_nil))))))), ?_⟩
    refine ⟨_, rfl, _, rfl, s, ns, i, rfl, hS, fun z H1 s1 => ?_⟩
    refine ⟨_, rfl, _, _, rfl, rfl, by decide, by decide +kernel, _, _, rfl, rfl, _, _, rfl, .inl ⟨_, rfl, ?_⟩⟩
    refine ⟨_, _, rfl, rfl, by decide, by decide +kernel, _, _, rfl, rfl, by decide, by decide +kernel, _, _, rfl, rfl, show (((10 : Int) ^ (60 : Int).toNat) ^ (10 : Int).toNat) ≠ 0 by decide +kernel, _, rfl, .inl ⟨_, rfl, ?_⟩⟩
    refine ⟨_, _, rfl, rfl, show (2147483647 : Int) ≠ 0 by decide, _, rfl, _, _, rfl, rfl, wide_mul (a := 10) (b := 4) (by decide) (by rw [Int.natAbs_natCast]; omega) (by decide) (by decide) (by decide), by show 3 ≤ sizeLine; decide, fun g ng => ?_⟩
    have e6 : (((10 : Int) ^ (60 : Int).toNat) ^ (10 : Int).toNat) = 10 ^ 600 := by decide +kernel
    obtain ⟨a0, a1⟩ := fmod_rg (i := if (0 : Int) > z - 10 ^ (18 : Int).toNat then 0 else z - 10 ^ (18 : Int).toNat) (j := ((10 : Int) ^ (60 : Int).toNat) ^ (10 : Int).toNat) (by decide +kernel)
    obtain ⟨b0, b1⟩ := fmod_rg (i := z) (j := 2147483647) (by decide)
    rw [e6] at a1
    exact q g _ (snew s1 ng) (s1.free ng) ⟨_, _, _, upd_same, a0, a1, b0, b1, by omega, by omega⟩
end

section
variable {P : Program} {w : World} {K : PySem.W.Frag} {mg : Str → Option Value} {base : Heap}
def sp_l_size : Sp := fun vs H Q _ => ∃ (g : Addr) (lo hi : Int) (n : Nat), vs = [.ref g, .int lo, .int hi] ∧ lo ≤ hi ∧ hi - lo < 1000000 ∧ Gen (n + 5) H g ∧ ∀ (r : Int) H', lo ≤ r → r ≤ hi → But g H H' → Gen n H' g → Q (.int r) H'
theorem ok_l_size (F : Facts fa fn K mg) (c_l_random : Callee P w K mg base 2 "_law_random" p_l_random sp_l_random) : Callee P w K mg base 3 "_law_size" p_l_size sp_l_size := by
  refine F.callee 21 21 sc_l_size (fun vs H Q E h => ?_) (fun _ _ _ _ _ _ us hl => match us, hl with | [_, _, _], _ => rfl) (fun f cdv A outer t0 H vs Q E hg hr h => ?_)
  · obtain ⟨g, lo, hi, n, rfl, hlh, hsm, hG, q⟩ := h
    rfl
  · obtain ⟨g, lo, hi, n, rfl, hlh, hsm, hG, q⟩ := h
    refine ⟨_, (pss_one (ps_ret (pe_op op_add (pv 1) (pe_cal c_l_random hg (hr.mono (by decide)) (pa_cons (pv 0) (pa_cons (pe_op op_add (pe_op op_sub (pv 2) (pv 1)) pe_int) pa_nil)))))), ?_⟩
    refine ⟨_, rfl, _, rfl, _, rfl, _, rfl, _, _, rfl, rfl, _, _, rfl, rfl, g, hi - lo + 1, n, rfl, by omega, b119 (by omega), hG, fun r H1 r0 r1 b1 g1 => ?_⟩
    exact ⟨_, _, rfl, rfl, q _ _ (by omega) (by omega) b1 g1⟩
theorem flat_single (ls : List Nat) : (ls.map fun c => [c]).flatten = ls := by
  induction ls with
  | nil => rfl
  | cons c r ih => rw [List.map_cons, List.flatten_cons, ih]; rfl
theorem sum_single (ls : List Nat) : ((ls.map fun c => [c]).map (·.length)).sum = ls.length := by
  induction ls with
  | nil => rfl
  | cons c r ih =>
    rw [List.map_cons, List.map_cons, List.sum_cons, ih]
    show 0 + 1 + r.length = r.length + 1
    omega
def sp_l_text : Sp := fun vs H Q _ => ∃ (g : Addr) (a : List Nat) (lo hi n : Nat), vs = [.ref g, T a, .int lo, .int hi] ∧ a ≠ [] ∧ a.length ≤ 1000 ∧ lo ≤ hi ∧ hi ≤ 1000 ∧ Gen (n + 5 * (hi + 3)) H g ∧
  ∀ (t : List Nat) H', (∀ c ∈ t, c ∈ a) → lo ≤ t.length → t.length ≤ hi → But g H H' → Gen n H' g → Q (T t) H'
theorem ok_l_text (F : Facts fa fn K mg) (c_l_size : Callee P w K mg base 3 "_law_size" p_l_size sp_l_size) (c_l_random : Callee P w K mg base 2 "_law_random" p_l_random sp_l_random) : Callee P w K mg base 4 "_law_text" p_l_text sp_l_text := by
  refine F.callee 22 22 sc_l_text (fun vs H Q E h => ?_) (fun _ _ _ _ _ _ us hl => match us, hl with | [_, _, _, _], _ => rfl) (fun f cdv A outer t0 H vs Q E hg hr h => ?_)
  · obtain ⟨g, a, lo, hi, n, rfl, hne, ha, hlh, hhi, hG, q⟩ := h
    rfl
  · obtain ⟨g, a, lo, hi, n, rfl, hne, ha, hlh, hhi, hG, q⟩ := h
    refine ⟨_, (pss_cons (ps_set (i := 4) sc_l_text.nd rfl (by first | exact Or.inl rfl | exact Or.inr rfl) (pe_cal c_l_size hg (hr.mono (by decide)) (pa_cons (pv 0) (pa_cons (pv 2) (pa_cons (pv 3) pa_nil)))))
      (pss_cons (ps_set (i := 5) sc_l_text.nd rfl (by first | exact Or.inl rfl | exact Or.inr rfl) (k_bm K PySem.F.plainAttrs_str PySem.F.slot_str_join PySem.F.type_str_join (k_join K) (pe_txt []) (pa_cons (pe_lc (own := [("_law_turn", 6)]) rfl sc_l_text.nd (pi_range1 (by rfl) (F.free 40) (pa_cons (pv 4) pa_nil)) (blkOk_by (by kernel_rfl)) (fun _ _ _ _ _ => (pg_name (i := 6) sc_l_text.nd rfl (by first | exact Or.inl rfl | exact Or.inr rfl))) (fun _ _ _ _ _ => pts_nil) (fun _ _ _ _ _ => (pe_ix ix_txt (pv 1) (pe_cal c_l_random hg (hr.mono (by decide)) (pa_cons (pv 0) (pa_cons (pe_callB call_lenT (by rfl) (F.free 36) (by decide +kernel) (pa_cons (pv 1) pa_nil)) pa_nil))) (fun _ _ => rfl)))) pa_nil)))
      (pss_cons (ps_if (PW.pt (pw_and (pt_cmpR op_neT (pv 5) (pe_txt []) (nomark _)) (pw_and1 (pt_cmpR op_eq (pe_cal c_l_random hg (hr.mono (by decide)) (pa_cons (pv 0) (pa_cons pe_int pa_nil))) pe_int (nomark _))))) (pss_one (ps_ret (pe_slice sl_txt (pe_op op_mulT (pe_slice sl_txt (pv 5) po_none (po_some (pe_cal c_l_size hg (hr.mono (by decide)) (pa_cons (pv 0) (pa_cons pe_int (pa_cons pe_int pa_nil)))))) (pv 3)) po_none (po_some (pe_callB call_lenT (by rfl) (F.free 36) (by decide +kernel) (pa_cons (pv 5) pa_nil))))))
      pss_nil)
      (pss_one (ps_ret (pv 5)))))), ?_⟩
    have ha0 : 0 < a.length := List.length_pos_iff.mpr hne
    -- _law_many = ..
    refine ⟨_, rfl, _, rfl, _, rfl, g, lo, hi, n + 5 * (hi + 2), rfl, by omega, by omega, hG.less (by omega), fun m H1 m0 m1 b1 g1 => ?_⟩
    obtain ⟨m, rfl⟩ : ∃ k : Nat, m = (k : Int) := ⟨m.toNat, by omega⟩
    -- _law_text_here = ''.join([..])
    refine ⟨rfl, _, rfl, _, rfl, by omega, by omega, fun D hD => ?_⟩
    have nDg : D ≠ g := g1.ne hD
    rw [Int.toNat_natCast]
    refine lc_it walk_range (fun i H2 => But g H1 H2 ∧ Gen (n + 5 * (hi + 2) - 5 * i) H2 g ∧ ∃ ls : List Nat, ls.length = i ∧ (∀ c ∈ ls, c ∈ a) ∧ H2 D = some (.lst (ls.map fun c => T [c]))) ?start (fun _ _ _ _ => trivial) ?turn ?fin
    case start => exact ⟨But.of (same_new hD), g1.same (same_new hD), [], rfl, fun c hc => (by cases hc), upd_same⟩
    case turn =>
      rintro i x H2 H3 hi' ⟨b2, g2, ls, hl, hc, e2⟩ ⟨rfl, rfl⟩
      refine ⟨rfl, yes_ (iteT ?_)⟩
      refine ⟨_, rfl, _, rfl, _, rfl, a, rfl, by omega, g, (a.length : Int), n + 5 * (hi + 2) - 5 * (i + 1), rfl, by omega, b119 (by omega), g2.less (by omega), fun r H4 r0 r1 b4 g4 => ?_⟩
      obtain ⟨r, rfl⟩ : ∃ k : Nat, r = (k : Int) := ⟨r.toNat, by omega⟩
      have hr : r < a.length := by omega
      refine ⟨a, (r : Int), a[r], rfl, rfl, by omega, atI_nat (List.getElem?_eq_getElem hr), ?_⟩
      refine ⟨_, b4 _ _ nDg e2, ?_, ?_, ?_, ls ++ [a[r]], by rw [List.length_append, hl]; rfl, fun c hc' => ?_, ?_⟩
      · rw [List.length_map]; exact line_lt (by omega)
      · exact But.mut (b2.trans b4) hD
      · obtain ⟨x1, x2, x3, ex, rx⟩ := g4
        exact ⟨x1, x2, x3, by rw [upd_ne nDg.symm]; exact ex, rx⟩
      · rcases List.mem_append.mp hc' with z | z
        · exact hc c z
        · rw [List.mem_singleton.mp z]; exact List.getElem_mem hr
      · rw [upd_same, List.map_append]; rfl
    case fin =>
      rintro H2 ⟨b2, g2, ls, hl, hc, e2⟩
      have eT : (ls.map fun c => T [c]) = (ls.map fun c => [c]).map T := by rw [List.map_map]; rfl
      rw [eT] at e2
      refine ⟨_, D, _, rfl, rfl, SqL.of e2, by rw [sum_single, List.length_map]; simp; omega, ?_⟩
      rw [joinL_nil, flat_single]
      have hml : m = ls.length := hl.symm
      have bb : But g H H2 := b1.trans b2
      -- if text != '' and random(..) == 0:
      refine ⟨_, rfl, ls, [], rfl, rfl, _, rfl, ?_⟩
      show (if (!decide (ls = [])) = true then _ else _)
      by_cases hls : ls = []
      · rw [decide_eq_true hls]
        refine iteF ?_
        refine iteF ?_
        exact ⟨_, rfl, q _ _ hc (by omega) (by omega) bb (g2.less (by omega))⟩
      · rw [decide_eq_false hls]
        refine iteT ?_
        refine ⟨_, rfl, g, 4, n + 5 * (hi + 2) - 5 * m - 5, rfl, by decide, by decide, g2.less (by omega), fun r H4 r0 r1 b4 g4 => ?_⟩
        refine ⟨rfl, _, rfl, ite2 (fun h => ?_) (fun h => ?_)⟩
        · -- return (text[:size(..)] * most)[:len(text)]
          refine ⟨_, rfl, _, rfl, g, 1, 3, n, rfl, by decide, by decide, g4.less (by omega), fun k H5 k0 k1 b5 g5 => ?_⟩
          obtain ⟨k, rfl⟩ : ∃ z : Nat, k = (z : Int) := ⟨k.toNat, by omega⟩
          refine ⟨(k : Int), rfl, ls, rfl, by omega, ?_⟩
          rw [cut_to]
          have h3 : (ls.take k).length ≤ 3 := by rw [List.length_take]; omega
          refine ⟨_, rfl, ls.take k, hi, rfl, rfl, by omega, ?_, _, rfl, ls, rfl, by omega, (ls.length : Int), rfl, _, rfl, ?_, ?_⟩
          · have := Nat.mul_le_mul_right hi h3
            omega
          · rw [List.length_flatten, List.map_replicate, List.sum_replicate_nat]
            have := Nat.mul_le_mul_left hi h3
            omega
          · rw [cut_to]
            have hl0 : 0 < ls.length := List.length_pos_iff.mpr hls
            have hk1 : 1 ≤ (ls.take k).length := by rw [List.length_take]; omega
            have hfl : (List.replicate hi (ls.take k)).flatten.length = hi * (ls.take k).length := by
              rw [List.length_flatten, List.map_replicate, List.sum_replicate_nat]
            have hge : ls.length ≤ (List.replicate hi (ls.take k)).flatten.length := by
              rw [hfl]
              have := Nat.mul_le_mul_left hi hk1
              omega
            refine q _ _ (fun c hc' => ?_) ?_ ?_ (bb.trans (b4.trans b5)) (g5.less (by omega))
            · have h1 := List.mem_of_mem_take hc'
              obtain ⟨z, hz1, hz2⟩ := List.mem_flatten.mp h1
              rw [List.eq_of_mem_replicate hz1] at hz2
              exact hc c (List.mem_of_mem_take hz2)
            · rw [List.length_take]; omega
            · rw [List.length_take]; omega
        · exact ⟨_, rfl, q _ _ hc (by omega) (by omega) (bb.trans b4) (g4.less (by omega))⟩
end

section
variable {P : Program} {w : World} {K : PySem.W.Frag} {mg : Str → Option Value} {base : Heap}
def sp_l_is_read : Sp := fun vs H Q _ => ∃ (wd l : List Nat), vs = [T wd, T l] ∧ wd.length ≤ 100000 ∧ l.length ≤ 100000 ∧ Q (.bl (rd wd l)) H
theorem ok_l_is_read (F : Facts fa fn K mg)  : Callee P w K mg base 1 "_law_is_read" p_l_is_read sp_l_is_read := by
  refine F.callee 24 24 sc_l_is_read (fun vs H Q E h => ?_) (fun _ _ _ _ _ _ us hl => match us, hl with | [_, _], _ => rfl) (fun f cdv A outer t0 H vs Q E hg hr h => ?_)
  · obtain ⟨wd, l, rfl, hw, hl, q⟩ := h
    rfl
  · obtain ⟨wd, l, rfl, hw, hl, q⟩ := h
    refine ⟨_, (pss_cons (ps_set (i := 2) sc_l_is_read.nd rfl (by first | exact Or.inl rfl | exact Or.inr rfl) pe_int)
      (pss_cons (ps_for PassesOwn.never rfl (pi_str (pv 1)) (pg_name (i := 3) sc_l_is_read.nd rfl (by first | exact Or.inl rfl | exact Or.inr rfl))
      (pss_one (ps_if (pt_cmpR op_eqT (pe_slice sl_txt (pv 0) (po_some (pv 2)) (po_some (pe_op op_add (pv 2) pe_int))) (pv 3) (nomark _)) (pss_one (ps_set (i := 2) sc_l_is_read.nd rfl (by first | exact Or.inl rfl | exact Or.inr rfl) (pe_op op_add (pv 2) pe_int)))
      pss_nil)))
      (pss_one (ps_ret (pe_cmpR op_eq (pv 2) (pe_callB call_lenT (by rfl) (F.free 36) (by decide +kernel) (pa_cons (pv 0) pa_nil)) (nomark _)))))), ?_⟩
    -- for _law_letter in _law_text_here:
    refine ⟨_, rfl, _, rfl, for_it walk_txt (fun i σ H1 => ∃ (j : Nat) (x3 : Option V), σ = [some (T wd), some (T l), some (.int j), x3] ∧ H1 = H ∧ j ≤ wd.length ∧ rd wd l = rd (wd.drop j) (l.drop i)) ?start (fun _ _ _ _ _ => trivial) ?turn ?fin⟩
    case start => exact ⟨0, none, rfl, rfl, Nat.zero_le _, rfl⟩
    case turn =>
      rintro i x σ H1 H2 hi ⟨j, x3, rfl, rfl, hj, e⟩ ⟨rfl, c, hc, rfl⟩
      have hdrop : l.drop i = c :: l.drop (i + 1) := by
        obtain ⟨h1, h2⟩ := List.getElem?_eq_some_iff.mp hc
        rw [List.drop_eq_getElem_cons h1, h2]
      have hsl : cutL wd (some (j : Int)) (some ((j : Int) + 1)) = (wd.drop j).take 1 := by
        have := cut_mid wd j (j + 1)
        rw [Nat.add_sub_cancel_left] at this
        exact this
      refine ⟨_, rfl, _, rfl, _, rfl, _, rfl, _, _, rfl, rfl, _, rfl, wd, rfl, by omega, _, rfl, _, [c], rfl, rfl, _, rfl, ?_⟩
      rw [hsl]
      show (if decide (_ = [c]) = true then _ else _)
      by_cases hjl : j < wd.length
      · rw [List.drop_eq_getElem_cons hjl] at e ⊢
        rw [hdrop, rd] at e
        by_cases hcc : wd[j] = c
        · rw [if_pos hcc] at e
          rw [decide_eq_true (show List.take 1 (wd[j] :: wd.drop (j + 1)) = [c] by rw [hcc]; rfl)]
          refine iteT ?_
          refine ⟨_, rfl, _, _, rfl, rfl, j + 1, _, rfl, rfl, hjl, e⟩
        · rw [if_neg hcc, ← List.drop_eq_getElem_cons hjl] at e
          rw [decide_eq_false (show ¬ List.take 1 (wd[j] :: wd.drop (j + 1)) = [c] by
            intro z
            injection z with z
            exact hcc z)]
          exact iteF ⟨j, _, rfl, rfl, hj, e⟩
      · have e0 : wd.drop j = [] := List.drop_eq_nil_of_le (by omega)
        rw [e0] at e ⊢
        rw [decide_eq_false (show ¬ List.take 1 ([] : List Nat) = [c] by intro z; cases z)]
        refine iteF ⟨j, _, rfl, rfl, hj, ?_⟩
        rw [e, e0]
        rw [rd, rd]
    case fin =>
      rintro σ H1 ⟨j, x3, rfl, rfl, hj, e⟩
      refine ⟨_, rfl, _, rfl, wd, rfl, by omega, rfl, ?_⟩
      rw [List.drop_length] at e
      have e2 : decide (V.int (j : Int) = V.int (wd.length : Int)) = rd wd l := by
        rw [e]
        by_cases hjl : j < wd.length
        · rw [List.drop_eq_getElem_cons hjl, rd, decide_eq_false]
          intro z
          injection z with z
          omega
        · have : j = wd.length := by omega
          rw [List.drop_eq_nil_of_le (by omega), rd, decide_eq_true]
          rw [this]
      show Q (.bl (decide (V.int (j : Int) = V.int (wd.length : Int)))) H1
      rw [e2]
      exact q
def sp_l_same (K : PySem.W.Frag) : Sp := fun vs H Q _ => ∃ (x y : V) (d : PyData), vs = [x, y] ∧ Dp K H x d ∧ Dp K H y d ∧ d.showable = true ∧ d.hasDict = false ∧ d.depth ≤ 60 ∧ d.shown.length ≤ sizeLine ∧ Q (.bl true) H
theorem ok_l_same (F : Facts fa fn K mg)  : Callee P w K mg base 1 "_law_same" p_l_same (sp_l_same K) := by
  refine F.callee 27 27 sc_l_same (fun vs H Q E h => ?_) (fun _ _ _ _ _ _ us hl => match us, hl with | [_, _], _ => rfl) (fun f cdv A outer t0 H vs Q E hg hr h => ?_)
  · obtain ⟨x, y, d, rfl, dx, dy, h1, h2, h3, h4, q⟩ := h
    rfl
  · obtain ⟨x, y, d, rfl, dx, dy, h1, h2, h3, h4, q⟩ := h
    refine ⟨_, (pss_one (ps_ret (pe_cmpR op_eqT (pe_callB (k_repr K hg hr.units) (by rfl) (F.free 41) (by decide +kernel) (pa_cons (pv 0) pa_nil)) (pe_callB (k_repr K hg hr.units) (by rfl) (F.free 41) (by decide +kernel) (pa_cons (pv 1) pa_nil)) (nomark _)))), ?_⟩
    obtain ⟨z, ez⟩ : ∃ z : List Nat, d.shown = tx z := ⟨TL.tl d.shown, (tx_tl _).symm⟩
    refine ⟨_, rfl, x, d, rfl, dx, h1, h2, h3, h4, _, rfl, y, d, rfl, dy, h1, h2, h3, h4, z, z, by rw [ez], by rw [ez], ?_⟩
    show Q (.bl (decide (z = z))) H
    rw [decide_eq_true rfl]
    exact q
end

end K79

set_option Elab.async false
set_option linter.all false
set_option maxRecDepth 100000
set_option maxHeartbeats 4000000
namespace K79
open PySem PySem.Spec PyProof.Rows L2 Sk
section
variable {P : Program} {w : World} {K : PySem.W.Frag} {mg : Str → Option Value} {base : Heap}
def sp_l_letters : Sp := fun vs H Q _ => ∃ (g : Addr) (lo hi n : Nat), vs = [.ref g, .int lo, .int hi] ∧ 1 ≤ lo ∧ lo ≤ hi ∧ hi ≤ 20 ∧ Gen (n + 110) H g ∧ ∀ (a : List Nat) H', Sk.IsAl a → lo ≤ a.length → a.length ≤ hi → But g H H' → Gen n H' g → Q (T a) H'
theorem ok_l_letters (F : Facts fa fn K mg) (c_l_size : Callee P w K mg base 3 "_law_size" p_l_size sp_l_size) (c_l_random : Callee P w K mg base 2 "_law_random" p_l_random sp_l_random) : Callee P w K mg base 4 "_law_letters" p_l_letters sp_l_letters := by
  refine F.callee 20 20 sc_l_letters (fun vs H Q E h => ?_) (fun _ _ _ _ _ _ us hl => match us, hl with | [_, _, _], _ => rfl) (fun f cdv A outer t0 H vs Q E hg hr h => ?_)
  · obtain ⟨g, lo, hi, n, rfl, h1, hlh, hhi, hG, q⟩ := h
    rfl
  · obtain ⟨g, lo, hi, n, rfl, h1, hlh, hhi, hG, q⟩ := h
    refine ⟨_, (pss_cons (ps_set (i := 3) sc_l_letters.nd rfl (by first | exact Or.inl rfl | exact Or.inr rfl) (pe_callTy (call_listT rfl) (by rfl) (F.free 37) (by decide +kernel) (pa_cons (pe_txt [97, 98, 99, 100, 101, 102, 103, 104, 105, 106, 107, 108, 109, 110, 111, 112, 113, 114, 115, 116, 117, 118, 119, 120, 121, 122]) pa_nil)))
      (pss_cons (ps_set (i := 4) sc_l_letters.nd rfl (by first | exact Or.inl rfl | exact Or.inr rfl) (pe_cal c_l_size hg (hr.mono (by decide)) (pa_cons (pv 0) (pa_cons (pv 1) (pa_cons (pv 2) pa_nil)))))
      (pss_one (ps_ret (k_bm K PySem.F.plainAttrs_str PySem.F.slot_str_join PySem.F.type_str_join (k_join K) (pe_txt []) (pa_cons (pe_callB (k_sort K) (by rfl) (F.free 42) (by decide +kernel) (pa_cons (pe_lc (own := [("_law_turn", 5)]) rfl sc_l_letters.nd (pi_range1 (by rfl) (F.free 40) (pa_cons (pv 4) pa_nil)) (blkOk_by (by kernel_rfl)) (fun _ _ _ _ _ => (pg_name (i := 5) sc_l_letters.nd rfl (by first | exact Or.inl rfl | exact Or.inr rfl))) (fun _ _ _ _ _ => pts_nil) (fun _ _ _ _ _ => (k_bm K PySem.F.plainAttrs_list PySem.F.slot_list_pop PySem.F.type_list_pop mt_popAt (pv 3) (pa_cons (pe_cal c_l_random hg (hr.mono (by decide)) (pa_cons (pv 0) (pa_cons (pe_callB (k_len K) (by rfl) (F.free 36) (by decide +kernel) (pa_cons (pv 3) pa_nil)) pa_nil))) pa_nil)))) pa_nil)) pa_nil)))))), ?_⟩
    -- _law_left = list('abc..')
    refine ⟨_, rfl, by decide, fun p np => ?_⟩
    have npg : p ≠ g := hG.ne np
    -- _law_many = _law_size(g, least, most)
    refine ⟨_, rfl, _, rfl, _, rfl, g, lo, hi, n + 105, rfl, by omega, by omega, hG.same (same_new np), fun m H1 m0 m1 b1 g1 => ?_⟩
    obtain ⟨m, rfl⟩ : ∃ k : Nat, m = (k : Int) := ⟨m.toNat, by omega⟩
    have e1 : H1 p = some (.lst (abcL.map fun c => T [c])) := b1 _ _ npg upd_same
    have bt1 : But g H H1 := (But.of (same_new np)).trans b1
    refine ⟨rfl, _, rfl, _, rfl, by omega, by omega, fun D hD => ?_⟩
    have nDg : D ≠ g := g1.ne hD
    have nDp : p ≠ D := ne_of_none e1 hD
    have nHD : H D = none := bt1.free nDg hD
    rw [Int.toNat_natCast]
    refine lc_it walk_range (fun i H2 => But g H H2 ∧ Gen (n + 105 - 5 * i) H2 g ∧ ∃ ls rem : List Nat, ls.length = i ∧ (ls ++ rem).Perm abcL ∧ H2 p = some (.lst (rem.map fun c => T [c])) ∧ H2 D = some (.lst (ls.map fun c => T [c]))) ?start (fun _ _ _ _ => trivial) ?turn ?fin
    case start => exact ⟨bt1.mut nHD, g1.same (same_new hD), [], abcL, rfl, List.Perm.refl _, by rw [upd_ne nDp]; exact e1, upd_same⟩
    case turn =>
      rintro i x H2 H3 hi ⟨b2, g2, ls, rem, hl, hp, ep, eD⟩ ⟨rfl, rfl⟩
      have hlen : rem.length = 26 - i := by
        have := hp.length_eq
        rw [List.length_append, hl] at this
        have h26 : abcL.length = 26 := rfl
        omega
      refine ⟨rfl, yes_ (iteT ?_)⟩
      refine ⟨_, rfl, .inl ⟨rfl, _, SqL.of ep⟩, _, rfl, _, rfl, p, _, rfl, SqL.of ep, g, _, n + 105 - 5 * (i + 1), rfl, by rw [List.length_map]; omega, b119 (by rw [List.length_map]; omega), g2.less (by omega), fun r H4 r0 r1 b4 g4 => ?_⟩
      rw [List.length_map] at r1
      obtain ⟨r, rfl⟩ : ∃ k : Nat, r = (k : Int) := ⟨r.toNat, by omega⟩
      have hr : r < rem.length := by omega
      have ep4 := b4 _ _ npg ep
      have eD4 := b4 _ _ nDg eD
      refine ⟨p, _, (r : Int), r, T [rem[r]], rfl, rfl, ep4, by omega, by omega, ?_, ?_, ?_⟩
      · rw [List.length_map]; exact seq_nat hr
      · rw [List.getElem?_map, List.getElem?_eq_getElem hr]; rfl
      rw [map_erase]
      refine ⟨_, by rw [upd_ne nDp.symm]; exact eD4, ?_, ?_, ?_, ls ++ [rem[r]], rem.eraseIdx r, by rw [List.length_append, hl]; rfl, ?_, ?_, ?_⟩
      · rw [List.length_map]; exact line_lt (by omega)
      · exact ((b2.trans b4).mut np).mut nHD
      · obtain ⟨x1, x2, x3, ex, rx⟩ := g4
        exact ⟨x1, x2, x3, by rw [upd_ne nDg.symm, upd_ne npg.symm]; exact ex, rx⟩
      · have h1 : (ls ++ [rem[r]] ++ rem.eraseIdx r).Perm (ls ++ rem) := by
          rw [List.append_assoc]
          exact (erase_perm rem r hr).append_left ls
        exact h1.trans hp
      · rw [upd_ne nDp, upd_same]
      · rw [upd_same, List.map_append]; rfl
    case fin =>
      rintro H2 ⟨b2, g2, ls, rem, hl, hp, ep, eD⟩
      have eT : (ls.map fun c => T [c]) = (ls.map fun c => [c]).map T := by rw [List.map_map]; rfl
      rw [eT] at eD
      -- sorted(..)
      refine ⟨D, _, rfl, SqL.of eD, by rw [List.length_map]; omega, fun ms a4 hpm hso na4 => ?_⟩
      obtain ⟨hal, hml⟩ := sorted_al hp hpm hso (by omega)
      have hms : (ms.map (·.length)).sum + ms.length * 0 ≤ 1000000 := by
        have := List.length_flatten (L := ms)
        show (ms.map List.length).sum + _ ≤ _
        omega
      refine ⟨_, a4, ms, rfl, rfl, SqL.of upd_same, hms, ?_⟩
      rw [joinL_nil]
      exact q _ _ hal (by omega) (by omega) (b2.new na4) (g2.same (same_new na4) |>.less (by omega))
end

section
variable {P : Program} {w : World} {K : PySem.W.Frag} {mg : Str → Option Value} {base : Heap}
theorem cutL_len (l : List Nat) (lo hi : Option Int) : (cutL l lo hi).length ≤ l.length := by
  unfold cutL
  rw [List.length_take, List.length_drop]
  omega
theorem cutL_mem {l : List Nat} {lo hi : Option Int} {c : Nat} (h : c ∈ cutL l lo hi) : c ∈ l := List.mem_of_mem_drop (List.mem_of_mem_take h)
def sp_l_near : Sp := fun vs H Q _ => ∃ (g : Addr) (a l : List Nat) (n : Nat), vs = [.ref g, T a, T l] ∧ a ≠ [] ∧ a.length ≤ 1000 ∧ l.length ≤ 1000 ∧ (∀ c ∈ l, c ∈ a) ∧ Gen (n + 15) H g ∧
  ∀ (t : List Nat) H', (∀ c ∈ t, c ∈ a) → t.length ≤ 4 * l.length + 1 → But g H H' → Gen n H' g → Q (T t) H'
theorem ok_l_near (F : Facts fa fn K mg) (c_l_random : Callee P w K mg base 2 "_law_random" p_l_random sp_l_random) : Callee P w K mg base 3 "_law_near" p_l_near sp_l_near := by
  refine F.callee 23 23 sc_l_near (fun vs H Q E h => ?_) (fun _ _ _ _ _ _ us hl => match us, hl with | [_, _, _], _ => rfl) (fun f cdv A outer t0 H vs Q E hg hr h => ?_)
  · obtain ⟨g, a, l, n, rfl, hne, ha, hl, hla, hG, q⟩ := h
    rfl
  · obtain ⟨g, a, l, n, rfl, hne, ha, hl, hla, hG, q⟩ := h
    refine ⟨_, (pss_cons (ps_par (i := 3) (j := 4) rfl sc_l_near.nd rfl rfl (by decide) rfl rfl (pa_cons (pe_cal c_l_random hg (hr.mono (by decide)) (pa_cons (pv 0) (pa_cons (pe_op op_add (pe_callB call_lenT (by rfl) (F.free 36) (by decide +kernel) (pa_cons (pv 2) pa_nil)) pe_int) pa_nil))) (pa_cons (pe_cal c_l_random hg (hr.mono (by decide)) (pa_cons (pv 0) (pa_cons pe_int pa_nil))) pa_nil)) rfl)
      (pss_cons (ps_set (i := 5) sc_l_near.nd rfl (by first | exact Or.inl rfl | exact Or.inr rfl) (pe_ix ix_txt (pv 1) (pe_cal c_l_random hg (hr.mono (by decide)) (pa_cons (pv 0) (pa_cons (pe_callB call_lenT (by rfl) (F.free 36) (by decide +kernel) (pa_cons (pv 1) pa_nil)) pa_nil))) (fun _ _ => rfl)))
      (pss_cons (ps_if (pt_cmpR op_eq (pv 4) pe_int (nomark _)) (pss_one (ps_ret (pe_op op_addT (pe_op op_addT (pe_slice sl_txt (pv 2) po_none (po_some (pv 3))) (pv 5)) (pe_slice sl_txt (pv 2) (po_some (pv 3)) po_none))))
      pss_nil)
      (pss_cons (ps_if (pt_cmpR op_eq (pv 4) pe_int (nomark _)) (pss_one (ps_ret (pe_op op_addT (pe_slice sl_txt (pv 2) po_none (po_some (pv 3))) (pe_slice sl_txt (pv 2) (po_some (pe_op op_add (pv 3) pe_int)) po_none))))
      pss_nil)
      (pss_cons (ps_if (pt_cmpR op_eq (pv 4) pe_int (nomark _)) (pss_one (ps_ret (pe_op op_addT (pe_op op_addT (pe_op op_addT (pe_slice sl_txt (pv 2) po_none (po_some (pv 3))) (pe_slice sl_txt (pv 2) (po_some (pe_op op_add (pv 3) pe_int)) (po_some (pe_op op_add (pv 3) pe_int)))) (pe_slice sl_txt (pv 2) (po_some (pv 3)) (po_some (pe_op op_add (pv 3) pe_int)))) (pe_slice sl_txt (pv 2) (po_some (pe_op op_add (pv 3) pe_int)) po_none))))
      pss_nil)
      (pss_cons (ps_if (pt_cmpR op_eq (pv 4) pe_int (nomark _)) (pss_one (ps_ret (pe_op op_addT (pe_op op_addT (pe_slice sl_txt (pv 2) po_none (po_some (pv 3))) (pv 5)) (pe_slice sl_txt (pv 2) (po_some (pe_op op_add (pv 3) pe_int)) po_none))))
      pss_nil)
      (pss_one (ps_ret (pe_revT (pv 2)))))))))), ?_⟩
    -- at, way = random(g, len(text) + 1), random(g, 5)
    refine ⟨_, rfl, _, rfl, l, rfl, by omega, _, _, rfl, rfl, g, _, n + 10, rfl, by omega, b119 (by omega), hG, fun at_ H1 r0 r1 b1 g1 => ?_⟩
    refine ⟨_, rfl, g, 5, n + 5, rfl, by decide, by decide, g1, fun way H2 w0 w1 b2 g2 => ?_⟩
    refine ⟨_, _, rfl, ?_⟩
    have hapos : 1 ≤ a.length := by
      cases a with
      | nil => exact absurd rfl hne
      | cons x r => simp
    -- letter = letters[random(g, len(letters))]
    refine ⟨_, rfl, _, rfl, _, rfl, a, rfl, by omega, g, _, n, rfl, by omega, b119 (by omega), g2, fun r H3 z0 z1 b3 g3 => ?_⟩
    obtain ⟨r, rfl⟩ : ∃ k : Nat, r = (k : Int) := ⟨r.toNat, by omega⟩
    have hr : r < a.length := by omega
    refine ⟨a, (r : Int), a[r], rfl, rfl, by omega, atI_nat (List.getElem?_eq_getElem hr), ?_⟩
    have hcm : a[r] ∈ a := List.getElem_mem hr
    generalize a[r] = c at hcm
    have b4 : But g H H3 := b1.trans (b2.trans b3)
    have fin : ∀ t : List Nat, (∀ x ∈ t, x ∈ a) → t.length ≤ 4 * l.length + 1 → Q (T t) H3 := fun t h1 h2 => q t H3 h1 h2 b4 g3
    have cl := cutL_len l
    have cm : ∀ (lo hi : Option Int) (x : Nat), x ∈ cutL l lo hi → x ∈ a := fun lo hi x hx => hla x (cutL_mem hx)
    have cc : ∀ x ∈ [c], x ∈ a := fun x hx => by rw [List.mem_singleton.mp hx]; exact hcm
    have ap : ∀ {x y : List Nat}, (∀ z ∈ x, z ∈ a) → (∀ z ∈ y, z ∈ a) → ∀ z ∈ x ++ y, z ∈ a := fun h1 h2 z hz => (List.mem_append.mp hz).elim (h1 z) (h2 z)
    -- if way == 0:
    refine ⟨_, rfl, rfl, _, rfl, ite2 (fun h => ?_) (fun h => ?_)⟩
    · refine ⟨_, rfl, _, rfl, _, rfl, l, rfl, by omega, _, rfl, _, _, rfl, rfl, ?_, _, rfl, _, rfl, _, rfl, l, rfl, by omega, _, _, rfl, rfl, ?_, ?_⟩
      · have := cl none (some at_); simp; omega
      · have := cl none (some at_); have := cl (some at_) none; simp; omega
      · exact fin _ (ap (ap (cm _ _) cc) (cm _ _)) (by have := cl none (some at_); have := cl (some at_) none; simp; omega)
    refine ⟨_, rfl, rfl, _, rfl, ite2 (fun h => ?_) (fun h => ?_)⟩
    · refine ⟨_, rfl, _, rfl, _, rfl, l, rfl, by omega, _, rfl, _, rfl, _, _, rfl, rfl, _, rfl, l, rfl, by omega, _, _, rfl, rfl, ?_, ?_⟩
      · have := cl none (some at_); have := cl (some (at_ + 1)) none; omega
      · exact fin _ (ap (cm _ _) (cm _ _)) (by have := cl none (some at_); have := cl (some (at_ + 1)) none; simp; omega)
    refine ⟨_, rfl, rfl, _, rfl, ite2 (fun h => ?_) (fun h => ?_)⟩
    · have c1 := cl none (some at_)
      have c2 := cl (some (at_ + 1)) (some (at_ + 2))
      have c3 := cl (some at_) (some (at_ + 1))
      have c4 := cl (some (at_ + 2)) none
      refine ⟨_, rfl, _, rfl, _, rfl, l, rfl, by omega, _, rfl, _, rfl, _, _, rfl, rfl, _, rfl, _, rfl, _, _, rfl, rfl, _, rfl, l, rfl, by omega, _, _, rfl, rfl, ?_, _, rfl, _, rfl, _, rfl, _, rfl, _, _, rfl, rfl, _, rfl, l, rfl, by omega, _, _, rfl, rfl, ?_, _, rfl, _, rfl, _, _, rfl, rfl, _, rfl, l, rfl, by omega, _, _, rfl, rfl, ?_, ?_⟩
      · omega
      · rw [List.length_append]; omega
      · rw [List.length_append, List.length_append]; omega
      · exact fin _ (ap (ap (ap (cm _ _) (cm _ _)) (cm _ _)) (cm _ _)) (by rw [List.length_append, List.length_append, List.length_append]; omega)
    refine ⟨_, rfl, rfl, _, rfl, ite2 (fun h => ?_) (fun h => ?_)⟩
    · have c1 := cl none (some at_)
      have c2 := cl (some (at_ + 1)) none
      refine ⟨_, rfl, _, rfl, _, rfl, l, rfl, by omega, _, rfl, _, _, rfl, rfl, ?_, _, rfl, _, rfl, _, _, rfl, rfl, _, rfl, l, rfl, by omega, _, _, rfl, rfl, ?_, ?_⟩
      · simp; omega
      · rw [List.length_append]; simp; omega
      · exact fin _ (ap (ap (cm _ _) cc) (cm _ _)) (by rw [List.length_append, List.length_append]; simp; omega)
    refine ⟨_, rfl, l, rfl, by omega, ?_⟩
    exact fin _ (fun x hx => hla x (List.mem_reverse.mp hx)) (by rw [List.length_reverse]; omega)
end

end K79

set_option Elab.async false
set_option linter.all false
set_option maxRecDepth 100000
set_option maxHeartbeats 4000000
namespace K79
open PySem PySem.Spec PyProof.Rows L2 Sk
section
variable {P : Program} {w : World} {K : PySem.W.Frag} {mg : Str → Option Value} {base : Heap}
def sp_l_longer : Sp := fun vs H Q _ => ∃ (pw pl : Addr) (ws : List (List Nat)) (L u : List Nat), vs = [.ref pw, .ref pl, T u] ∧ H pw = some (.lst (ws.map T)) ∧ H pl = some (.lst (L.map fun c => T [c])) ∧ (∀ x ∈ ws, x.length ≤ 1000) ∧ u.length ≤ 100000 ∧ ws.length * L.length ≤ 100000 ∧ ws.length ≤ 100000 ∧ L.length ≤ 1000 ∧
  ∀ H' p, Same H H' → H p = none → H' p = some (.lst ((lgr ws L u).map T)) → Q (.ref p) H'
theorem ok_l_longer (F : Facts fa fn K mg) (c_l_is_read : Callee P w K mg base 1 "_law_is_read" p_l_is_read sp_l_is_read) : Callee P w K mg base 2 "_law_longer" p_l_longer sp_l_longer := by
  refine F.callee 25 25 sc_l_longer (fun vs H Q E h => ?_) (fun _ _ _ _ _ _ us hl => match us, hl with | [_, _, _], _ => rfl) (fun f cdv A outer t0 H vs Q E hg hr h => ?_)
  · obtain ⟨pw, pl, ws, L, u, rfl, ew, el, hws, hu, hm, hw5, hL, q⟩ := h
    rfl
  · obtain ⟨pw, pl, ws, L, u, rfl, ew, el, hws, hu, hm, hw5, hL, q⟩ := h
    refine ⟨_, (pss_cons (ps_set (i := 3) sc_l_longer.nd rfl (by first | exact Or.inl rfl | exact Or.inr rfl) (pe_lst pa_nil))
      (pss_cons (ps_for PassesOwn.never rfl (k_pil K (pv 0)) (pg_name (i := 4) sc_l_longer.nd rfl (by first | exact Or.inl rfl | exact Or.inr rfl))
      (pss_one (ps_set (i := 3) sc_l_longer.nd rfl (by first | exact Or.inl rfl | exact Or.inr rfl) (pe_op op_cat (pv 3) (pe_lc (own := [("_law_letter", 5)]) rfl sc_l_longer.nd (k_pil K (pv 1)) (blkOk_by (by kernel_rfl)) (fun _ _ _ _ _ => (pg_name (i := 5) sc_l_longer.nd rfl (by first | exact Or.inl rfl | exact Or.inr rfl))) (fun _ _ _ _ _ => (pts_one (pt_val (pe_cal c_l_is_read hg (hr.mono (by decide)) (pa_cons (pe_op op_addT (pv 4) (pv 5)) (pa_cons (pv 2) pa_nil)))))) (fun _ _ _ _ _ => (pe_op op_addT (pv 4) (pv 5))))))))
      (pss_one (ps_ret (pv 3))))), ?_⟩
    -- found = []
    refine ⟨Nat.zero_le _, fun a1 na1 => ?_⟩
    -- for word in words:
    refine ⟨_, rfl, pw, rfl, ⟨_, SqL.of ((same_new na1) _ _ ew)⟩, for_it (walk_list (xs := ws.map T)) (fun j σ H3 => ∃ (pf : Addr) (x4 x5 : Option V), σ = [some (.ref pw), some (.ref pl), some (T u), some (.ref pf), x4, x5] ∧ Same H H3 ∧ H pf = none ∧ H3 pf = some (.lst ((lgr (ws.take j) L u).map T))) ?start ?G ?turn ?fin⟩
    case start => exact ⟨a1, none, none, rfl, same_new na1, na1, upd_same⟩
    case G =>
      rintro j σ H3 _ ⟨pf, x4, x5, rfl, s3, n3, e3⟩
      exact SqL.of (s3 _ _ ew)
    case turn =>
      rintro j x σ H3 H4 hj ⟨pf, x4, x5, rfl, s3, n3, e3⟩ ⟨rfl, hx⟩
      rw [List.length_map] at hj
      have hwj : ws[j]? = some ws[j] := List.getElem?_eq_getElem hj
      rw [List.getElem?_map, hwj] at hx
      have hx : T ws[j] = x := Option.some.inj hx
      subst hx
      have hwl := hws _ (List.getElem_mem hj)
      refine ⟨_, rfl, _, rfl, pl, rfl, ⟨_, SqL.of (s3 _ _ el)⟩, fun D hD => ?_⟩
      refine lc_pure (walk_list (xs := L.map fun c => T [c])) (fun m => (L[m]?).bind fun c => if rd (ws[j] ++ [c]) u = true then some (T (ws[j] ++ [c])) else none) hD (fun H5 s5 => SqL.of (s5 _ _ (s3 _ _ el))) (by rw [List.length_map]; omega) (fun m y H5 H6 Qk Nk hm' s5 hy hk hn => ?_) (fun H5 s5 e5 => ?_)
      · obtain ⟨rfl, hy⟩ := hy
        rw [List.length_map] at hm'
        have hLm : L[m]? = some L[m] := List.getElem?_eq_getElem hm'
        rw [List.getElem?_map, hLm] at hy
        have hy : T [L[m]] = y := Option.some.inj hy
        subst hy
        refine ⟨rfl, _, rfl, _, rfl, _, _, rfl, rfl, by simp; omega, _, rfl, _, u, rfl, by simp; omega, hu, _, rfl, ?_⟩
        cases hrd : rd (ws[j] ++ [L[m]]) u with
        | true => exact iteT ⟨_, rfl, _, rfl, _, _, rfl, rfl, by simp; omega, hk _ _ (by simp [hLm, hrd]) (Same.refl _)⟩
        | false => exact iteF (hn _ (by simp [hLm, hrd]) (Same.refl _))
      · rw [List.length_map, fm_if] at e5
        have hl1 := lgr_len (ws.take j) L u
        have hl2 := List.length_filter_le (fun c => rd (ws[j] ++ [c]) u) L
        have hle : (ws.take j).length * L.length ≤ 100000 := Nat.le_trans (Nat.mul_le_mul_right _ (by rw [List.length_take]; omega)) hm
        refine ⟨pf, D, _, _, rfl, rfl, s5 _ _ e3, e5, ?_, fun a3 na3 => ?_⟩
        · rw [List.length_map, List.length_map]; exact line_ok (by omega)
        refine ⟨a3, _, _, rfl, snew (s3.trans s5) na3, (s3.trans s5).free na3, ?_⟩
        rw [upd_same, List.take_add_one, hwj, Option.toList_some, lgr_snoc, List.map_append, List.map_map]
        rfl
    case fin =>
      rintro σ H3 ⟨pf, x4, x5, rfl, s3, n3, e3⟩
      rw [List.length_map, List.take_length] at e3
      exact ⟨_, rfl, q _ pf s3 n3 e3⟩
/-- so few words that all can be listed -/
def Few (d : Nat) (u : List Nat) : Prop := min d u.length ≤ 12 ∧ ∀ k, k ≤ min d u.length → (lets u).length ^ k ≤ 40000
def sp_l_reads : Sp := fun vs H Q _ => ∃ (d : Nat) (u : List Nat), vs = [.int d, T u] ∧ u.length ≤ 10000 ∧ Few d u ∧ ∀ H' p, Same H H' → H p = none → H' p = some (.lst ((readsF d u).map T)) → Q (.ref p) H'
theorem ok_l_reads (F : Facts fa fn K mg) (c_l_longer : Callee P w K mg base 2 "_law_longer" p_l_longer sp_l_longer) : Callee P w K mg base 3 "_law_reads" p_l_reads sp_l_reads := by
  refine F.callee 26 26 sc_l_reads (fun vs H Q E h => ?_) (fun _ _ _ _ _ _ us hl => match us, hl with | [_, _], _ => rfl) (fun f cdv A outer t0 H vs Q E hg hr h => ?_)
  · obtain ⟨d, u, rfl, hu, hfew, q⟩ := h
    rfl
  · obtain ⟨d, u, rfl, hu, hfew, q⟩ := h
    refine ⟨_, (pss_cons (ps_par3 (i := 2) (j := 3) (l := 4) rfl sc_l_reads.nd rfl rfl rfl (by decide) (by decide) (by decide) rfl rfl rfl (pa_cons (pe_lst (pa_cons (pe_txt []) pa_nil)) (pa_cons (pe_lst (pa_cons (pe_txt []) pa_nil)) (pa_cons (pe_lc (own := [("_law_letter", 6)]) rfl sc_l_reads.nd (pi_str (pe_txt [97, 98, 99, 100, 101, 102, 103, 104, 105, 106, 107, 108, 109, 110, 111, 112, 113, 114, 115, 116, 117, 118, 119, 120, 121, 122])) (blkOk_by (by kernel_rfl)) (fun _ _ _ _ _ => (pg_name (i := 6) sc_l_reads.nd rfl (by first | exact Or.inl rfl | exact Or.inr rfl))) (fun _ _ _ _ _ => (pts_one (pt_cmpR op_inT (pv 6) (pv 1) rfl))) (fun _ _ _ _ _ => (pv 6))) pa_nil))) rfl)
      (pss_cons (ps_for PassesOwn.never rfl (pi_range1 (by rfl) (F.free 40) (pa_cons (pe_callB (call_min2 rfl) (by rfl) (F.free 39) (by decide +kernel) (pa_cons (pv 0) (pa_cons (pe_callB call_lenT (by rfl) (F.free 36) (by decide +kernel) (pa_cons (pv 1) pa_nil)) pa_nil))) pa_nil)) (pg_name (i := 5) sc_l_reads.nd rfl (by first | exact Or.inl rfl | exact Or.inr rfl))
      (pss_cons (ps_set (i := 2) sc_l_reads.nd rfl (by first | exact Or.inl rfl | exact Or.inr rfl) (pe_cal c_l_longer hg (hr.mono (by decide)) (pa_cons (pv 2) (pa_cons (pv 4) (pa_cons (pv 1) pa_nil)))))
      (pss_one (ps_set (i := 3) sc_l_reads.nd rfl (by first | exact Or.inl rfl | exact Or.inr rfl) (pe_op op_cat (pv 3) (pv 2))))))
      (pss_one (ps_ret (pv 3))))), ?_⟩
    obtain ⟨hk12, hpow⟩ := hfew
    -- level, found, letters = [""], [""], [letter for letter in "abc.." if letter in text]
    refine ⟨by show 1 ≤ sizeLine; decide, fun a1 na1 => ?_⟩
    refine ⟨by show 1 ≤ sizeLine; decide, fun a2 na2 => ?_⟩
    have e1 : upd H a1 (.lst [T []]) a1 = some (.lst [T []]) := upd_same
    have e12 := (same_new (o := HO.lst [T []]) na2) _ _ e1
    have e2 : upd (upd H a1 (.lst [T []])) a2 (.lst [T []]) a2 = some (.lst [T []]) := upd_same
    have s2 : Same H (upd (upd H a1 (.lst [T []])) a2 (.lst [T []])) := snew (same_new na1) na2
    have n2 : H a2 = none := (same_new na1).free na2
    generalize upd (upd H a1 (.lst [T []])) a2 (.lst [T []]) = H2 at *
    refine ⟨_, rfl, fun D hD => ?_⟩
    refine lc_pure walk_txt (fun m => (abcL[m]?).bind fun c => if decide (c ∈ u) = true then some (T [c]) else none) hD (fun _ _ => trivial) (by decide) (fun m y H5 H6 Qk Nk hm s5 hy hk hn => ?_) (fun H3 s3 e3 => ?_)
    · obtain ⟨rfl, c, hc, rfl⟩ := hy
      have hc' : abcL[m]? = some c := hc
      refine ⟨rfl, _, rfl, _, rfl, c, u, rfl, rfl, _, rfl, ?_⟩
      by_cases hm' : c ∈ u
      · rw [show (if false = true then !decide (c ∈ u) else decide (c ∈ u)) = true by rw [decide_eq_true hm']; rfl]
        exact iteT ⟨_, rfl, hk _ _ (by rw [hc']; simp [hm']) (Same.refl _)⟩
      · rw [show (if false = true then !decide (c ∈ u) else decide (c ∈ u)) = false by rw [decide_eq_false hm']; rfl]
        exact iteF (hn _ (by rw [hc']; simp [hm']) (Same.refl _))
    have e3 : H3 D = some (.lst ((lets u).map fun c => T [c])) := by
      rw [e3]
      congr 2
      exact fm_if abcL (fun c => decide (c ∈ u)) fun c => T [c]
    have nD : H D = none := s2.free hD
    refine ⟨_, _, _, rfl, ?_⟩
    have hmin : (if (u.length : Int) < (d : Int) then (u.length : Int) else (d : Int)) = ((min d u.length : Nat) : Int) := by
      split <;> omega
    have hLl : (lets u).length ≤ 26 := by
      unfold lets
      exact List.length_filter_le _ _
    -- for size in range(min(depth, len(text))):
    refine ⟨_, rfl, _, rfl, u, rfl, by omega, _, _, rfl, _, rfl, ?_⟩
    rw [hmin]
    refine ⟨by omega, by omega, for_it walk_range (fun i σ H4 => ∃ (pl pf : Addr) (x5 x6 : Option V), σ = [some (.int d), some (T u), some (.ref pl), some (.ref pf), some (.ref D), x5, x6] ∧ Same H H4 ∧ H4 D = some (.lst ((lets u).map fun c => T [c])) ∧ H4 pl = some (.lst ((lvl (lets u) u i).map T)) ∧ H pf = none ∧ H4 pf = some (.lst (((List.range (i + 1)).flatMap fun k => lvl (lets u) u k).map T)) ∧ ((List.range (i + 1)).flatMap fun k => lvl (lets u) u k).length ≤ 40000 * (i + 1)) ?start (fun _ _ _ _ _ => trivial) ?turn ?fin⟩
    case start =>
      have l0 : lvl (lets u) u 0 = [[]] := by
        unfold lvl
        show List.filter _ [[]] = _
        rw [List.filter_cons_of_pos (by unfold rd; rfl)]
        rfl
      refine ⟨a1, a2, none, none, rfl, s2.trans s3, e3, ?_, n2, ?_, ?_⟩
      · rw [l0]; exact s3 _ _ e12
      · show H3 a2 = some (.lst ((lvl (lets u) u 0 ++ []).map T))
        rw [l0]; exact s3 _ _ e2
      · show (lvl (lets u) u 0 ++ []).length ≤ _
        rw [l0]; decide
    case turn =>
      rintro i x σ H4 H5 hi ⟨pl, pf, x5, x6, rfl, s4, eD, el, nf, ef, hfl⟩ ⟨rfl, rfl⟩
      rw [Int.toNat_natCast] at hi
      have hl1 := lvl_len (lets u) u i
      have hp1 := hpow i (by omega)
      have hp2 := hpow (i + 1) (by omega)
      rw [Nat.pow_succ] at hp2
      have hmul : (lvl (lets u) u i).length * (lets u).length ≤ 40000 := Nat.le_trans (Nat.mul_le_mul_right _ hl1) hp2
      -- level = longer(level, letters, text)
      refine ⟨_, rfl, _, rfl, _, rfl, pl, D, _, lets u, u, rfl, el, eD, fun y hy => ?_, by omega, by omega, by omega, by omega, fun H6 p6 s6 n6 e6 => ?_⟩
      · have := (mem_lvl.mp hy).1
        omega
      rw [lvl_succ] at e6
      have hl2 := lvl_len (lets u) u (i + 1)
      have hp3 := hpow (i + 1) (by omega)
      -- found = found + level
      refine ⟨_, rfl, _, rfl, pf, p6, _, _, rfl, rfl, s6 _ _ ef, e6, ?_, fun a7 na7 => ?_⟩
      · rw [List.length_map, List.length_map]; exact line_ok (by omega)
      have s7 := snew (o := HO.lst ((((List.range (i + 1)).flatMap fun k => lvl (lets u) u k).map T) ++ (lvl (lets u) u (i + 1)).map T)) s6 na7
      refine ⟨p6, a7, _, _, rfl, s4.trans s7, s7 _ _ eD, ?_, (s4.trans s6).free na7, ?_, ?_⟩
      · rw [upd_ne (ne_of_none e6 na7)]; exact e6
      · rw [upd_same, List.range_succ (n := i + 1), List.flatMap_append, List.map_append, List.flatMap_cons, List.flatMap_nil, List.append_nil]
      · rw [List.range_succ (n := i + 1), List.flatMap_append, List.length_append, List.flatMap_cons, List.flatMap_nil, List.append_nil]
        omega
    case fin =>
      rintro σ H4 ⟨pl, pf, x5, x6, rfl, s4, eD, el, nf, ef, hfl⟩
      rw [Int.toNat_natCast] at ef
      exact ⟨_, rfl, q _ pf s4 nf ef⟩
end

end K79

set_option Elab.async false
set_option linter.all false
set_option maxRecDepth 100000
set_option maxHeartbeats 4000000
namespace K79
open PySem PySem.Spec PyProof.Rows L2 Sk
section
variable {P : Program} {w : World} {K : PySem.W.Frag} {mg : Str → Option Value} {base : Heap}
theorem few_of {d : Nat} {a u : List Nat} (hd : d ≤ 4) (ha : a.length ≤ 6) (hu : ∀ c ∈ u, c ∈ a) : Few d u := by
  refine ⟨by omega, fun k hk => ?_⟩
  have h1 := lets_len hu
  have h2 : (lets u).length ^ k ≤ 6 ^ k := Nat.pow_le_pow_left (by omega) k
  have h3 : 6 ^ k ≤ 6 ^ 4 := Nat.pow_le_pow_right (by decide) (by omega)
  have h4 : (6 : Nat) ^ 4 ≤ 40000 := by decide
  omega
def sp_l_alike : Sp := fun vs H Q _ => ∃ (g : Addr) (a : List Nat) (d : Nat) (u : List Nat) (m n : Nat), vs = [.ref g, T a, .int d, T u, .int m] ∧ a ≠ [] ∧ a.length ≤ 6 ∧ (∀ c ∈ a, c ∈ abcL) ∧ d ≤ 4 ∧ (∀ c ∈ u, c ∈ a) ∧ u.length ≤ 100 ∧ m ≤ 100 ∧ Gen (n + 200) H g ∧
  ∀ (t : List Nat) H', (∀ c ∈ t, c ∈ a) → t.length ≤ u.length + m → Alike d u t → But g H H' → Gen n H' g → Q (T t) H'
theorem ok_l_alike (F : Facts fa fn K mg) (c_l_reads : Callee P w K mg base 3 "_law_reads" p_l_reads sp_l_reads) (c_l_near : Callee P w K mg base 3 "_law_near" p_l_near sp_l_near) : Callee P w K mg base 4 "_law_alike" p_l_alike sp_l_alike := by
  refine F.callee 28 28 sc_l_alike (fun vs H Q E h => ?_) (fun _ _ _ _ _ _ us hl => match us, hl with | [_, _, _, _, _], _ => rfl) (fun f cdv A outer t0 H vs Q E hg hr h => ?_)
  · obtain ⟨g, a, d, u, m, n, rfl, hne, ha, hab, hd, hu, hul, hm, hG, q⟩ := h
    rfl
  · obtain ⟨g, a, d, u, m, n, rfl, hne, ha, hab, hd, hu, hul, hm, hG, q⟩ := h
    refine ⟨_, (pss_cons (ps_par (i := 5) (j := 6) rfl sc_l_alike.nd rfl rfl (by decide) rfl rfl (pa_cons (pe_cal c_l_reads hg (hr.mono (by decide)) (pa_cons (pv 2) (pa_cons (pv 3) pa_nil))) (pa_cons (pv 3) pa_nil)) rfl)
      (pss_cons (ps_for PassesOwn.never rfl (pi_range1 (by rfl) (F.free 40) (pa_cons pe_int pa_nil)) (pg_name (i := 7) sc_l_alike.nd rfl (by first | exact Or.inl rfl | exact Or.inr rfl))
      (pss_cons (ps_set (i := 8) sc_l_alike.nd rfl (by first | exact Or.inl rfl | exact Or.inr rfl) (pe_cal c_l_near hg (hr.mono (by decide)) (pa_cons (pv 0) (pa_cons (pv 1) (pa_cons (pv 6) pa_nil)))))
      (pss_one (ps_if (PW.pt (pw_and (pt_cmpR op_le (pe_callB call_lenT (by rfl) (F.free 36) (by decide +kernel) (pa_cons (pv 8) pa_nil)) (pv 4) (nomark _)) (pw_and1 (pt_cmpR (k_eq K hr.units) (pe_cal c_l_reads hg (hr.mono (by decide)) (pa_cons (pv 2) (pa_cons (pv 8) pa_nil))) (pv 5) (nomark _))))) (pss_one (ps_set (i := 6) sc_l_alike.nd rfl (by first | exact Or.inl rfl | exact Or.inr rfl) (pv 8)))
      pss_nil))))
      (pss_one (ps_ret (pv 6))))), ?_⟩
    have hub : ∀ c ∈ u, c ∈ abcL := fun c hc => hab c (hu c hc)
    -- due, now = _law_reads(depth, text), text
    refine ⟨_, rfl, _, rfl, d, u, rfl, by omega, few_of hd ha hu, fun H1 pd s1 n1 e1 => ?_⟩
    have g1 := hG.same s1
    have ndg : pd ≠ g := hG.ne n1
    refine ⟨_, rfl, _, _, rfl, ?_⟩
    -- for turn in range(9):
    refine ⟨_, rfl, by omega, by omega, for_it walk_range (fun i σ H2 => ∃ (t : List Nat) (x7 x8 : Option V), σ = [some (.ref g), some (T a), some (.int d), some (T u), some (.int m), some (.ref pd), some (T t), x7, x8] ∧ But g H1 H2 ∧ Gen (n + 200 - 15 * i) H2 g ∧ (∀ c ∈ t, c ∈ a) ∧ t.length ≤ u.length + m ∧ Alike d u t) ?start (fun _ _ _ _ _ => trivial) ?turn ?fin⟩
    case start => exact ⟨u, none, none, rfl, But.refl _ _, g1, hu, by omega, Alike.refl d u⟩
    case turn =>
      rintro i x σ H2 H3 hi ⟨t, x7, x8, rfl, b2, g2, ht, htl, hal⟩ ⟨rfl, rfl⟩
      have hi9 : i < 9 := hi
      -- near = _law_near(g, letters, now)
      refine ⟨_, rfl, _, rfl, _, rfl, g, a, t, n + 200 - 15 * (i + 1), rfl, hne, by omega, by omega, ht, g2.less (by omega), fun y H5 hy hyl b5 g5 => ?_⟩
      -- if len(near) <= most and _law_reads(depth, near) == due:
      refine ⟨_, rfl, y, rfl, by omega, _, rfl, _, _, rfl, rfl, _, rfl, ?_⟩
      by_cases hle : y.length ≤ m
      · rw [decide_eq_true (show (y.length : Int) ≤ (m : Int) by omega)]
        refine iteT ⟨_, rfl, _, rfl, d, y, rfl, by omega, few_of hd ha hy, fun H6 p6 s6 n6 e6 => ?_⟩
        have hyb : ∀ c ∈ y, c ∈ abcL := fun c hc => hab c (hy c hc)
        refine ⟨_, rfl, eq_texts (SqL.of e6) (SqL.of (s6 _ _ (b5 _ _ ndg (b2 _ _ ndg e1)))) (reads_low hyb) (reads_low hub) ⟨_, rfl, ?_⟩⟩
        rw [reads_alk hyb hub]
        have b6 : But g H1 H6 := b2.trans (b5.trans (But.of s6))
        have g6 := g5.same s6
        cases hk : alk d y u with
        | true => exact iteT ⟨_, rfl, y, _, _, rfl, b6, g6, hy, by omega, (alk_iff.mp hk).symm⟩
        | false => exact iteF ⟨t, _, _, rfl, b6, g6, ht, htl, hal⟩
      · rw [decide_eq_false (show ¬ (y.length : Int) ≤ (m : Int) by omega)]
        exact iteF (iteF ⟨t, _, _, rfl, b2.trans b5, g5, ht, htl, hal⟩)
    case fin =>
      rintro σ H2 ⟨t, x7, x8, rfl, b2, g2, ht, htl, hal⟩
      exact ⟨_, rfl, q t H2 ht htl hal ((But.of s1).trans b2) (g2.less (by omega))⟩
end

end K79

set_option Elab.async false
set_option linter.all false
set_option maxRecDepth 100000
set_option maxHeartbeats 4000000
namespace K79
open PySem PySem.Spec PyProof.Rows L2 Sk
section
variable {P : Program} {w : World} {K : PySem.W.Frag} {mg : Str → Option Value} {base : Heap}
def grow (a : List Nat) (ws : List (List Nat)) : List (List Nat) := ws.flatMap fun x => a.map fun c => x ++ [c]
theorem grow_len (a : List Nat) (ws : List (List Nat)) : (grow a ws).length = ws.length * a.length := by
  unfold grow
  rw [List.length_flatMap]
  simp only [List.length_map]
  rw [List.map_const', List.sum_replicate_nat]
def sp_l_first_alike : Sp := fun vs H Q _ => ∃ (a : List Nat) (d : Nat) (u : List Nat), vs = [.int d, T u] ∧ a.length ≤ 3 ∧ (∀ c ∈ a, c ∈ abcL) ∧ d ≤ 4 ∧ (∀ c ∈ u, c ∈ a) ∧ u.length ≤ 7 ∧ ∀ v H', Same H H' → NF d u v → Q (T v) H'
theorem ok_l_first_alike (F : Facts fa fn K mg) (c_l_reads : Callee P w K mg base 3 "_law_reads" p_l_reads sp_l_reads) : Callee P w K mg base 4 "_law_first_alike" p_l_first_alike sp_l_first_alike := by
  refine F.callee 29 29 sc_l_first_alike (fun vs H Q E h => ?_) (fun _ _ _ _ _ _ us hl => match us, hl with | [_, _], _ => rfl) (fun f cdv A outer t0 H vs Q E hg hr h => ?_)
  · obtain ⟨a, d, u, rfl, ha, hab, hd, hu, hul, q⟩ := h
    rfl
  · obtain ⟨a, d, u, rfl, ha, hab, hd, hu, hul, q⟩ := h
    refine ⟨_, (pss_cons (ps_setLc (i := 2) (own := [("_law_letter", 9)]) rfl sc_l_first_alike.nd rfl rfl (sw_true rfl rfl rfl (by decide +kernel)) (pi_str (pe_txt [97, 98, 99, 100, 101, 102, 103, 104, 105, 106, 107, 108, 109, 110, 111, 112, 113, 114, 115, 116, 117, 118, 119, 120, 121, 122])) (blkOk_by (by kernel_rfl)) (fun _ _ _ _ _ => (pg_name (i := 9) sc_l_first_alike.nd rfl (by first | exact Or.inl rfl | exact Or.inr rfl))) (fun _ _ _ _ _ => (pts_one (pt_cmpR op_inT (pv 9) (pv 1) rfl))) (fun _ _ _ _ _ => (pv 9)))
      (pss_cons (ps_asg (pe_tup (pa_cons (pe_cal c_l_reads hg (hr.mono (by decide)) (pa_cons (pv 0) (pa_cons (pv 1) pa_nil))) (pa_cons (pe_lst (pa_cons (pe_txt []) pa_nil)) pa_nil))) (k_tup (n := 2) K rfl (pgs_cons (pg_name (i := 3) sc_l_first_alike.nd rfl (by first | exact Or.inl rfl | exact Or.inr rfl)) (pgs_cons (pg_name (i := 4) sc_l_first_alike.nd rfl (by first | exact Or.inl rfl | exact Or.inr rfl)) pgs_nil))))
      (pss_cons (ps_for PassesOwn.never rfl (pi_range1 (by rfl) (F.free 40) (pa_cons (pe_op op_add (pe_callB call_lenT (by rfl) (F.free 36) (by decide +kernel) (pa_cons (pv 1) pa_nil)) pe_int) pa_nil)) (pg_name (i := 5) sc_l_first_alike.nd rfl (by first | exact Or.inl rfl | exact Or.inr rfl))
      (pss_cons (ps_setLc (i := 6) (own := [("_law_near_here", 8)]) rfl sc_l_first_alike.nd rfl rfl (sw_true rfl rfl rfl (by decide +kernel)) (k_pil K (pv 4)) (blkOk_by (by kernel_rfl)) (fun _ _ _ _ _ => (pg_name (i := 8) sc_l_first_alike.nd rfl (by first | exact Or.inl rfl | exact Or.inr rfl))) (fun _ _ _ _ _ => (pts_one (pt_cmpR (k_eq K hr.units) (pe_cal c_l_reads hg (hr.mono (by decide)) (pa_cons (pv 0) (pa_cons (pv 8) pa_nil))) (pv 3) (nomark _)))) (fun _ _ _ _ _ => (pv 8)))
      (pss_cons (ps_if (pt_cmpR (k_ne K hr.units) (pv 6) (pe_lst pa_nil) (nomark _)) (pss_one (ps_ret (pe_ix (k_ixl K) (pv 6) pe_int (fun _ _ => rfl))))
      pss_nil)
      (pss_cons (ps_set (i := 7) sc_l_first_alike.nd rfl (by first | exact Or.inl rfl | exact Or.inr rfl) (pe_lst pa_nil))
      (pss_cons (ps_for PassesOwn.never rfl (k_pil K (pv 4)) (pg_name (i := 8) sc_l_first_alike.nd rfl (by first | exact Or.inl rfl | exact Or.inr rfl))
      (pss_one (ps_set (i := 7) sc_l_first_alike.nd rfl (by first | exact Or.inl rfl | exact Or.inr rfl) (pe_op op_cat (pv 7) (pe_lc (own := [("_law_letter", 9)]) rfl sc_l_first_alike.nd (k_pil K (pv 2)) (blkOk_by (by kernel_rfl)) (fun _ _ _ _ _ => (pg_name (i := 9) sc_l_first_alike.nd rfl (by first | exact Or.inl rfl | exact Or.inr rfl))) (fun _ _ _ _ _ => pts_nil) (fun _ _ _ _ _ => (pe_op op_addT (pv 8) (pv 9))))))))
      (pss_one (ps_set (i := 4) sc_l_first_alike.nd rfl (by first | exact Or.inl rfl | exact Or.inr rfl) (pv 7))))))))
      (pss_one (ps_ret (pv 1)))))), ?_⟩
    have hub : ∀ c ∈ u, c ∈ abcL := fun c hc => hab c (hu c hc)
    obtain ⟨v, hnf, hvs, hvu⟩ := nf_exists d u
    have hvl : v.length ≤ u.length := by
      rcases hvs with e | e | ⟨e, _⟩
      · rw [e]; exact Nat.le_refl _
      · omega
      · omega
    have hLa : (lets u).length ≤ 3 := by have := lets_len hu; omega
    have hpow : ∀ k, k ≤ 8 → (lets u).length ^ k ≤ 10000 := fun k hk => by
      have h2 : (lets u).length ^ k ≤ 3 ^ k := Nat.pow_le_pow_left hLa k
      have h3 : 3 ^ k ≤ 3 ^ 8 := Nat.pow_le_pow_right (by decide) hk
      have h4 : (3 : Nat) ^ 8 ≤ 10000 := by decide
      omega
    -- letters = [letter for letter in "abc.." if letter in text]
    refine ⟨_, rfl, fun D hD => ?_⟩
    refine lc_pure walk_txt (fun m => (abcL[m]?).bind fun c => if decide (c ∈ u) = true then some (T [c]) else none) hD (fun _ _ => trivial) (by decide) (fun m y H5 H6 Qk Nk hm s5 hy hk hn => ?_) (fun H1 s1 e1 => ?_)
    · obtain ⟨rfl, c, hc, rfl⟩ := hy
      have hc' : abcL[m]? = some c := hc
      refine ⟨rfl, _, rfl, _, rfl, c, u, rfl, rfl, _, rfl, ?_⟩
      by_cases hm' : c ∈ u
      · rw [show (if false = true then !decide (c ∈ u) else decide (c ∈ u)) = true by rw [decide_eq_true hm']; rfl]
        exact iteT ⟨_, rfl, hk _ _ (by rw [hc']; simp [hm']) (Same.refl _)⟩
      · rw [show (if false = true then !decide (c ∈ u) else decide (c ∈ u)) = false by rw [decide_eq_false hm']; rfl]
        exact iteF (hn _ (by rw [hc']; simp [hm']) (Same.refl _))
    have e1 : H1 D = some (.lst ((lets u).map fun c => T [c])) := by
      rw [e1]
      congr 2
      exact fm_if abcL (fun c => decide (c ∈ u)) fun c => T [c]
    -- due, level = (_law_reads(depth, text), [""])
    refine ⟨_, rfl, _, rfl, d, u, rfl, by omega, few_of hd (by omega) hu, fun H2 pd s2 n2 e2 => ?_⟩
    refine ⟨by show 1 ≤ sizeLine; decide, fun a1 na1 => ?_⟩
    refine ⟨by show 2 ≤ sizeLine; decide, fun a2 na2 => ?_⟩
    refine ⟨_, _, rfl, .inl (.inl upd_same), rfl, _, _, rfl, _, _, rfl, rfl, ?_⟩
    have s3 := (same_new (o := HO.lst [T []]) na1).trans (same_new (o := HO.tup [V.ref pd, .ref a1]) na2)
    have ea1 := (same_new (o := HO.tup [V.ref pd, .ref a1]) na2) _ _ (upd_same (a := a1))
    have eD3 := s3 _ _ (s2 _ _ e1)
    have ed3 := s3 _ _ e2
    have s03 := (s1.trans s2).trans s3
    generalize upd (upd H2 a1 (.lst [T []])) a2 (.tup [.ref pd, .ref a1]) = H3 at *
    -- for size in range(len(text) + 1):
    refine ⟨_, rfl, u, rfl, by omega, _, _, rfl, rfl, _, rfl, by omega, by omega, for_it walk_range (fun i σ H4 => ∃ (pv : Addr) (x5 x6 x7 x8 x9 : Option V), σ = [some (.int d), some (T u), some (.ref D), some (.ref pd), some (.ref pv), x5, x6, x7, x8, x9] ∧ Same H H4 ∧ H4 D = some (.lst ((lets u).map fun c => T [c])) ∧ H4 pd = some (.lst ((readsF d u).map T)) ∧ H4 pv = some (.lst ((wds (lets u) i).map T)) ∧ i ≤ v.length) ?start (fun _ _ _ _ _ => trivial) ?turn ?fin⟩
    case start => exact ⟨a1, none, none, none, none, none, rfl, s03, eD3, ed3, ea1, Nat.zero_le _⟩
    case turn =>
      rintro i x σ H4 H5 hi ⟨pv, x5, x6, x7, x8, x9, rfl, s4, eD, ed, ev, hiv⟩ ⟨rfl, rfl⟩
      have hwl := wds_length (lets u) i
      have hp1 := hpow i (by omega)
      have hp2 := hpow (i + 1) (by omega)
      rw [Nat.pow_succ, ← hwl] at hp2
      have hwb : ∀ w ∈ wds (lets u) i, ∀ c ∈ w, c ∈ u := fun w hw c hc => (mem_lets hub).mp (((wds_mem _ _ _).mp hw).2 c hc)
      -- found = [near for near in level if _law_reads(depth, near) == due]
      refine ⟨_, rfl, pv, rfl, ⟨_, SqL.of ev⟩, fun D2 hD2 => ?_⟩
      refine lc_pure (walk_list (xs := (wds (lets u) i).map T)) (fun m => ((wds (lets u) i)[m]?).bind fun w => if alk d w u = true then some (T w) else none) hD2 (fun H6 s6 => SqL.of (s6 _ _ ev)) (by rw [List.length_map]; omega) (fun m y H6 H7 Qk Nk hm s6 hy hk hn => ?_) (fun H6 s6 e6 => ?_)
      · obtain ⟨rfl, hy⟩ := hy
        rw [List.length_map] at hm
        have hwm : (wds (lets u) i)[m]? = some (wds (lets u) i)[m] := List.getElem?_eq_getElem hm
        rw [List.getElem?_map, hwm] at hy
        have hy : T (wds (lets u) i)[m] = y := Option.some.inj hy
        subst hy
        have hmem := List.getElem_mem hm
        have hln := ((wds_mem _ _ _).mp hmem).1
        have hwu := hwb _ hmem
        have hwab : ∀ c ∈ (wds (lets u) i)[m], c ∈ abcL := fun c hc => hub c (hwu c hc)
        generalize hw : (wds (lets u) i)[m] = wd at *
        refine ⟨rfl, _, rfl, _, rfl, d, wd, rfl, by omega, few_of hd (show a.length ≤ 6 by omega) (fun c hc => hu c (hwu c hc)), fun H8 p8 s8 n8 e8 => ?_⟩
        refine ⟨_, rfl, eq_texts (SqL.of e8) (SqL.of (s8 _ _ (s6 _ _ ed))) (reads_low hwab) (reads_low hub) ⟨_, rfl, ?_⟩⟩
        rw [reads_alk hwab hub]
        cases hk2 : alk d wd u with
        | true => exact iteT ⟨_, rfl, hk _ _ (by simp [hwm, hk2]) s8⟩
        | false => exact iteF (hn _ (by simp [hwm, hk2]) s8)
      rw [List.length_map, fm_if] at e6
      have e6 : H6 D2 = some (.lst ((Sk.same d u i).map T)) := e6
      -- if found != []:
      refine ⟨_, rfl, Nat.zero_le _, fun a3 na3 => ?_⟩
      have s7 := (same_new (o := HO.lst ([] : List V)) na3)
      have s67 := s6.trans s7
      have hlow : ∀ x ∈ (Sk.same d u i).map T, flat2 x = true := fun x hx => by
        obtain ⟨y, hy, rfl⟩ := List.mem_map.mp hx
        unfold Sk.same at hy
        exact flat_T (al_low fun c hc => hub c (hwb y (List.mem_filter.mp hy).1 c hc))
      refine ne_nil (SqL.of (s7 _ _ e6)) hlow (SqL.of upd_same) ⟨_, rfl, ?_⟩
      by_cases hlt : i < v.length
      · rw [same_short hnf hlt, decide_eq_true (show List.map T [] = [] from rfl)]
        refine iteF ?_
        -- longer = []
        refine ⟨Nat.zero_le _, fun a4 na4 => ?_⟩
        have s8 := s67.trans (same_new (o := HO.lst ([] : List V)) na4)
        have ev8 := s8 _ _ ev
        have eD8 := s8 _ _ eD
        have nH8 : H a4 = none := (s4.trans s67).free na4
        have e48 : upd (upd H6 a3 (.lst [])) a4 (.lst []) a4 = some (.lst []) := upd_same
        generalize upd (upd H6 a3 (.lst [])) a4 (.lst []) = H8 at *
        -- for near in level:
        refine ⟨_, rfl, pv, rfl, ⟨_, SqL.of ev8⟩, for_it (walk_list (xs := (wds (lets u) i).map T)) (fun j σ H9 => ∃ (pl : Addr) (y5 y6 y8 y9 : Option V), σ = [some (.int d), some (T u), some (.ref D), some (.ref pd), some (.ref pv), y5, y6, some (.ref pl), y8, y9] ∧ Same H8 H9 ∧ H pl = none ∧ H9 pl = some (.lst ((grow (lets u) ((wds (lets u) i).take j)).map T))) ?start2 ?G2 ?turn2 ?fin2⟩
        case start2 => exact ⟨a4, _, _, _, _, rfl, Same.refl _, nH8, e48⟩
        case G2 =>
          rintro j σ H9 _ ⟨pl, y5, y6, y8, y9, rfl, s9, n9, e9⟩
          exact SqL.of (s9 _ _ ev8)
        case turn2 =>
          rintro j x σ H9 H10 hj ⟨pl, y5, y6, y8, y9, rfl, s9, n9, e9⟩ ⟨rfl, hx⟩
          rw [List.length_map] at hj
          have hwj : (wds (lets u) i)[j]? = some (wds (lets u) i)[j] := List.getElem?_eq_getElem hj
          rw [List.getElem?_map, hwj] at hx
          have hx : T (wds (lets u) i)[j] = x := Option.some.inj hx
          subst hx
          have hxl := ((wds_mem _ _ _).mp (List.getElem_mem hj)).1
          refine ⟨_, rfl, _, rfl, D, rfl, ⟨_, SqL.of (s9 _ _ eD8)⟩, fun D5 hD5 => ?_⟩
          refine lc_pure (walk_list (xs := (lets u).map fun c => T [c])) (fun m => ((lets u)[m]?).map fun c => T ((wds (lets u) i)[j] ++ [c])) hD5 (fun H11 s11 => SqL.of (s11 _ _ (s9 _ _ eD8))) (by rw [List.length_map]; omega) (fun m y H11 H12 Qk Nk hm s11 hy hk hn => ?_) (fun H11 s11 e11 => ?_)
          · obtain ⟨rfl, hy⟩ := hy
            rw [List.length_map] at hm
            have hLm : (lets u)[m]? = some (lets u)[m] := List.getElem?_eq_getElem hm
            rw [List.getElem?_map, hLm] at hy
            have hy : T [(lets u)[m]] = y := Option.some.inj hy
            subst hy
            refine ⟨rfl, yes_ (iteT ?_)⟩
            exact ⟨_, rfl, _, rfl, _, _, rfl, rfl, by rw [hxl]; simp; omega, hk _ _ (by rw [hLm]; rfl) (Same.refl _)⟩
          · rw [List.length_map, fm_get] at e11
            have hg := grow_len (lets u) ((wds (lets u) i).take j)
            have hle : (grow (lets u) ((wds (lets u) i).take j)).length ≤ 10000 := by
              rw [hg]
              exact Nat.le_trans (Nat.mul_le_mul_right _ (by rw [List.length_take]; omega)) hp2
            refine ⟨pl, D5, _, _, rfl, rfl, s11 _ _ e9, e11, ?_, fun a12 na12 => ?_⟩
            · rw [List.length_map, List.length_map]; exact line_ok (by omega)
            refine ⟨a12, _, _, _, _, rfl, snew (s9.trans s11) na12, ((s4.trans s8).trans (s9.trans s11)).free na12, ?_⟩
            rw [upd_same, List.take_add_one, hwj]
            unfold grow
            rw [Option.toList_some, List.flatMap_append, List.map_append]
            congr 3
            show _ = List.map T ([(wds (lets u) i)[j]].flatMap fun x => (lets u).map fun c => x ++ [c])
            rw [List.flatMap_cons, List.flatMap_nil, List.append_nil, List.map_map]
            rfl
        case fin2 =>
          rintro σ H9 ⟨pl, y5, y6, y8, y9, rfl, s9, n9, e9⟩
          rw [List.length_map, List.take_length] at e9
          exact ⟨_, rfl, pl, _, _, _, _, _, rfl, (s4.trans s8).trans s9, s9 _ _ eD8, s9 _ _ (s8 _ _ ed), e9, hlt⟩
      · have ei : i = v.length := by omega
        obtain ⟨r, hr⟩ := same_at hub hnf
        rw [← ei] at hr
        rw [hr, decide_eq_false (show ¬ List.map T (v :: r) = [] by simp)]
        rw [hr] at e6
        exact iteT ⟨_, rfl, D2, _, 0, _, rfl, rfl, SqL.of (s7 _ _ e6), atI_nat (j := 0) rfl, q v _ (s4.trans s67) hnf⟩
    case fin =>
      rintro σ H4 ⟨pv, x5, x6, x7, x8, x9, rfl, s4, eD, ed, ev, hiv⟩
      exfalso
      omega
end

end K79

set_option Elab.async false
set_option linter.all false
set_option maxRecDepth 100000
set_option maxHeartbeats 4000000
set_option exponentiation.threshold 5000
namespace K79
open PySem PySem.Spec PyProof.Rows L2 Sk
theorem text_show {v : List Nat} (hl : Low v) (hz : v.length ≤ 10000) : (PyData.str (tx v)).showable = true ∧ (PyData.str (tx v)).hasDict = false ∧ (PyData.str (tx v)).depth ≤ 60 ∧ (PyData.str (tx v)).shown.length ≤ sizeLine := by
  refine ⟨by unfold PyData.showable; rfl, by unfold PyData.hasDict; rfl, by unfold PyData.depth; decide, shows ?_ ?_⟩
  · unfold PyData.leavesShort
    rw [List.all_eq_true]
    intro c hc
    rw [decide_eq_true_eq]
    have h1 := hl c (by simpa [tx] using hc)
    have h2 : (1114112 : Nat) < 16 ^ 8 := by decide
    omega
  · have h3 : (PyData.str (tx v)).weight = v.length := by
      unfold PyData.weight
      simp [tx]
    omega
theorem bool_show (b : Bool) : (PyData.bool b).showable = true ∧ (PyData.bool b).hasDict = false ∧ (PyData.bool b).depth ≤ 60 ∧ (PyData.bool b).shown.length ≤ sizeLine := by
  refine ⟨by unfold PyData.showable; rfl, by unfold PyData.hasDict; rfl, by unfold PyData.depth; decide, shows (by unfold PyData.leavesShort; rfl) ?_⟩
  unfold PyData.weight
  decide
theorem nf_long {d : Nat} {u v : List Nat} (hd : u.length ≤ d) (h : NF d u v) (hl : v.length ≤ u.length) : v = u :=
  (((h.al u hd).mp (List.Sublist.refl u)).eq_of_length_le hl).symm
theorem nf_zero {u v : List Nat} (h : NF 0 u v) : v = [] := by
  have ha : Alike 0 u [] := fun w hw => by
    have : w = [] := List.eq_nil_of_length_eq_zero (by omega)
    subst this
    exact ⟨fun _ => List.nil_sublist _, fun _ => List.nil_sublist _⟩
  rcases (h.least ha).1 with e | e | ⟨_, e⟩
  · exact e
  · exact absurd e (Nat.not_lt_zero _)
  · cases e
section
variable {P : Program} {w : World} {K : PySem.W.Frag} {mg : Str → Option Value} {base : Heap}
def sp_l_small_right : Sp := fun vs H Q _ => ∃ (g : Addr) (n : Nat), vs = [.ref g] ∧ Gen (n + 500) H g ∧ ∀ H', But g H H' → Gen n H' g → Q (.bl true) H'
theorem ok_l_small_right (F : Facts fa fn K mg) (c_l_letters : Callee P w K mg base 4 "_law_letters" p_l_letters sp_l_letters) (c_l_random : Callee P w K mg base 2 "_law_random" p_l_random sp_l_random) (c_l_text : Callee P w K mg base 4 "_law_text" p_l_text sp_l_text) (c_l_first_alike : Callee P w K mg base 4 "_law_first_alike" p_l_first_alike sp_l_first_alike) (c_least_form : Callee P w K mg base 6 "least_form" p_least_form sp_least_form) (c_l_same : Callee P w K mg base 1 "_law_same" p_l_same (sp_l_same K)) (c_l_alike : Callee P w K mg base 4 "_law_alike" p_l_alike sp_l_alike) (c_l_near : Callee P w K mg base 3 "_law_near" p_l_near sp_l_near) (c_l_reads : Callee P w K mg base 3 "_law_reads" p_l_reads sp_l_reads) (c_read_alike : Callee P w K mg base 6 "read_alike" p_read_alike sp_read_alike) : Callee P w K mg base 7 "_law_small_right" p_l_small_right sp_l_small_right := by
  refine F.callee 30 30 sc_l_small_right (fun vs H Q E h => ?_) (fun _ _ _ _ _ _ us hl => match us, hl with | [_], _ => rfl) (fun f cdv A outer t0 H vs Q E hg hr h => ?_)
  · obtain ⟨g, n, rfl, hG, q⟩ := h
    rfl
  · obtain ⟨g, n, rfl, hG, q⟩ := h
    refine ⟨_, (pss_cons (ps_par (i := 1) (j := 2) rfl sc_l_small_right.nd rfl rfl (by decide) rfl rfl (pa_cons (pe_cal c_l_letters hg (hr.mono (by decide)) (pa_cons (pv 0) (pa_cons pe_int (pa_cons pe_int pa_nil)))) (pa_cons (pe_cal c_l_random hg (hr.mono (by decide)) (pa_cons (pv 0) (pa_cons pe_int pa_nil))) pa_nil)) rfl)
      (pss_cons (ps_set (i := 3) sc_l_small_right.nd rfl (by first | exact Or.inl rfl | exact Or.inr rfl) (pe_cal c_l_text hg (hr.mono (by decide)) (pa_cons (pv 0) (pa_cons (pv 1) (pa_cons pe_int (pa_cons (pe_op op_sub pe_int (pe_callB call_lenT (by rfl) (F.free 36) (by decide +kernel) (pa_cons (pv 1) pa_nil))) pa_nil))))))
      (pss_cons (ps_par (i := 4) (j := 5) rfl sc_l_small_right.nd rfl rfl (by decide) rfl rfl (pa_cons (pe_cal c_l_first_alike hg (hr.mono (by decide)) (pa_cons (pv 2) (pa_cons (pv 3) pa_nil))) (pa_cons (pe_cal c_least_form hg (hr.mono (by decide)) (pa_cons (pv 2) (pa_cons (pv 3) pa_nil))) pa_nil)) rfl)
      (pss_cons (ps_if (PW.pt (pw_or (pt_not (pt_val (pe_cal c_l_same hg (hr.mono (by decide)) (pa_cons (pv 5) (pa_cons (pv 4) pa_nil))))) (pw_or1 (pt_not (pt_val (pe_cal c_l_same hg (hr.mono (by decide)) (pa_cons (pe_cal c_least_form hg (hr.mono (by decide)) (pa_cons (pv 2) (pa_cons (pv 5) pa_nil))) (pa_cons (pv 4) pa_nil)))))))) (pss_one (ps_ret pe_bl))
      pss_nil)
      (pss_cons (ps_set (i := 6) sc_l_small_right.nd rfl (by first | exact Or.inl rfl | exact Or.inr rfl) (pe_cal c_l_alike hg (hr.mono (by decide)) (pa_cons (pv 0) (pa_cons (pv 1) (pa_cons (pv 2) (pa_cons (pv 3) (pa_cons pe_int pa_nil)))))))
      (pss_cons (ps_set (i := 7) sc_l_small_right.nd rfl (by first | exact Or.inl rfl | exact Or.inr rfl) (pe_cal c_l_near hg (hr.mono (by decide)) (pa_cons (pv 0) (pa_cons (pv 1) (pa_cons (pv 6) pa_nil)))))
      (pss_cons (ps_if (PW.pt (pw_or (pt_not (pt_val (pe_cal c_l_same hg (hr.mono (by decide)) (pa_cons (pe_cal c_least_form hg (hr.mono (by decide)) (pa_cons (pv 2) (pa_cons (pv 6) pa_nil))) (pa_cons (pv 4) pa_nil))))) (pw_or1 (pt_not (pt_val (pe_cal c_l_same hg (hr.mono (by decide)) (pa_cons (pe_cal c_least_form hg (hr.mono (by decide)) (pa_cons (pe_callB call_lenT (by rfl) (F.free 36) (by decide +kernel) (pa_cons (pv 7) pa_nil)) (pa_cons (pv 7) pa_nil))) (pa_cons (pv 7) pa_nil)))))))) (pss_one (ps_ret pe_bl))
      pss_nil)
      (pss_cons (ps_set (i := 8) sc_l_small_right.nd rfl (by first | exact Or.inl rfl | exact Or.inr rfl) (pe_cmpR (k_eq K hr.units) (pe_cal c_l_reads hg (hr.mono (by decide)) (pa_cons (pv 2) (pa_cons (pv 7) pa_nil))) (pe_cal c_l_reads hg (hr.mono (by decide)) (pa_cons (pv 2) (pa_cons (pv 3) pa_nil))) (nomark _)))
      (pss_cons (ps_if (PW.pt (pw_or (pt_not (pt_val (pe_cal c_l_same hg (hr.mono (by decide)) (pa_cons (pe_cmpR op_eqT (pe_cal c_least_form hg (hr.mono (by decide)) (pa_cons (pv 2) (pa_cons (pv 7) pa_nil))) (pv 4) (nomark _)) (pa_cons (pv 8) pa_nil))))) (pw_or1 (pt_not (pt_val (pe_cal c_l_same hg (hr.mono (by decide)) (pa_cons (pe_cal c_read_alike hg (hr.mono (by decide)) (pa_cons (pv 2) (pa_cons (pv 7) (pa_cons (pv 6) pa_nil)))) (pa_cons (pv 8) pa_nil)))))))) (pss_one (ps_ret pe_bl))
      pss_nil)
      (pss_one (ps_ret (pe_and (pe_cal c_l_same hg (hr.mono (by decide)) (pa_cons (pe_cal c_least_form hg (hr.mono (by decide)) (pa_cons (pe_op op_powB pe_int pe_int) (pa_cons (pv 6) pa_nil))) (pa_cons (pv 6) pa_nil))) (pe_one (pe_cal c_l_same hg (hr.mono (by decide)) (pa_cons (pe_cal c_least_form hg (hr.mono (by decide)) (pa_cons pe_int (pa_cons (pv 6) pa_nil))) (pa_cons (pe_txt []) pa_nil)))))))))))))))), ?_⟩
    -- letters, depth = _law_letters(g, 1, 3), random(g, 5)
    refine ⟨_, rfl, g, 1, 3, n + 390, rfl, by decide, by decide, by decide, hG, fun a H1 al a1 a3 b1 g1 => ?_⟩
    refine ⟨_, rfl, g, 5, n + 385, rfl, by decide, by decide, g1, fun d H2 d0 d1 b2 g2 => ?_⟩
    obtain ⟨d, rfl⟩ : ∃ k : Nat, d = (k : Int) := ⟨d.toNat, by omega⟩
    have hd : d ≤ 4 := by omega
    have hab := al.abc
    have hne : a ≠ [] := by
      intro z
      rw [z] at a1
      exact absurd a1 (by decide)
    refine ⟨_, _, rfl, ?_⟩
    -- text = _law_text(g, letters, 0, 7 - len(letters))
    refine ⟨_, rfl, _, rfl, _, rfl, a, rfl, by omega, _, _, rfl, rfl, g, a, 0, 7 - a.length, n + 330, ?_, hne, by omega, by omega, by omega, g2.less (by omega), fun u H3 hu u0 u1 b3 g3 => ?_⟩
    · rw [show ((7 - a.length : Nat) : Int) = 7 - (a.length : Int) by omega]
      rfl
    have hub : ∀ c ∈ u, c ∈ abcL := fun c hc => hab c (hu c hc)
    -- due, told = first_alike(depth, text), least_form(depth, text)
    refine ⟨_, rfl, _, rfl, a, d, u, rfl, a3, hab, hd, hu, by omega, fun v H4 s4 hnf => ?_⟩
    refine ⟨_, rfl, _, rfl, d, u, rfl, by omega, hub, fun H5 v' s5 hnf' hvl hvu => ?_⟩
    have e1 : v' = v := hnf'.eq hnf (Alike.refl d u)
    subst e1
    refine ⟨_, _, rfl, ?_⟩
    have hvb : ∀ c ∈ v', c ∈ abcL := fun c hc => hub c (hvu c hc)
    obtain ⟨t1, t2, t3, t4⟩ := text_show (al_low hvb) (by omega)
    -- if not same(told, due) or not same(least_form(depth, told), due):
    refine ⟨_, rfl, _, rfl, T v', T v', .str (tx v'), rfl, .str _, .str _, t1, t2, t3, t4, _, rfl, iteF ?_⟩
    refine ⟨_, rfl, _, rfl, d, v', rfl, by omega, hvb, fun H6 v2 s6 hnf2 _ _ => ?_⟩
    have e2 : v2 = v' := hnf2.eq hnf.self (Alike.refl d v')
    subst e2
    refine ⟨_, rfl, T v2, T v2, .str (tx v2), rfl, .str _, .str _, t1, t2, t3, t4, _, rfl, iteF ?_⟩
    have b6 : But g H H6 := b1.trans (b2.trans (b3.trans (But.of (s4.trans (s5.trans s6)))))
    have g6 := g3.same (s4.trans (s5.trans s6))
    -- mate = _law_alike(g, letters, depth, text, 9)
    refine ⟨_, rfl, _, rfl, _, rfl, _, rfl, g, a, d, u, 9, n + 130, rfl, hne, by omega, hab, hd, hu, by omega, by decide, g6, fun m H7 hm hml hmal b7 g7 => ?_⟩
    have hmb : ∀ c ∈ m, c ∈ abcL := fun c hc => hab c (hm c hc)
    -- near = _law_near(g, letters, mate)
    refine ⟨_, rfl, _, rfl, _, rfl, g, a, m, n + 115, rfl, hne, by omega, by omega, hm, g7, fun y H8 hy hyl b8 g8 => ?_⟩
    have hyb : ∀ c ∈ y, c ∈ abcL := fun c hc => hab c (hy c hc)
    -- if not same(least_form(depth, mate), due) or not same(least_form(len(near), near), near):
    refine ⟨_, rfl, _, rfl, d, m, rfl, by omega, hmb, fun H9 v3 s9 hnf3 _ _ => ?_⟩
    have e3 : v3 = v2 := hnf3.eq hnf hmal.symm
    subst e3
    refine ⟨_, rfl, T v3, T v3, .str (tx v3), rfl, .str _, .str _, t1, t2, t3, t4, _, rfl, iteF ?_⟩
    refine ⟨_, rfl, y, rfl, by omega, _, rfl, y.length, y, rfl, by omega, hyb, fun H10 v4 s10 hnf4 hl4 _ => ?_⟩
    have e4 : v4 = y := nf_long (Nat.le_refl _) hnf4 hl4
    subst e4
    obtain ⟨y1, y2, y3, y4⟩ := text_show (al_low hyb) (by omega)
    refine ⟨_, rfl, T v4, T v4, .str (tx v4), rfl, .str _, .str _, y1, y2, y3, y4, _, rfl, iteF ?_⟩
    -- same_here = reads(depth, near) == reads(depth, text)
    refine ⟨_, rfl, _, rfl, d, v4, rfl, by omega, few_of hd (by omega) hy, fun H11 p1 s11 n11 e11 => ?_⟩
    refine ⟨_, rfl, _, rfl, d, u, rfl, by omega, few_of hd (by omega) hu, fun H12 p2 s12 n12 e12 => ?_⟩
    refine eq_texts (SqL.of (s12 _ _ e11)) (SqL.of e12) (reads_low hyb) (reads_low hub) ?_
    rw [reads_alk hyb hub]
    -- if not same(least_form(depth, near) == due, same_here) or not same(read_alike(depth, near, mate), same_here):
    refine ⟨_, rfl, _, rfl, d, v4, rfl, by omega, hyb, fun H13 v5 s13 hnf5 _ _ => ?_⟩
    have e5 : decide (v5 = v3) = alk d v4 u := by
      by_cases h : Alike d v4 u
      · rw [alk_true h, decide_eq_true ((NF.iff hnf5 hnf).mpr h)]
      · rw [alk_false h, decide_eq_false (fun z => h ((NF.iff hnf5 hnf).mp z))]
    obtain ⟨z1, z2, z3, z4⟩ := bool_show (alk d v4 u)
    refine ⟨_, rfl, _, _, rfl, rfl, ?_⟩
    rw [e5]
    refine ⟨_, rfl, .bl (alk d v4 u), .bl (alk d v4 u), .bool (alk d v4 u), rfl, .bl _, .bl _, z1, z2, z3, z4, _, rfl, iteF ?_⟩
    refine ⟨_, rfl, _, rfl, _, rfl, d, v4, m, rfl, by omega, hyb, by omega, hmb, fun H14 s14 => ?_⟩
    have e6 : alk d v4 m = alk d v4 u := by
      by_cases h : Alike d v4 u
      · rw [alk_true h, alk_true (h.trans hmal)]
      · rw [alk_false h, alk_false (fun z => h (z.trans hmal.symm))]
    rw [e6]
    refine ⟨_, rfl, .bl (alk d v4 u), .bl (alk d v4 u), .bool (alk d v4 u), rfl, .bl _, .bl _, z1, z2, z3, z4, _, rfl, iteF ?_⟩
    have b14 : But g H H14 := b6.trans (b7.trans (b8.trans (But.of (s9.trans (s10.trans (s11.trans (s12.trans (s13.trans s14))))))))
    have g14 := g8.same (s9.trans (s10.trans (s11.trans (s12.trans (s13.trans s14)))))
    -- return same(least_form(10 ** 29, mate), mate) and same(least_form(0, mate), "")
    refine ⟨_, _, rfl, rfl, by decide, by decide +kernel, _, rfl, 10 ^ 29, m, ?_, by omega, hmb, fun H15 v6 s15 hnf6 hl6 _ => ?_⟩
    · rw [show ((10 ^ 29 : Nat) : Int) = (10 : Int) ^ (29 : Int).toNat by decide +kernel]
    have e7 : v6 = m := nf_long (by have : (100 : Nat) ≤ 10 ^ 29 := by decide +kernel
                                    omega) hnf6 hl6
    subst e7
    obtain ⟨m1, m2, m3, m4⟩ := text_show (al_low hmb) (by omega)
    refine ⟨_, rfl, T v6, T v6, .str (tx v6), rfl, .str _, .str _, m1, m2, m3, m4, true, rfl, iteT ?_⟩
    refine ⟨_, rfl, 0, v6, rfl, by omega, hmb, fun H16 v7 s16 hnf7 hl7 _ => ?_⟩
    rw [nf_zero hnf7]
    obtain ⟨k1, k2, k3, k4⟩ := text_show (v := []) (fun c h => by cases h) (by decide)
    exact ⟨T [], T [], .str (tx []), rfl, .str _, .str _, k1, k2, k3, k4, q _ (b14.trans (But.of (s15.trans s16))) ((g14.same (s15.trans s16)).less (by omega))⟩
end
end K79

set_option Elab.async false
set_option linter.all false
set_option maxRecDepth 100000
set_option maxHeartbeats 4000000
set_option exponentiation.threshold 5000
namespace K79
open PySem PySem.Spec PyProof.Rows L2 Sk
theorem fm_none {α β : Type} (L : List α) (f : α → Option β) (h : ∀ x ∈ L, f x = none) : L.filterMap f = [] := List.filterMap_eq_nil_iff.mpr h
theorem join_n {G : Prop} (N : Prop) (hn : N) (h : N → G) : G := h hn
/-- two letters side by side, the places changed -/
def tw (v : List Nat) (i : Nat) : List Nat := ((v.take i ++ [(v[i + 1]?).getD 0]) ++ [(v[i]?).getD 0]) ++ v.drop (i + 2)
theorem get_some {v : List Nat} {i : Nat} (h : i < v.length) : v[i]? = some ((v[i]?).getD 0) := by
  rw [List.getElem?_eq_getElem h]; rfl
theorem tw_ok {v : List Nat} {i : Nat} (h : i + 1 < v.length) : (tw v i).length = v.length ∧ ∀ c ∈ tw v i, c ∈ v := by
  have e1 : (v[i + 1]?).getD 0 ∈ v := List.mem_of_getElem? (get_some h)
  have e2 : (v[i]?).getD 0 ∈ v := List.mem_of_getElem? (get_some (by omega))
  unfold tw
  constructor
  · simp only [List.length_append, List.length_take, List.length_drop, List.length_singleton]
    omega
  · intro c hc
    rcases List.mem_append.mp hc with z | z
    · rcases List.mem_append.mp z with z | z
      · rcases List.mem_append.mp z with z | z
        · exact List.mem_of_mem_take z
        · rw [List.mem_singleton.mp z]; exact e1
      · rw [List.mem_singleton.mp z]; exact e2
    · exact List.mem_of_mem_drop z
section
variable {P : Program} {w : World} {K : PySem.W.Frag} {mg : Str → Option Value} {base : Heap}
def sp_l_wide_right : Sp := fun vs H Q _ => ∃ (g : Addr) (n : Nat), vs = [.ref g] ∧ Gen (n + 500) H g ∧ ∀ H', But g H H' → Gen n H' g → Q (.bl true) H'
theorem ok_l_wide_right (F : Facts fa fn K mg) (c_l_letters : Callee P w K mg base 4 "_law_letters" p_l_letters sp_l_letters) (c_l_size : Callee P w K mg base 3 "_law_size" p_l_size sp_l_size) (c_l_text : Callee P w K mg base 4 "_law_text" p_l_text sp_l_text) (c_least_form : Callee P w K mg base 6 "least_form" p_least_form sp_least_form) (c_l_reads : Callee P w K mg base 3 "_law_reads" p_l_reads sp_l_reads) (c_l_alike : Callee P w K mg base 4 "_law_alike" p_l_alike sp_l_alike) (c_l_same : Callee P w K mg base 1 "_law_same" p_l_same (sp_l_same K)) : Callee P w K mg base 7 "_law_wide_right" p_l_wide_right sp_l_wide_right := by
  refine F.callee 31 31 sc_l_wide_right (fun vs H Q E h => ?_) (fun _ _ _ _ _ _ us hl => match us, hl with | [_], _ => rfl) (fun f cdv A outer t0 H vs Q E hg hr h => ?_)
  · obtain ⟨g, n, rfl, hG, q⟩ := h
    rfl
  · obtain ⟨g, n, rfl, hG, q⟩ := h
    refine ⟨_, (pss_cons (ps_asg (pe_tup (pa_cons (pe_cal c_l_letters hg (hr.mono (by decide)) (pa_cons (pv 0) (pa_cons pe_int (pa_cons pe_int pa_nil)))) (pa_cons (pe_cal c_l_size hg (hr.mono (by decide)) (pa_cons (pv 0) (pa_cons pe_int (pa_cons pe_int pa_nil)))) pa_nil))) (k_tup (n := 2) K rfl (pgs_cons (pg_name (i := 1) sc_l_wide_right.nd rfl (by first | exact Or.inl rfl | exact Or.inr rfl)) (pgs_cons (pg_name (i := 2) sc_l_wide_right.nd rfl (by first | exact Or.inl rfl | exact Or.inr rfl)) pgs_nil))))
      (pss_cons (ps_set (i := 3) sc_l_wide_right.nd rfl (by first | exact Or.inl rfl | exact Or.inr rfl) (pe_cal c_l_text hg (hr.mono (by decide)) (pa_cons (pv 0) (pa_cons (pv 1) (pa_cons pe_int (pa_cons pe_int pa_nil))))))
      (pss_cons (ps_set (i := 4) sc_l_wide_right.nd rfl (by first | exact Or.inl rfl | exact Or.inr rfl) (pe_cal c_least_form hg (hr.mono (by decide)) (pa_cons (pv 2) (pa_cons (pv 3) pa_nil))))
      (pss_cons (ps_if (PW.pt (pw_or (pt_cmpR (k_ne K hr.units) (pe_cal c_l_reads hg (hr.mono (by decide)) (pa_cons (pv 2) (pa_cons (pv 4) pa_nil))) (pe_cal c_l_reads hg (hr.mono (by decide)) (pa_cons (pv 2) (pa_cons (pv 3) pa_nil))) (nomark _)) (pw_or1 (pt_cmpR op_gt (pe_callB call_lenT (by rfl) (F.free 36) (by decide +kernel) (pa_cons (pv 4) pa_nil)) (pe_callB call_lenT (by rfl) (F.free 36) (by decide +kernel) (pa_cons (pv 3) pa_nil)) (nomark _))))) (pss_one (ps_ret pe_bl))
      pss_nil)
      (pss_cons (ps_if (PW.pt (pw_and (pt_cmpR op_eq (pe_callB call_lenT (by rfl) (F.free 36) (by decide +kernel) (pa_cons (pv 4) pa_nil)) (pe_callB call_lenT (by rfl) (F.free 36) (by decide +kernel) (pa_cons (pv 3) pa_nil)) (nomark _)) (pw_and1 (pt_cmpR op_gtT (pv 4) (pv 3) (nomark _))))) (pss_one (ps_ret pe_bl))
      pss_nil)
      (pss_cons (ps_set (i := 5) sc_l_wide_right.nd rfl (by first | exact Or.inl rfl | exact Or.inr rfl) (pe_cal c_l_alike hg (hr.mono (by decide)) (pa_cons (pv 0) (pa_cons (pv 1) (pa_cons (pv 2) (pa_cons (pv 3) (pa_cons pe_int pa_nil)))))))
      (pss_cons (ps_if (PW.pt (pw_or (pt_not (pt_val (pe_cal c_l_same hg (hr.mono (by decide)) (pa_cons (pe_cal c_least_form hg (hr.mono (by decide)) (pa_cons (pv 2) (pa_cons (pv 5) pa_nil))) (pa_cons (pv 4) pa_nil))))) (pw_or1 (pt_not (pt_val (pe_cal c_l_same hg (hr.mono (by decide)) (pa_cons (pe_cal c_least_form hg (hr.mono (by decide)) (pa_cons (pv 2) (pa_cons (pv 4) pa_nil))) (pa_cons (pv 4) pa_nil)))))))) (pss_one (ps_ret pe_bl))
      pss_nil)
      (pss_cons (ps_setLc (i := 6) (own := [("_law_at", 10)]) rfl sc_l_wide_right.nd rfl rfl (sw_true rfl rfl rfl (by decide +kernel)) (pi_range1 (by rfl) (F.free 40) (pa_cons (pe_callB call_lenT (by rfl) (F.free 36) (by decide +kernel) (pa_cons (pv 4) pa_nil)) pa_nil)) (blkOk_by (by kernel_rfl)) (fun _ _ _ _ _ => (pg_name (i := 10) sc_l_wide_right.nd rfl (by first | exact Or.inl rfl | exact Or.inr rfl))) (fun _ _ _ _ _ => (pts_one (pt_cmpR op_eqT (pe_cal c_least_form hg (hr.mono (by decide)) (pa_cons (pv 2) (pa_cons (pe_op op_addT (pe_slice sl_txt (pv 4) po_none (po_some (pv 10))) (pe_slice sl_txt (pv 4) (po_some (pe_op op_add (pv 10) pe_int)) po_none)) pa_nil))) (pv 4) (nomark _)))) (fun _ _ _ _ _ => (pv 10)))
      (pss_cons (ps_setLc (i := 7) (own := [("_law_at", 10)]) rfl sc_l_wide_right.nd rfl rfl (sw_true rfl rfl rfl (by decide +kernel)) (pi_range1 (by rfl) (F.free 40) (pa_cons (pe_op op_sub (pe_callB call_lenT (by rfl) (F.free 36) (by decide +kernel) (pa_cons (pv 4) pa_nil)) pe_int) pa_nil)) (blkOk_by (by kernel_rfl)) (fun _ _ _ _ _ => (pg_name (i := 10) sc_l_wide_right.nd rfl (by first | exact Or.inl rfl | exact Or.inr rfl))) (fun _ _ _ _ _ => pts_nil) (fun _ _ _ _ _ => (pe_op op_addT (pe_op op_addT (pe_op op_addT (pe_slice sl_txt (pv 4) po_none (po_some (pv 10))) (pe_ix ix_txt (pv 4) (pe_op op_add (pv 10) pe_int) (fun _ _ => rfl))) (pe_ix ix_txt (pv 4) (pv 10) (fun _ _ => rfl))) (pe_slice sl_txt (pv 4) (po_some (pe_op op_add (pv 10) pe_int)) po_none))))
      (pss_cons (ps_setLc (i := 8) (own := [("_law_near_here", 11)]) rfl sc_l_wide_right.nd rfl rfl (sw_true rfl rfl rfl (by decide +kernel)) (k_pil K (pv 7)) (blkOk_by (by kernel_rfl)) (fun _ _ _ _ _ => (pg_name (i := 11) sc_l_wide_right.nd rfl (by first | exact Or.inl rfl | exact Or.inr rfl))) (fun _ _ _ _ _ => (pts_one (PW.pt (pw_and (pt_cmpR op_ltT (pv 11) (pv 4) (nomark _)) (pw_and1 (pt_cmpR op_eqT (pe_cal c_least_form hg (hr.mono (by decide)) (pa_cons (pv 2) (pa_cons (pv 11) pa_nil))) (pv 4) (nomark _))))))) (fun _ _ _ _ _ => (pv 11)))
      (pss_cons (ps_set (i := 9) sc_l_wide_right.nd rfl (by first | exact Or.inl rfl | exact Or.inr rfl) (pe_op op_mulT (pv 1) (pv 2)))
      (pss_one (ps_ret (pe_and (pe_cmpR (k_eq K hr.units) (pv 6) (pe_lst pa_nil) (nomark _)) (pe_and (pe_cmpR (k_eq K hr.units) (pv 8) (pe_lst pa_nil) (nomark _)) (pe_one (pe_cal c_l_same hg (hr.mono (by decide)) (pa_cons (pe_cal c_least_form hg (hr.mono (by decide)) (pa_cons (pv 2) (pa_cons (pe_op op_addT (pv 9) (pv 3)) pa_nil))) (pa_cons (pe_cal c_least_form hg (hr.mono (by decide)) (pa_cons (pv 2) (pa_cons (pe_op op_addT (pv 3) (pv 9)) pa_nil))) pa_nil))))))))))))))))))), ?_⟩
    -- letters, depth = (_law_letters(g, 2, 5), _law_size(g, 1, 3))
    refine ⟨_, rfl, g, 2, 5, n + 390, rfl, by decide, by decide, by decide, hG, fun a H1 al a2 a5 b1 g1 => ?_⟩
    refine ⟨_, rfl, g, 1, 3, n + 385, rfl, by decide, by decide, g1, fun d H2 d0 d1 b2 g2 => ?_⟩
    obtain ⟨d, rfl⟩ : ∃ k : Nat, d = (k : Int) := ⟨d.toNat, by omega⟩
    have hd : d ≤ 3 := by omega
    have hab := al.abc
    have hne : a ≠ [] := by
      intro z
      rw [z] at a2
      exact absurd a2 (by decide)
    refine ⟨by show 2 ≤ sizeLine; decide, fun a1 na1 => ?_⟩
    refine ⟨_, _, rfl, .inl (.inl upd_same), rfl, _, _, rfl, _, _, rfl, rfl, ?_⟩
    have g3 := g2.same (same_new (o := HO.tup [T a, .int (d : Int)]) na1)
    have b3 : But g H (upd H2 a1 (.tup [T a, .int (d : Int)])) := (b1.trans b2).new na1
    generalize upd H2 a1 (.tup [T a, .int (d : Int)]) = H3 at *
    -- text = _law_text(g, letters, 6, 14)
    refine ⟨_, rfl, _, rfl, g, a, 6, 14, n + 300, rfl, hne, by omega, by decide, by decide, g3, fun u H4 hu u0 u1 b4 g4 => ?_⟩
    have hub : ∀ c ∈ u, c ∈ abcL := fun c hc => hab c (hu c hc)
    -- told = least_form(depth, text)
    refine ⟨_, rfl, _, rfl, d, u, rfl, by omega, hub, fun H5 v s5 hnf hvl hvu => ?_⟩
    have hva : ∀ c ∈ v, c ∈ a := fun c hc => hu c (hvu c hc)
    have hvb : ∀ c ∈ v, c ∈ abcL := fun c hc => hub c (hvu c hc)
    obtain ⟨t1, t2, t3, t4⟩ := text_show (al_low hvb) (by omega)
    -- if reads(depth, told) != reads(depth, text) or len(told) > len(text):
    refine ⟨_, rfl, _, rfl, d, v, rfl, by omega, few_of (by omega) (by omega) hva, fun H6 p6 s6 n6 e6 => ?_⟩
    refine ⟨_, rfl, _, rfl, d, u, rfl, by omega, few_of (by omega) (by omega) hu, fun H7 p7 s7 n7 e7 => ?_⟩
    refine ne_texts (SqL.of (s7 _ _ e6)) (SqL.of e7) (reads_low hvb) (reads_low hub) ⟨_, rfl, ?_⟩
    rw [decide_eq_true ((reads_iff hvb hub).mpr hnf.al.symm)]
    refine iteF ⟨_, rfl, v, rfl, by omega, _, rfl, u, rfl, by omega, _, _, rfl, rfl, _, rfl, ?_⟩
    rw [decide_eq_false (show ¬ (v.length : Int) > (u.length : Int) by omega)]
    refine iteF ?_
    -- if len(told) == len(text) and told > text:
    refine ⟨_, rfl, v, rfl, by omega, _, rfl, u, rfl, by omega, rfl, _, rfl, ?_⟩
    have hleast := (hnf.least (Alike.refl d u)).1
    have hnlt : v.length = u.length → ¬ u < v := fun hl z => by
      rcases hleast with e | e | ⟨_, e⟩
      · rw [e] at z; exact List.lt_irrefl u z
      · omega
      · exact List.lt_asymm z e
    have hlx : ¬ v.length = u.length → ¬ V.int (v.length : Int) = V.int (u.length : Int) := fun hl => vint_ne (by omega)
    apply join_n
    case h =>
      intro no
      by_cases hl : v.length = u.length
      · rw [decide_eq_true (show V.int (v.length : Int) = V.int (u.length : Int) by rw [hl])]
        refine iteT ⟨_, rfl, _, rfl, v, u, rfl, rfl, _, rfl, ?_⟩
        rw [decide_eq_false (hnlt hl)]
        exact no
      · rw [decide_eq_false (hlx hl)]
        exact iteF no
    case hn =>
      refine iteF ?_
      have s57 := s5.trans (s6.trans s7)
      -- mate = _law_alike(g, letters, depth, text, 20)
      refine ⟨_, rfl, _, rfl, _, rfl, _, rfl, g, a, d, u, 20, n + 100, rfl, hne, by omega, hab, by omega, hu, by omega, by decide, g4.same s57, fun m H8 hm hml hmal b8 g8 => ?_⟩
      have hmb : ∀ c ∈ m, c ∈ abcL := fun c hc => hab c (hm c hc)
      have b08 : But g H H8 := b3.trans (b4.trans ((But.of s57).trans b8))
      -- if not same(least_form(depth, mate), told) or not same(least_form(depth, told), told):
      refine ⟨_, rfl, _, rfl, d, m, rfl, by omega, hmb, fun H9 v3 s9 hnf3 _ _ => ?_⟩
      have e3 : v3 = v := hnf3.eq hnf hmal.symm
      subst e3
      refine ⟨_, rfl, T v3, T v3, .str (tx v3), rfl, .str _, .str _, t1, t2, t3, t4, _, rfl, iteF ?_⟩
      refine ⟨_, rfl, _, rfl, d, v3, rfl, by omega, hvb, fun H10 v4 s10 hnf4 _ _ => ?_⟩
      have e4 : v4 = v3 := hnf4.eq hnf.self (Alike.refl d v3)
      subst e4
      refine ⟨_, rfl, T v4, T v4, .str (tx v4), rfl, .str _, .str _, t1, t2, t3, t4, _, rfl, iteF ?_⟩
      -- goes = [at for at in range(len(told)) if least_form(depth, told[:at] + told[at + 1:]) == told]
      refine ⟨_, rfl, v4, rfl, by omega, _, rfl, by omega, by omega, fun D hD => ?_⟩
      refine lc_pure walk_range (fun _ => none) hD (fun _ _ => trivial) (by omega) (fun i x H11 H12 Qk Nk hi s11 hy hk hn => ?_) (fun H11 s11 e11 => ?_)
      · obtain ⟨rfl, rfl⟩ := hy
        rw [Int.toNat_natCast] at hi
        have e0 : (0 : Int) + (i : Int) = (i : Int) := Int.zero_add _
        refine ⟨rfl, _, rfl, _, rfl, _, rfl, _, rfl, v4, rfl, by omega, _, rfl, _, rfl, _, _, rfl, rfl, _, rfl, v4, rfl, by omega, _, _, rfl, rfl, ?_, d, v4.take i ++ v4.drop (i + 1), ?_, ?_, ?_, fun H13 v5 s13 hnf5 hl5 _ => ?_⟩
        · have c1 := cutL_len v4 none (some ((0 : Int) + (i : Int)))
          have c2 := cutL_len v4 (some ((0 : Int) + (i : Int) + 1)) none
          omega
        · show [V.int (d : Int), T (cutL v4 none (some ((0 : Int) + (i : Int))) ++ cutL v4 (some ((0 : Int) + (i : Int) + 1)) none)] = _
          rw [e0, cut_to, show cutL v4 (some ((i : Int) + 1)) none = v4.drop (i + 1) from cut_from v4 (i + 1)]
        · simp; omega
        · intro c hc
          rcases List.mem_append.mp hc with z | z
          · exact hvb c (List.mem_of_mem_take z)
          · exact hvb c (List.mem_of_mem_drop z)
        rw [List.length_append, List.length_take, List.length_drop] at hl5
        refine ⟨_, rfl, v5, v4, rfl, rfl, _, rfl, ?_⟩
        rw [decide_eq_false (fun z => by rw [z] at hl5; omega)]
        exact iteF (hn _ rfl s13)
      rw [fm_none _ _ fun _ _ => rfl] at e11
      -- turned
      refine ⟨_, rfl, v4, rfl, by omega, _, _, rfl, rfl, _, rfl, by omega, by omega, fun D2 hD2 => ?_⟩
      refine lc_pure walk_range (fun i => some (T (tw v4 i))) hD2 (fun _ _ => trivial) (by omega) (fun i x H12 H13 Qk Nk hi s12 hy hk hn => ?_) (fun H12 s12 e12 => ?_)
      · obtain ⟨rfl, rfl⟩ := hy
        have hi2 : i + 1 < v4.length := by omega
        have e0 : (0 : Int) + (i : Int) = (i : Int) := Int.zero_add _
        have x1 : atI v4 ((0 : Int) + (i : Int) + 1) = some ((v4[i + 1]?).getD 0) := by rw [e0]; exact atI_nat (j := i + 1) (get_some hi2)
        have x2 : atI v4 ((0 : Int) + (i : Int)) = some ((v4[i]?).getD 0) := by rw [e0]; exact atI_nat (get_some (by omega))
        have c1 := cutL_len v4 none (some ((0 : Int) + (i : Int)))
        have c2 := cutL_len v4 (some ((0 : Int) + (i : Int) + 2)) none
        refine ⟨rfl, yes_ (iteT ?_)⟩
        refine ⟨_, rfl, _, rfl, _, rfl, v4, rfl, by omega, _, rfl, _, rfl, _, _, rfl, rfl, v4, _, _, rfl, rfl, by omega, x1, _, _, rfl, rfl, by rw [List.length_singleton]; omega, _, rfl, _, rfl, v4, _, _, rfl, rfl, by omega, x2, _, _, rfl, rfl, by rw [List.length_append, List.length_singleton, List.length_singleton]; omega, _, rfl, _, rfl, _, _, rfl, rfl, _, rfl, v4, rfl, by omega, _, _, rfl, rfl, by rw [List.length_append, List.length_append, List.length_singleton, List.length_singleton]; omega, ?_⟩
        rw [e0, cut_to, show cutL v4 (some ((i : Int) + 2)) none = v4.drop (i + 2) from cut_from v4 (i + 2)]
        exact hk _ _ rfl (Same.refl _)
      rw [fm_some, show (List.range ((v4.length : Int) - 1).toNat).map (fun j => T (tw v4 j)) = ((List.range ((v4.length : Int) - 1).toNat).map (tw v4)).map T by rw [List.map_map]; rfl] at e12
      have hts : ∀ y ∈ (List.range ((v4.length : Int) - 1).toNat).map (tw v4), y.length = v4.length ∧ ∀ c ∈ y, c ∈ v4 := by
        intro y hy
        obtain ⟨i, hi, rfl⟩ := List.mem_map.mp hy
        have := List.mem_range.mp hi
        exact tw_ok (by omega)
      have htl : ((List.range ((v4.length : Int) - 1).toNat).map (tw v4)).length ≤ 1000 := by
        rw [List.length_map, List.length_range]; omega
      generalize (List.range ((v4.length : Int) - 1).toNat).map (tw v4) = ts at e12 hts htl
      -- less
      refine ⟨_, rfl, D2, rfl, ⟨_, SqL.of e12⟩, fun D3 hD3 => ?_⟩
      refine lc_pure (walk_list (xs := ts.map T)) (fun _ => none) hD3 (fun H13 s13 => SqL.of (s13 _ _ e12)) (by rw [List.length_map]; omega) (fun i x H13 H14 Qk Nk hi s13 hy hk hn => ?_) (fun H13 s13 e13 => ?_)
      · obtain ⟨rfl, hx⟩ := hy
        obtain ⟨y, hy, rfl⟩ := List.mem_map.mp (List.mem_of_getElem? hx)
        obtain ⟨y1, y2⟩ := hts y hy
        refine ⟨rfl, _, rfl, _, rfl, y, v4, rfl, rfl, _, rfl, ?_⟩
        by_cases hlt : y < v4
        · rw [decide_eq_true hlt]
          refine iteT ⟨_, rfl, _, rfl, d, y, rfl, by omega, fun c hc => hvb c (y2 c hc), fun H15 v6 s15 hnf6 _ _ => ?_⟩
          refine ⟨_, rfl, v6, v4, rfl, rfl, _, rfl, ?_⟩
          rw [decide_eq_false (fun z => by
            rcases (hnf6.least (Alike.refl d y)).1 with e | e | ⟨_, e⟩
            · rw [← e, z] at hlt; exact List.lt_irrefl v4 hlt
            · rw [z] at e; omega
            · rw [z] at e; exact List.lt_asymm hlt e)]
          exact iteF (hn _ rfl s15)
        · rw [decide_eq_false hlt]
          exact iteF (iteF (hn _ rfl (Same.refl _)))
      rw [fm_none _ _ fun _ _ => rfl] at e13
      -- whole = letters * depth
      refine ⟨_, rfl, _, rfl, a, d, rfl, rfl, by omega, Nat.le_trans (Nat.mul_le_mul a5 hd) (by decide), ?_⟩
      have hfl : ((List.replicate d a).flatten).length ≤ 15 := by
        rw [List.length_flatten, List.map_replicate, List.sum_replicate_nat]
        exact Nat.le_trans (Nat.mul_le_mul hd a5) (by decide)
      have hfa : ∀ c ∈ (List.replicate d a).flatten, c ∈ a := by
        intro c hc
        obtain ⟨y, hy, hc'⟩ := List.mem_flatten.mp hc
        rw [List.eq_of_mem_replicate hy] at hc'
        exact hc'
      have hrep : ∀ A ∈ List.replicate d a, ∀ c ∈ a, c ∈ A := fun A hA c hc => by rw [List.eq_of_mem_replicate hA]; exact hc
      have s1013 := s11.trans (s12.trans s13)
      have e11' := (s12.trans s13) _ _ e11
      -- return goes == [] and less == [] and same(..)
      refine ⟨_, rfl, Nat.zero_le _, fun b1' nb1 => ?_⟩
      have sb := same_new (o := HO.lst ([] : List V)) nb1
      refine eq_nil0 (SqL.of (sb _ _ e11')) (SqL.of upd_same) ⟨true, rfl, iteT ?_⟩
      refine ⟨_, rfl, Nat.zero_le _, fun b2' nb2 => ?_⟩
      have sb2 := sb.trans (same_new (o := HO.lst ([] : List V)) nb2)
      refine eq_nil0 (SqL.of (sb2 _ _ e13)) (SqL.of upd_same) ⟨true, rfl, iteT ?_⟩
      refine ⟨_, rfl, _, rfl, _, rfl, _, _, rfl, rfl, by omega, d, _, rfl, by rw [List.length_append]; omega, fun c hc => hab c ((List.mem_append.mp hc).elim (hfa c) (hu c)), fun H20 v7 s20 hnf7 hl7 hv7 => ?_⟩
      refine ⟨_, rfl, _, rfl, _, rfl, _, _, rfl, rfl, by omega, d, _, rfl, by rw [List.length_append]; omega, fun c hc => hab c ((List.mem_append.mp hc).elim (hu c) (hfa c)), fun H21 v8 s21 hnf8 hl8 hv8 => ?_⟩
      have hall : Alike d ((List.replicate d a).flatten ++ u) (u ++ (List.replicate d a).flatten) := by
        have := full_alike (a := a) (d := d) (Ls := List.replicate d a) (Ms := List.replicate d a) (x := []) (y := u) (x' := u) (y' := []) hrep hrep (by simp) (by simp) (fun c hc => by
          rw [List.nil_append] at hc
          exact (List.mem_append.mp hc).elim (hfa c) (hu c)) (fun c hc => by
          rw [List.append_nil] at hc
          exact (List.mem_append.mp hc).elim (hu c) (hfa c))
        rw [List.nil_append, List.append_nil] at this
        exact this
      have e8 : v7 = v8 := hnf7.eq hnf8 hall
      subst e8
      have hv7b : ∀ c ∈ v7, c ∈ abcL := fun c hc => hab c ((List.mem_append.mp (hv7 c hc)).elim (hfa c) (hu c))
      rw [List.length_append] at hl7
      obtain ⟨w1, w2, w3, w4⟩ := text_show (al_low hv7b) (show v7.length ≤ 10000 by omega)
      have sall := s9.trans (s10.trans (s1013.trans (sb2.trans (s20.trans s21))))
      exact ⟨T v7, T v7, .str (tx v7), rfl, .str _, .str _, w1, w2, w3, w4, q _ (b08.trans (But.of sall)) ((g8.same sall).less (by omega))⟩
end
end K79

set_option Elab.async false
set_option linter.all false
set_option maxRecDepth 100000
set_option maxHeartbeats 4000000
set_option exponentiation.threshold 5000
namespace K79
open PySem PySem.Spec PyProof.Rows L2 Sk
def redB (d : Nat) (u : List Nat) : Bool := (List.range u.length).all fun j => decide (Lf (u.take j) ((u[j]?).getD 0) + Rf (u.drop (j + 1)) ((u[j]?).getD 0) + 2 ≤ d + 1)
def ordB (d : Nat) (u : List Nat) : Bool := (List.range u.length).all fun j => !(decide (rx u j = rx u (j + 1)) && decide (ry u j = ry u (j + 1)) && decide ((rx u j).getD 0 + (ry u j).getD 0 + 2 = d + 1) && decide ((u[j + 1]?).getD 0 < (u[j]?).getD 0))
theorem nf_check {d : Nat} {u : List Nat} (h1 : redB d u = true) (h2 : ordB d u = true) : NF d u u := by
  refine ⟨Alike.refl d u, reduced_at fun j c hc => ?_, order_of (l := u) (fun _ => ⟨rfl, rfl⟩) fun j hj => ?_⟩
  · have hj := (List.getElem?_eq_some_iff.mp hc).1
    have := List.all_eq_true.mp h1 j (List.mem_range.mpr hj)
    rw [decide_eq_true_eq, hc] at this
    exact this
  · rintro ⟨e1, e2, ⟨x, y, ex, ey, exy⟩, a, b, ha, hb, hlt⟩
    have := List.all_eq_true.mp h2 j (List.mem_range.mpr (by omega))
    rw [ha, hb, decide_eq_true e1, decide_eq_true e2, decide_eq_true (show (rx u j).getD 0 + (ry u j).getD 0 + 2 = d + 1 by rw [ex, ey]; exact exy), decide_eq_true (show (some b).getD 0 < (some a).getD 0 from hlt)] at this
    cases this
abbrev told : PyData := .list [.str (tx [97, 98, 97, 98]), .str (tx [97, 98]), .str (tx [97, 98, 98, 97]), .str (tx [])]
theorem told_ok : told.showable = true ∧ told.hasDict = false ∧ told.depth ≤ 60 ∧ told.shown.length ≤ sizeLine :=
  ⟨by decide +kernel, by decide +kernel, by decide +kernel, shows (by decide +kernel) (by decide +kernel)⟩
section
variable {P : Program} {w : World} {K : PySem.W.Frag} {mg : Str → Option Value} {base : Heap}
def sp_law (K : PySem.W.Frag) : Sp := fun vs H Q _ => ∃ (s : Addr) (ns : List Int), vs = [.ref s] ∧ SqL K H s (ns.map V.int) ∧ ∀ H', Q (.bl true) H'
theorem ok_law (F : Facts fa fn K mg) (c_l_generator : Callee P w K mg base 2 "_law_generator" p_l_generator (sp_l_generator K)) (c_l_small_right : Callee P w K mg base 7 "_law_small_right" p_l_small_right sp_l_small_right) (c_l_wide_right : Callee P w K mg base 7 "_law_wide_right" p_l_wide_right sp_l_wide_right) (c_least_form : Callee P w K mg base 6 "least_form" p_least_form sp_least_form) (c_l_same : Callee P w K mg base 1 "_law_same" p_l_same (sp_l_same K)) : Body P w K mg base 7 "law" s_law n_law p_law (sp_law K) := by
  intro f cdv A outer t0 H vs Q E hg hr h
  · obtain ⟨s, ns, rfl, hS, q⟩ := h
    refine ⟨_, (pss_cons (ps_for PassesOwn.never rfl (pi_range1 (by rfl) (F.free 40) (pa_cons pe_int pa_nil)) (pg_name (i := 1) sc_law.nd rfl (by first | exact Or.inl rfl | exact Or.inr rfl))
      (pss_cons (ps_set (i := 2) sc_law.nd rfl (by first | exact Or.inl rfl | exact Or.inr rfl) (pe_cal c_l_generator hg (hr.mono (by decide)) (pa_cons (pv 0) (pa_cons (pv 1) pa_nil))))
      (pss_one (ps_if (PW.pt (pw_or (pt_not (pt_val (pe_cal c_l_small_right hg (hr.mono (by decide)) (pa_cons (pv 2) pa_nil)))) (pw_or1 (pt_not (pt_val (pe_cal c_l_wide_right hg (hr.mono (by decide)) (pa_cons (pv 2) pa_nil))))))) (pss_one (ps_ret pe_bl))
      pss_nil))))
      (pss_cons (ps_set (i := 3) sc_law.nd rfl (by first | exact Or.inl rfl | exact Or.inr rfl) (k_bm K PySem.F.plainAttrs_str PySem.F.slot_str_join PySem.F.type_str_join (k_join K) (pe_txt []) (pa_cons (pe_lc (own := [("_law_letter", 5)]) rfl sc_law.nd (pi_str (pe_txt [97, 98, 99, 100, 101, 102, 103, 104, 105, 106, 107, 108, 109, 110, 111, 112, 113, 114, 115, 116, 117, 118, 119, 120, 121, 122])) (blkOk_by (by kernel_rfl)) (fun _ _ _ _ _ => (pg_name (i := 5) sc_law.nd rfl (by first | exact Or.inl rfl | exact Or.inr rfl))) (fun _ _ _ _ _ => pts_nil) (fun _ _ _ _ _ => (pv 5))) pa_nil)))
      (pss_cons (ps_if (PW.pt (pw_or (pt_not (pt_val (pe_cal c_l_same hg (hr.mono (by decide)) (pa_cons (pe_cal c_least_form hg (hr.mono (by decide)) (pa_cons pe_int (pa_cons (pe_op op_mulT (pe_revT (pv 3)) pe_int) pa_nil))) (pa_cons (pv 3) pa_nil))))) (pw_or1 (pt_not (pt_val (pe_cal c_l_same hg (hr.mono (by decide)) (pa_cons (pe_cal c_least_form hg (hr.mono (by decide)) (pa_cons pe_int (pa_cons (pe_op op_mulT (pe_txt [97, 98, 99, 100]) pe_int) pa_nil))) (pa_cons (pe_op op_mulT (pe_txt [97, 98, 99, 100]) pe_int) pa_nil)))))))) (pss_one (ps_ret pe_bl))
      pss_nil)
      (pss_cons (ps_set (i := 4) sc_law.nd rfl (by first | exact Or.inl rfl | exact Or.inr rfl) (pe_lst (pa_cons (pe_cal c_least_form hg (hr.mono (by decide)) (pa_cons pe_int (pa_cons (pe_txt [98, 97, 97, 98]) pa_nil))) (pa_cons (pe_cal c_least_form hg (hr.mono (by decide)) (pa_cons pe_int (pa_cons (pe_txt [97, 98, 98, 97]) pa_nil))) (pa_cons (pe_cal c_least_form hg (hr.mono (by decide)) (pa_cons pe_int (pa_cons (pe_txt [97, 98, 98, 97]) pa_nil))) (pa_cons (pe_cal c_least_form hg (hr.mono (by decide)) (pa_cons pe_int (pa_cons (pe_txt []) pa_nil))) pa_nil))))))
      (pss_one (ps_ret (pe_cal c_l_same hg (hr.mono (by decide)) (pa_cons (pv 4) (pa_cons (pe_lst (pa_cons (pe_txt [97, 98, 97, 98]) (pa_cons (pe_txt [97, 98]) (pa_cons (pe_txt [97, 98, 98, 97]) (pa_cons (pe_txt []) pa_nil))))) pa_nil))))))))), ?_⟩
    refine ⟨_, rfl, by omega, by omega, for_it walk_range (fun i σ H1 => ∃ (x1 x2 x3 x4 x5 : Option V), σ = [some (.ref s), x1, x2, x3, x4, x5] ∧ Same H H1) ?start (fun _ _ _ _ _ => trivial) ?turn ?fin⟩
    case start => exact ⟨none, none, none, none, none, rfl, Same.refl _⟩
    case turn =>
      rintro i x σ H1 H2 hi ⟨x1, x2, x3, x4, x5, rfl, s1⟩ ⟨rfl, rfl⟩
      have hi2 : i < 2 := hi
      refine ⟨_, rfl, _, rfl, s, ns, i, ?_, s1.seq hS, by omega, fun g H3 s3 ng hg3 => ?_⟩
      · show [V.ref s, V.int (0 + (i : Int))] = _
        rw [Int.zero_add]
      refine ⟨_, rfl, g, 2 ^ 39 - 500, rfl, hg3.less (by omega), fun H4 b4 g4 => ?_⟩
      refine ⟨_, rfl, iteF ?_⟩
      refine ⟨_, rfl, g, 2 ^ 39 - 1000, rfl, g4.less (by omega), fun H5 b5 g5 => ?_⟩
      exact ⟨_, rfl, iteF ⟨_, _, _, _, _, rfl, s1.trans (((But.of s3).trans (b4.trans b5)).same ng)⟩⟩
    case fin =>
      rintro σ H1 ⟨x1, x2, x3, x4, x5, rfl, s1⟩
      refine ⟨rfl, _, rfl, fun D hD => ?_⟩
      refine lc_pure walk_txt (fun m => (abcL[m]?).map fun c => T [c]) hD (fun _ _ => trivial) (by decide) (fun m y H5 H6 Qk Nk hm s5 hy hk hn => ?_) (fun H2 s2 e2 => ?_)
      · obtain ⟨rfl, c, hc, rfl⟩ := hy
        have hc' : abcL[m]? = some c := hc
        exact ⟨rfl, yes_ (iteT ⟨_, rfl, hk _ _ (by rw [hc']; rfl) (Same.refl _)⟩)⟩
      have e2 : H2 D = some (.lst ((abcL.map fun c => [c]).map T)) := by
        exact e2.trans (congrArg (fun z => some (HO.lst z)) (by rw [List.map_map]; exact fm_get abcL fun c => T [c]))
      refine ⟨[], D, _, rfl, rfl, SqL.of e2, by decide, ?_⟩
      rw [joinL_nil, show (abcL.map fun c => [c]).flatten = abcL by decide]
      -- least_form(1, due[::-1] * 11) == due
      refine ⟨_, rfl, abcL, rfl, by decide, abcL.reverse, 11, rfl, rfl, by decide, by decide, 1, _, rfl, by decide, by decide, fun H3 v1 s3 h1 _ _ => ?_⟩
      have a1 : Alike 1 (List.replicate 11 abcL.reverse).flatten abcL := by
        have := full_alike (a := abcL) (d := 1) (Ls := List.replicate 11 abcL.reverse) (Ms := [abcL]) (x := []) (y := []) (x' := []) (y' := []) (by decide) (by decide) (by decide) (by decide) (by decide) (by decide)
        simpa using this
      have e1 : v1 = abcL := h1.eq (nf_check (d := 1) (u := abcL) (by decide +kernel) (by decide +kernel)) a1
      subst e1
      obtain ⟨t1, t2, t3, t4⟩ := text_show (v := abcL) (al_low fun c h => h) (by decide)
      refine ⟨_, rfl, T abcL, T abcL, .str (tx abcL), rfl, .str _, .str _, t1, t2, t3, t4, _, rfl, iteF ?_⟩
      refine ⟨[97, 98, 99, 100], 20, rfl, rfl, by decide, by decide, 12, _, rfl, by decide, by decide, fun H4 v2 s4 h2 _ _ => ?_⟩
      have a2 : Alike 12 (List.replicate 20 [97, 98, 99, 100]).flatten (List.replicate 12 [97, 98, 99, 100]).flatten := by
        have := full_alike (a := [97, 98, 99, 100]) (d := 12) (Ls := List.replicate 20 [97, 98, 99, 100]) (Ms := List.replicate 12 [97, 98, 99, 100]) (x := []) (y := []) (x' := []) (y' := []) (by decide) (by decide) (by decide) (by decide) (by decide) (by decide)
        simpa using this
      have e2 : v2 = (List.replicate 12 [97, 98, 99, 100]).flatten := h2.eq (nf_check (by decide +kernel) (by decide +kernel)) a2
      subst e2
      obtain ⟨k1, k2, k3, k4⟩ := text_show (v := (List.replicate 12 [97, 98, 99, 100]).flatten) (al_low (by decide)) (by decide)
      refine ⟨[97, 98, 99, 100], 12, rfl, rfl, by decide, by decide, _, _, .str (tx _), rfl, .str _, .str _, k1, k2, k3, k4, _, rfl, iteF ?_⟩
      -- told = [...]
      refine ⟨2, [98, 97, 97, 98], rfl, by decide, by decide, fun H5 w1 s5 f1 _ _ => ?_⟩
      refine ⟨1, [97, 98, 98, 97], rfl, by decide, by decide, fun H6 w2 s6 f2 _ _ => ?_⟩
      refine ⟨3, [97, 98, 98, 97], rfl, by decide, by decide, fun H7 w3 s7 f3 _ _ => ?_⟩
      refine ⟨7, [], rfl, by decide, by decide, fun H8 w4 s8 f4 l4 _ => ?_⟩
      have g1 : w1 = [97, 98, 97, 98] := f1.eq (nf_check (d := 2) (by decide +kernel) (by decide +kernel)) (full_alike (a := [97, 98]) (d := 2) (Ls := [[98, 97], [97, 98]]) (Ms := [[97, 98], [97, 98]]) (x := []) (y := []) (x' := []) (y' := []) (by decide) (by decide) (by decide) (by decide) (by decide) (by decide))
      have g2 : w2 = [97, 98] := f2.eq (nf_check (d := 1) (by decide +kernel) (by decide +kernel)) (full_alike (a := [97, 98]) (d := 1) (Ls := [[97, 98], [98, 97]]) (Ms := [[97, 98]]) (x := []) (y := []) (x' := []) (y' := []) (by decide) (by decide) (by decide) (by decide) (by decide) (by decide))
      have g3 : w3 = [97, 98, 98, 97] := f3.eq (nf_check (d := 3) (by decide +kernel) (by decide +kernel)) (Alike.refl 3 _)
      have g4 : w4 = [] := nf_long (by decide) f4 l4
      subst g1 g2 g3 g4
      refine ⟨by show 4 ≤ sizeLine; decide, fun b1 nb1 => ?_⟩
      refine ⟨_, rfl, by show 4 ≤ sizeLine; decide, fun b2 nb2 => ?_⟩
      obtain ⟨z1, z2, z3, z4⟩ := told_ok
      refine ⟨.ref b1, .ref b2, told, rfl, ?_, ?_, z1, z2, z3, z4, q _⟩
      · exact .lst (SqL.of ((same_new nb2) _ _ (upd_same (a := b1)))) (.cons (.str _) (.cons (.str _) (.cons (.str _) (.cons (.str _) .nil))))
      · exact .lst (SqL.of upd_same) (.cons (.str _) (.cons (.str _) (.cons (.str _) (.cons (.str _) .nil))))
end
end K79

set_option Elab.async false
set_option linter.all false
set_option maxRecDepth 100000
set_option maxHeartbeats 0
namespace K79
open PySem PySem.Spec PyProof.Rows L2 Sk
theorem facts {P : Program} {w : World} {K : PySem.W.Frag} {h : Heap} {mg : Str → Option Value} {f : Addr} (X : K.In h) (G : h.Ns mainGlobals mg) (hfa : mg ("law" : Str) = some (.ref f)) (c : He.SaysD fa fn K) :
    ∃ fd : FuncData, (∀ (s : Shared) (v : Value), BindsTo s fd ⟨[v], []⟩ [("_law_script", v)]) ∧ ∀ base : Heap, K.In base → base.Ns mainGlobals mg → FnG P w K mg base 8 f fd ["_law_script"] (sp_law K) := by
  have F : Facts fa fn K mg := ⟨c, h, X, G⟩
  have e := hfa.symm.trans (F.glo 32 (x := "law"))
  cases e
  obtain ⟨fd, b, hF⟩ := F.lawG (P := P) (w := w) 32 sc_law (sp := sp_law K) (k := 7) (fun vs H Q E h => by
      obtain ⟨s, ns, rfl, _⟩ := h
      rfl) (fun _ _ _ _ _ _ us hl => match us, hl with | [_], _ => rfl) (fun base _ _ => by
      have c_is_whole := ok_is_whole (P := P) (w := w) (base := base) F
      have c_is_between := ok_is_between (P := P) (w := w) (base := base) F c_is_whole
      have c_check_number := ok_check_number (P := P) (w := w) (base := base) F c_is_between
      have c_check_depth := ok_check_depth (P := P) (w := w) (base := base) F c_check_number
      have c_is_string_of := ok_is_string_of (P := P) (w := w) (base := base) F
      have c_is_letters_alone := ok_is_letters_alone (P := P) (w := w) (base := base) F c_is_string_of
      have c_check_text := ok_check_text (P := P) (w := w) (base := base) F c_is_letters_alone
      have c_ranks_ahead := ok_ranks_ahead (P := P) (w := w) (base := base) F
      have c_ranks_of := ok_ranks_of (P := P) (w := w) (base := base) F c_ranks_ahead
      have c_taken_once := ok_taken_once (P := P) (w := w) (base := base) F c_ranks_ahead
      have c_taken_down := ok_taken_down (P := P) (w := w) (base := base) F c_taken_once
      have c_put_in_order := ok_put_in_order (P := P) (w := w) (base := base) F c_ranks_of
      have c_way_down := ok_way_down (P := P) (w := w) (base := base) F c_taken_down c_put_in_order
      have c_least_form_of := ok_least_form_of (P := P) (w := w) (base := base) F c_way_down
      have c_least_form := ok_least_form (P := P) (w := w) (base := base) F c_check_depth c_check_text c_least_form_of
      have c_read_alike := ok_read_alike (P := P) (w := w) (base := base) F c_check_depth c_check_text c_least_form_of
      have c_l_hash := ok_l_hash (P := P) (w := w) (base := base) F
      have c_l_random := ok_l_random (P := P) (w := w) (base := base) F c_l_hash
      have c_l_cell := ok_l_cell (P := P) (w := w) (base := base) F
      have c_l_generator := ok_l_generator (P := P) (w := w) (base := base) F c_l_cell
      have c_l_size := ok_l_size (P := P) (w := w) (base := base) F c_l_random
      have c_l_text := ok_l_text (P := P) (w := w) (base := base) F c_l_size c_l_random
      have c_l_is_read := ok_l_is_read (P := P) (w := w) (base := base) F
      have c_l_same := ok_l_same (P := P) (w := w) (base := base) F
      have c_l_letters := ok_l_letters (P := P) (w := w) (base := base) F c_l_size c_l_random
      have c_l_near := ok_l_near (P := P) (w := w) (base := base) F c_l_random
      have c_l_longer := ok_l_longer (P := P) (w := w) (base := base) F c_l_is_read
      have c_l_reads := ok_l_reads (P := P) (w := w) (base := base) F c_l_longer
      have c_l_alike := ok_l_alike (P := P) (w := w) (base := base) F c_l_reads c_l_near
      have c_l_first_alike := ok_l_first_alike (P := P) (w := w) (base := base) F c_l_reads
      have c_l_small_right := ok_l_small_right (P := P) (w := w) (base := base) F c_l_letters c_l_random c_l_text c_l_first_alike c_least_form c_l_same c_l_alike c_l_near c_l_reads c_read_alike
      have c_l_wide_right := ok_l_wide_right (P := P) (w := w) (base := base) F c_l_letters c_l_size c_l_text c_least_form c_l_reads c_l_alike c_l_same
      exact ok_law (P := P) (w := w) (base := base) F c_l_generator c_l_small_right c_l_wide_right c_least_form c_l_same)
  exact ⟨fd, fun s v => b s [v] rfl, hF⟩
end K79
open PySem PySem.W PySem.Calls PyProof.Rows
theorem PySem.Challenge.cw_skipcounts_k79_whole_one_least_form_holds : PySem.Challenge.rw_skipcounts_k79_whole_one_least_form.Holds := by
  w_on; o_law
  refine HandSHeadRun.head_any (r := OpenLaw.row PySem.Challenge.rw_skipcounts_k79_whole_one_least_form) (q := view (OpenLaw.row PySem.Challenge.rw_skipcounts_k79_whole_one_least_form).prog [41]) (H := K79.hk) (ob := K79.ob) (M := 4000) (loose := K79.lo) (d := HandSHeadRun.topDef (OpenLaw.row PySem.Challenge.rw_skipcounts_k79_whole_one_least_form).prog 41) (kwd := []) K79.ob_eq
    (by kernel_rfl) (fun s => by kernel_rfl) K79.run (by kernel_rfl) (by kernel_rfl) (by kernel_rfl) (by rfl) (by first | assumption | decide +kernel) (by decide +kernel) ⟨rfl, rfl, rfl, rfl, rfl, by decide +kernel⟩ ?hw ?hc
  case hw => w_witness2
  case hc =>
    refine Sk.walk_G (l := PySem.Challenge.rw_skipcounts_k79_whole_one_least_form) (n := 63) (k := 8) (x := "_law_script") rfl (by decide) (by kernel_rfl) ⟨rfl, by decide, by decide⟩ ?F
    intro w mg fa h Y G hmg0
    obtain ⟨K, KX, c⟩ := Y
    have hmg : mg ("law" : PySem.Str) = some (.ref fa) := by
      have e : (HandSHeadRun.topDef (OpenLaw.row PySem.Challenge.rw_skipcounts_k79_whole_one_least_form).prog 41).name = ("law" : PySem.Str) := by kernel_rfl
      rw [← e]
      exact hmg0
    obtain ⟨fd, hb, hF⟩ := K79.facts (P := (PySem.Challenge.rw_skipcounts_k79_whole_one_least_form).prog) (w := w) KX G hmg c
    exact ⟨K, fd, K79.sp_law K, KX, hb, fun H a ns hl hS => ⟨a, ns, rfl, hS, fun _ => rfl⟩, hF⟩

