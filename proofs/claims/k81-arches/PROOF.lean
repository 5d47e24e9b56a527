import PyProof.Rows.All
import HandS.ForMost
import HandS.IsInst
import HandS.StrMore
import HandS.DictComp
import HandS.Wide
import HandS.WideBits
import HandS.Walk
import HandS.Defaults
import PyProof.ReprRoads
import HandS.HeadEnd
import PyProof.ListStr
import PyProof.StrLawsIn
import PyProof.Rows.StrCut
import PyProof.Rows.RuleB_pow
import PyProof.StrOps2
import PyProof.Rows.StrMeet
import HandS.Head0
import HandS.Head1
import HandS.Head2
import HandS.HeadHook1
import HandS.HeadHook2
import KE.KRevSl
import PySem.Challenge.RW_skipcounts_k81_arches_and_missing_texts
set_option Elab.async false
set_option linter.all false
set_option maxRecDepth 100000
set_option maxHeartbeats 4000000
/-! Sk: a def's promise where no repr is under way (the guards are empty), its call, the law's own call. -/
namespace Sk
open PySem PySem.Spec PyProof.Rows L2

/-- a promise kept wherever there is room and no repr is under way -/
structure FnG (P : Program) (w : World) (K : PySem.W.Frag) (mg : Str → Option Value) (base : Heap) (k : Nat) (f : Addr) (fd : FuncData) (ps : List Str) (sp : Sp) : Prop where
  cnt : ∀ vs H Q E, sp vs H Q E → vs.length = ps.length
  go : ∀ (A : Around) (outer : List Env) (s : Shared) (H : Hp) (args : Args) (us : List Value) (vs : List V) (Q : VK) (E : XK),
    A.guards = some [] → Room k A → Env0 P w K mg base A outer s H → BindsTo s fd args (ps.zip us) → Vals vs us → sp vs H Q E →
    codeAny (model P w) A (.call (.ref f) args) (CR CX0 outer P w H s Q E) s

section
variable {P : Program} {w : World} {K : PySem.W.Frag} {mg : Str → Option Value} {base : Heap} {k : Nat} {f : Addr} {fd : FuncData} {ps : List Str} {sp : Sp}
theorem FnG.up {j : Nat} (F : FnG P w K mg base j f fd ps sp) (h : j ≤ k) : FnG P w K mg base k f fd ps sp :=
  ⟨F.cnt, fun A outer s H args us vs Q E hg hr => F.go A outer s H args us vs Q E hg (hr.mono h)⟩

/-- a def by its body -/
theorem fnG_of {name qual : Str} {params : Arguments} {body : List Stmt} {scope : Scope} {dV kV doc pm cdv ct oc : Value} {an od : Option Addr} {osl : Array (Option Value)} {N : List Str}
    (at_ : K.lookup f = some ⟨oc, od, .func (PySem.W.fnOf name qual params body scope dV kV doc pm an cdv ct), osl⟩) (hcd : PySem.W.codeIn K cdv qual = true) (S : FnScope N ps scope)
    (cnt : ∀ vs H Q E, sp vs H Q E → vs.length = ps.length)
    (hb : ∀ (A : Around) (outer : List Env) (s : Shared) (H : Hp) (vs : List V) (Q : VK) (E : XK), A.guards = some [] → Room k (A.deeper (envOfC qual scope s.heap.objs.size f cdv)) → sp vs H Q E →
      ∃ t, PSs (cxOf CX0 P w K mg base N qual scope f cdv A outer s H E) body t ∧ t { nx := fun _ H' => Q .non H', rt := Q } (start N vs) H) :
    FnG P w K mg base (k + 1) f (PySem.W.fnOf name qual params body scope dV kV doc pm an cdv ct) ps sp := by
  constructor
  · exact cnt
  intro A outer s H args us vs Q E hg hr e0 bnd rv hs
  have many := cnt vs H Q E hs
  have inK : K.In s.heap := e0.mod.kin.keeps (fun b o z => (e0.bs b o z).1)
  have nolim : s.heap.NoLimit := e0.mod.nolimit.keeps (fun b o z => (e0.bs b o z).1)
  refine codeAny_call_function hr.depth (inK _ _ at_) rfl S.co S.gen rfl
    (PySem.W.codeRec_of inK hcd) (bnd _ _ _ _ ?_)
  refine wpAny_newFunctionEnv_cells S.kind ?kinds ?rest
  case kinds =>
    rintro ⟨y, u⟩ hy
    cases S.par y (List.of_mem_zip hy).1 with
    | inl l => exact Or.inl l
    | inr c => exact Or.inr ⟨c, PySem.W.cellsFrom_some _ _ _ (.inl c)⟩
  case rest =>
    intro env he s1 x
    subst he
    refine ⟨nolim.keeps x.toInCall.keep, codeAny_func ?_⟩
    obtain ⟨t, ht, hq⟩ := hb A outer s H vs Q E hg (hr.deeper _) hs
    have J := inv_start (CX := CX0) (E := E) S hr.hd e0 many rv x
    refine wpAny_mono (ht.run [] s1 (start N vs) H _ J hq) ?_ (fun e s' z => z)
    intro fl s' z
    cases fl with
    | next =>
      obtain ⟨σ', H', I', q⟩ := z
      exact ⟨V.non, H', I'.os, I'.bare, I'.base, I'.hok, rfl, q⟩
    | ret u =>
      obtain ⟨v, σ', H', I', r', q⟩ := z
      exact ⟨v, H', I'.os, I'.bare, I'.base, I'.hok, r', q⟩
    | brk =>
      obtain ⟨_, _, _, q⟩ := z
      exact q.elim
    | cont =>
      obtain ⟨_, _, _, q⟩ := z
      exact q.elim
end

/-- what a caller knows of a def of the module: its promise, its place -/
def Callee (P : Program) (w : World) (K : PySem.W.Frag) (mg : Str → Option Value) (base : Heap) (k : Nat) (x : Str) (ps : List Str) (sp : Sp) : Prop :=
  ∃ (f : Addr) (fd : FuncData), FnG P w K mg base k f fd ps sp ∧ Binds K fd ps [] ∧ PySem.W.keepIn K (.ref f) = true ∧ mg x = some (.ref f)
theorem Callee.up {P : Program} {w : World} {K : PySem.W.Frag} {mg : Str → Option Value} {base : Heap} {j k : Nat} {x : Str} {ps : List Str} {sp : Sp} (c : Callee P w K mg base j x ps sp) (h : j ≤ k) :
    Callee P w K mg base k x ps sp := by
  obtain ⟨f, fd, F, r⟩ := c
  exact ⟨f, fd, F.up h, r⟩

section
variable {X : Cx} {k : Nat} {f : Addr} {fd : FuncData} {ps : List Str} {sp : Sp} {x : Str} {p pos : Pos} {e : Expr} {es : List Expr} {t : TA}
theorem run_G {pins : List (Addr × Obj)} {σ : L2.St} {H : Hp} {s : Shared} {Q : VK} {us : List Value} {vs : List V} (F : FnG X.prog X.w X.K X.mg X.base k f fd ps sp) (hg : X.A.guards = some []) (hr : Room k X.A) (hb : Binds X.K fd ps [])
    (I : Inv X pins σ H s) (r : Vals vs us) (h : sp vs H Q E0) : wpAny (model X.prog X.w) X.A (call (.ref f) us) (EP X pins σ Q) X.xe s := by
  have n : us.length = ps.length := r.length.symm.trans (F.cnt _ _ _ _ h)
  have b := hb s us I.kIn (by rw [List.append_nil]; exact n)
  rw [List.append_nil] at b
  refine wpAny_call (codeAny_mono (F.go X.A X.stack s H ⟨us, []⟩ us vs Q E0 hg hr I.env0 b r h) ?_)
  intro res s' z
  cases res with
  | error e => exact False.elim z
  | ok fl => cases fl with
    | ret u => exact I.after z
    | next => exact False.elim z
    | brk => exact False.elim z
    | cont => exact False.elim z
/-- f(e, ..) -/
def tCal (sp : Sp) (t : TA) : TE := fun σ H Q => t σ H fun vs H1 => sp vs H1 Q E0
theorem pe_cal (c : Callee X.prog X.w X.K X.mg X.base k x ps sp) (hg : X.A.guards = some []) (hr : Room k X.A) (ha : PA X (e :: es) t) (hgl : Gl X x := by rfl)
    (hdb : (x == ("__debug__" : Str)) = false := by decide) (he : starEach (e :: es) X.env = (false, eval e X.env) :: starEach es X.env := by rfl) (hpl : (backTo pos (starEach es X.env)).any (·.1) = false := by rfl) :
    PE X (.Call (.Name x p) (e :: es) [] pos) (tCal sp t) := by
  obtain ⟨f, fd, F, hb, hk, hm⟩ := c
  constructor
  intro pins s σ H Q I h
  apply wpAny_Call_Name_kw
  apply ld_glob I hgl hm _ hdb
  refine PySem.W.callWith_K (h₀ := X.base) I.ok.mod.kin hk (thn (ha.run pos pins s σ H _ I h) ?_) he hpl
  rintro us s1 ⟨vs, H1, I1, r, q⟩
  exact ⟨I1.kIn, run_G F hg hr hb I1 r q⟩
theorem pe_cal0 (c : Callee X.prog X.w X.K X.mg X.base k x ps sp) (hg : X.A.guards = some []) (hr : Room k X.A) (hgl : Gl X x := by rfl) (hdb : (x == ("__debug__" : Str)) = false := by decide) :
    PE X (.Call (.Name x p) [] [] pos) (tCal sp tNil) := by
  obtain ⟨f, fd, F, hb, hk, hm⟩ := c
  constructor
  intro pins s σ H Q I h
  apply wpAny_Call_Name_kw
  apply ld_glob I hgl hm _ hdb
  exact PySem.W.callWith_K0 I.kIn hk (run_G (us := []) F hg hr hb I .nil h)

/-- repr of data -/
def rRepr (K : PySem.W.Frag) : List V → Hp → VK → Prop := fun vs H Q => ∃ (x : V) (d : PyData), vs = [x] ∧ Dp K H x d ∧ d.showable = true ∧ d.hasDict = false ∧ d.depth ≤ 60 ∧ d.shown.length ≤ sizeLine ∧ Q (.str d.shown) H
end
end Sk

set_option Elab.async false
set_option linter.all false
set_option maxRecDepth 100000
set_option maxHeartbeats 4000000
/-! Sk: repr of data; the law's call over FnG. -/
namespace Sk
open PySem PySem.Spec PyProof.Rows L2

section
variable {X : Cx}
theorem call_repr (hg : X.A.guards = some []) (hu : X.A.units + 64 < cLine) : CallR X (.builtin "repr") (rRepr X.K) := by
  intro pins s σ H xs us Q I r h
  obtain ⟨x, d, rfl, hd, hs, hn, hp, hz, q⟩ := h
  cases r with
  | cons rx rn =>
    rename_i u us'
    cases rn
    have fin : ∀ (h' : Heap) (t tk : Tok), (∀ b o, s.heap.get? b = some o → h'.get? b = some o) → EP X pins σ Q (.str d.shown t) { s with heap := h', toks := tk } :=
      fun h' t tk hk => ⟨.str d.shown, H, (show Inv X pins σ H { s with heap := h', toks := tk } from I.kept hk), ⟨_, rfl⟩, q⟩
    cases hd with
    | non =>
      cases rx
      exact PySem.P.repr_of_none (fin s.heap _ _ fun _ _ z => z)
    | bl b =>
      cases rx
      exact PySem.P.repr_of_bool (by cases b <;> exact fin s.heap _ _ fun _ _ z => z)
    | int i =>
      obtain ⟨t, rfl⟩ := rx
      exact PySem.P.repr_of_int (of_decide_eq_true hs) (fin s.heap _ _ fun _ _ z => z)
    | str y =>
      obtain ⟨t, rfl⟩ := rx
      exact PySem.P.repr_of_str (fin s.heap _ _ fun _ _ z => z) hz
    | lst a b =>
      cases rx
      obtain ⟨as, rd⟩ := Dp.reads I _ _ _ (Dp.lst a b) rfl
      exact repr_of_reads' rd hs (fun z => by rw [hn] at z; cases z) hg (by omega) (fun _ _ z => z) fin hz
    | tup a b =>
      cases rx
      obtain ⟨as, rd⟩ := Dp.reads I _ _ _ (Dp.tup a b) rfl
      exact repr_of_reads' rd hs (fun z => by rw [hn] at z; cases z) hg (by omega) (fun _ _ z => z) fin hz
end
end Sk

set_option Elab.async false
set_option linter.all false
set_option maxRecDepth 100000
set_option maxHeartbeats 4000000
/-! Sk: a law row's end over FnG. -/
namespace Sk
open PySem PySem.Spec PyProof.Rows L2

/-- the call of a law at an abstract heap in which at most the script is tracked -/
theorem law_core {P : Program} {w : World} {K : PySem.W.Frag} {mg mb : Str → Option Value} {k : Nat} {fa a : Addr} {fd : FuncData} {x : Str} {sp : Sp} {s1 : Shared} {oa : Obj} {its : Array Value} {n : Nat} {H : Hp}
    (KX : K.In s1.heap) (hns : s1.heap.Ns mainGlobals mg) (hb : s1.heap.Ns builtinsNs mb) (hbb : ∀ y : Str, y ≠ "__name__" → mb y = bootBuiltins y) (hlim : s1.heap.NoLimit) (hg : s1.gens = #[])
    (ha : s1.heap.get? a = some oa) (hd : oa.data = .seq its n) (hr : Room k callerA)
    (F : ∀ base : Heap, K.In base → base.Ns mainGlobals mg → FnG P w K mg base k fa fd [x] sp) (hbind : ∀ (s : Shared) (u : Value), BindsTo s fd ⟨[u], []⟩ [(x, u)])
    (hsp : sp [.ref a] H (fun v _ => v = .bl true) E0) (hO : Only H) (ok : HOk P w H s1.heap) (hA : ∀ b, H b ≠ none → b = a) (hK : H a ≠ none → K.lookup a = none) :
    codeAny (model P w) callerA (.call (.ref fa) ⟨[.ref a], []⟩) (fun r s' => r = .ok (.ret (.bool true)) ∧ OldK s1.heap s'.heap ∧ s'.os = s1.os ∧ AllBare s'.gens) s1 := by
  have hidden : ∀ {b : Addr} {o : Obj}, s1.heap.get? b = some o → (b = a → H a = none) → (hidT s1.heap H).get? b = some o := by
    intro b o e z
    apply hidT_get e
    apply Classical.byContradiction
    intro q
    have e2 := hA b q
    subst e2
    exact q (z rfl)
  have dicts : ∀ {b : Addr} {m : Str → Option Value}, s1.heap.Ns b m → (hidT s1.heap H).Ns b m := by
    rintro b m ⟨o, es, ep, e, d, r⟩
    refine ⟨o, es, ep, hidden e (fun z => ?_), d, r⟩
    subst z
    rw [ha] at e
    injection e with e
    rw [← e, hd] at d
    cases d
  have kin : K.In (hidT s1.heap H) := by
    intro b o e
    refine hidden (KX b o e) (fun z => Classical.byContradiction fun q => ?_)
    subst z
    have := hK q
    rw [e] at this
    cases this
  obtain ⟨mc, l1, l2⟩ := hlim
  have mo : Mod K mg (hidT s1.heap H) := { kin := kin, glob := dicts hns, blt := ⟨mb, dicts hb, hbb⟩, nolimit := ⟨mc, dicts l1, l2⟩ }
  have en : Env0 P w K mg (hidT s1.heap H) callerA [] s1 H :=
    { frames := rfl, mod := mo, bs := fun b o e => of_hidT e, bsz := Nat.le_of_eq (hidT_size _ _), funs := trivial, frf := (fun b hb => by cases hb), hok := ok, bare := .of_eq hg }
  refine codeAny_mono ((F _ kin (dicts hns)).go callerA [] s1 H ⟨[.ref a], []⟩ [.ref a] [.ref a] (fun v _ => v = .bl true) E0 rfl hr en (hbind s1 (.ref a)) (.cons rfl .nil) hsp) ?_
  intro res s' z
  match res, z with
  | .error e, z => exact False.elim z
  | .ok .next, z => exact False.elim z
  | .ok .brk, z => exact False.elim z
  | .ok .cont, z => exact False.elim z
  | .ok (.ret u), z =>
    obtain ⟨v, H', os, bare, un, ok', rel, q⟩ := z
    subst q
    have eu : u = Value.bool true := rel
    refine ⟨by rw [eu], OldK.of_keep ?_, os, bare⟩
    intro b o e
    by_cases q : H b = none
    · exact un.keep b o e q (by intro z; cases z) (by intro z; cases z)
    · rcases hO b with z | ⟨ob, xs, z⟩
      · exact absurd z q
      · have g1 := (ok b _ z).1
        have g2 := (ok' b _ (un.frzs b ob _ z)).1
        rw [e] at g1
        injection g1 with g1
        rw [g1]
        exact g2

theorem law_G {P : Program} {w : World} {K : PySem.W.Frag} {mg mb : Str → Option Value} {k : Nat} {fa a : Addr} {fd : FuncData} {x : Str} {sp : Sp} {s1 : Shared} {vs : List Value} {ns : List Int}
    (KX : K.In s1.heap) (hns : s1.heap.Ns mainGlobals mg) (hb : s1.heap.Ns builtinsNs mb) (hbb : ∀ y : Str, y ≠ "__name__" → mb y = bootBuiltins y) (hlim : s1.heap.NoLimit) (hg : s1.gens = #[])
    (ha : s1.heap.get? a = some { cls := .type "list", data := .seq vs.toArray }) (hi : IntsAre vs ns) (hl : ns.length ≤ sizeLine) (hr : Room k callerA)
    (F : ∀ base : Heap, K.In base → base.Ns mainGlobals mg → FnG P w K mg base k fa fd [x] sp) (hbind : ∀ (s : Shared) (u : Value), BindsTo s fd ⟨[u], []⟩ [(x, u)])
    (hsp : ∀ H : Hp, Only H → SqL K H a (ns.map V.int) → sp [.ref a] H (fun v _ => v = .bl true) E0) :
    codeAny (model P w) callerA (.call (.ref fa) ⟨[.ref a], []⟩) (fun r s' => r = .ok (.ret (.bool true)) ∧ OldK s1.heap s'.heap ∧ s'.os = s1.os ∧ AllBare s'.gens) s1 := by
  have rv := vals_ints hi
  have ln := hi.length
  by_cases hk : K.lookup a = none
  · let H1 : Hp := upd (fun _ => none) a (.frz { cls := .type "list", data := .seq vs.toArray } (.lst (ns.map V.int)))
    have at1 : H1 a = some (.frz { cls := .type "list", data := .seq vs.toArray } (.lst (ns.map V.int))) := upd_same
    have off : ∀ b, b ≠ a → H1 b = none := fun b hne => by show upd _ _ _ b = _; rw [upd_ne hne]
    have o1 : Only H1 := fun b => by
      by_cases e : b = a
      · subst e; exact Or.inr ⟨_, _, at1⟩
      · exact Or.inl (off b e)
    refine law_core (H := H1) KX hns hb hbb hlim hg ha rfl hr F hbind (hsp H1 o1 (.inl (.inr ⟨_, at1⟩))) o1 ?_ ?_ (fun _ => hk)
    · intro b u e
      by_cases eb : b = a
      · subst eb
        rw [at1] at e
        injection e with e
        subst e
        exact ⟨ha, by rw [List.length_map]; exact hl, vs, _, rv, ha⟩
      · rw [off b eb] at e; cases e
    · intro b q
      apply Classical.byContradiction
      intro eb
      exact q (off b eb)
  · obtain ⟨o, ho⟩ := Option.ne_none_iff_exists'.mp hk
    have e := KX a o ho
    rw [ha] at e
    injection e with e
    subst e
    refine law_core (H := fun _ => none) KX hns hb hbb hlim hg ha rfl hr F hbind (hsp _ (fun _ => Or.inl rfl) (.inr ⟨_, vs.toArray, _, ho, rfl, rfl, rfl, ?_, ?_⟩)) (fun _ => Or.inl rfl) ?_ ?_ ?_
    · rw [List.size_toArray, ln]; exact hl
    · simpa using rv
    · intro b u z; cases z
    · intro b z; exact absurd rfl z
    · intro z; exact absurd rfl z

/-- the goal behind the head, from the promise of the law's def -/
theorem walk_G {l : PySem.W.OpenLaw} {n k : Nat} {q : Program} {loose : List Str} {XP : (Str → Option Value) → Heap → Prop} {YP : World → Heap → Prop} {d : DefRec} {x : Str}
    (hn : l.most = some n) (hn2 : n ≤ sizeLine) (hdf : d.params.defaults = []) (hr : Room k callerA)
    (F : ∀ (w : World) (mg : Str → Option Value) (fa : Addr) (h : Heap), YP w h → h.Ns mainGlobals mg → mg d.name = some (.ref fa) →
      ∃ (K : PySem.W.Frag) (fd : FuncData) (sp : Sp), K.In h ∧ (∀ (s : Shared) (u : Value), BindsTo s fd ⟨[u], []⟩ [(x, u)]) ∧
        (∀ (H : Hp) (a : Addr) (ns : List Int), ns.length ≤ n → SqL K H a (ns.map V.int) → sp [.ref a] H (fun v _ => v = .bl true) E0) ∧
        ∀ base : Heap, K.In base → base.Ns mainGlobals mg → FnG l.prog w K mg base k fa fd [x] sp) :
    PySem.W.WalkO q loose XP YP l.row.toRowW d [] (fun f vs => PySem.call f vs) := by
  apply Att.attach_call hn hdf
  intro w s0 s1 mg mb fa o pm cd doc a vs ns G Y ho hd hcd hmg hobj hints hlen hg
  obtain ⟨K, fd, sp, KX, hbd, hsp, hF⟩ := F w mg fa _ Y G.T.g hmg
  exact law_G KX G.T.g G.T.b G.T.builtins G.T.nolimit hg hobj hints (Nat.le_trans hlen hn2) hr hF hbd (fun H _ hS => hsp H a ns hlen hS)

end Sk

set_option Elab.async false
set_option linter.all false
set_option maxRecDepth 100000
set_option maxHeartbeats 4000000
/-! Sk: texts as lists of code points, and the rules for them. -/
namespace Sk
open PySem PySem.Spec PyProof.Rows L2
open PySem.Builtin.Str (occurrences subAt)

def tx (l : List Nat) : Str := ⟨l.toArray⟩
abbrev T (l : List Nat) : V := .str (tx l)
theorem tl_tx (l : List Nat) : TL.tl (tx l) = l := rfl
theorem tx_inj {a b : List Nat} (h : tx a = tx b) : a = b := by
  have := congrArg TL.tl h
  exact this
theorem tx_len (l : List Nat) : (tx l).length = l.length := by
  rw [TL.len_tl]
  rfl
theorem tx_tl (x : Str) : tx (TL.tl x) = x := TL.mk_tl x
theorem tx_app (a b : List Nat) : tx a ++ tx b = tx (a ++ b) := TL.ext_tl (by rw [TL.tl_append]; rfl)
theorem T_eq (a b : List Nat) : decide (T a = T b) = decide (a = b) := by
  by_cases h : a = b
  · rw [h, decide_eq_true rfl, decide_eq_true rfl]
  · rw [decide_eq_false h, decide_eq_false]
    intro e
    injection e with e
    exact h (tx_inj e)
theorem line_ok {n : Nat} (h : n ≤ 1000000) : n ≤ sizeLine := Nat.le_trans h (by decide)
theorem line_lt {n : Nat} (h : n ≤ 1000000) : n < sizeLine := Nat.lt_of_le_of_lt h (by decide)

section
variable {X : Cx}
theorem pe_txt {x : Str} {j pos} (l : List Nat) (h : x = tx l := by rfl) : PE X (.Constant (.str x) j pos) (tC (T l)) := by
  subst h
  exact pe_str

/-- a + b -/
def rAddT : R2 := fun x y H Q => ∃ a b, x = T a ∧ y = T b ∧ a.length + b.length ≤ 1000000 ∧ Q (T (a ++ b)) H
theorem op_addT : OpR X (binaryOp .Add) rAddT := by
  intro pins s σ H x y v u Q I rx ry h
  obtain ⟨a, b, rfl, rfl, hz, q⟩ := h
  refine op_add_str pins s σ H _ _ v u Q I rx ry ⟨_, _, rfl, rfl, ?_, ?_⟩
  · rw [tx_len, tx_len]; exact line_ok hz
  · rw [tx_app]; exact q
/-- == and != -/
def rEqT (neg : Bool) : R2 := fun x y H Q => ∃ a b, x = T a ∧ y = T b ∧ Q (.bl (if neg then !decide (a = b) else decide (a = b))) H
theorem op_eqT : OpR X (compareOp .Eq) (rEqT false) := by
  intro pins s σ H x y v u Q I rx ry h
  obtain ⟨a, b, rfl, rfl, q⟩ := h
  refine op_eq pins s σ H _ _ v u Q I rx ry ⟨rfl, ?_⟩
  rw [T_eq]; exact q
theorem op_neT : OpR X (compareOp .NotEq) (rEqT true) := by
  intro pins s σ H x y v u Q I rx ry h
  obtain ⟨a, b, rfl, rfl, q⟩ := h
  refine op_ne pins s σ H _ _ v u Q I rx ry ⟨rfl, ?_⟩
  rw [T_eq]; exact q
/-- a >= b -/
def rGeT : R2 := fun x y H Q => ∃ a b, x = T a ∧ y = T b ∧ Q (.bl (!decide (a < b))) H
theorem op_geT : OpR X (compareOp .GtE) rGeT := by
  intro pins s σ H x y v u Q I rx ry h
  obtain ⟨a, b, rfl, rfl, q⟩ := h
  exact op_ge_str pins s σ H _ _ v u Q I rx ry ⟨_, _, rfl, rfl, q⟩
def rLtT : R2 := fun x y H Q => ∃ a b, x = T a ∧ y = T b ∧ Q (.bl (decide (a < b))) H
theorem op_ltT : OpR X (compareOp .Lt) rLtT := by
  intro pins s σ H x y v u Q I rx ry h
  obtain ⟨a, b, rfl, rfl, q⟩ := h
  exact op_lt_str pins s σ H _ _ v u Q I rx ry ⟨_, _, rfl, rfl, q⟩
def rGtT : R2 := fun x y H Q => ∃ a b, x = T a ∧ y = T b ∧ Q (.bl (decide (b < a))) H
theorem op_gtT : OpR X (compareOp .Gt) rGtT := by
  intro pins s σ H x y v u Q I rx ry h
  obtain ⟨a, b, rfl, rfl, q⟩ := h
  exact op_gt_str pins s σ H _ _ v u Q I rx ry ⟨_, _, rfl, rfl, q⟩
/-- one letter in a text -/
def rInT (neg : Bool) : R2 := fun x y H Q => ∃ c l, x = T [c] ∧ y = T l ∧ Q (.bl (if neg then !decide (c ∈ l) else decide (c ∈ l))) H
theorem op_inT : OpR X (compareOp .In) (rInT false) := by
  intro pins s σ H x y v u Q I rx ry h
  obtain ⟨c, l, rfl, rfl, q⟩ := h
  exact op_in_sign pins s σ H _ _ v u Q I rx ry ⟨c, tx l, rfl, rfl, q⟩
theorem op_ninT : OpR X (compareOp .NotIn) (rInT true) := by
  intro pins s σ H x y v u Q I rx ry h
  obtain ⟨c, l, rfl, rfl, q⟩ := h
  exact op_notIn_sign pins s σ H _ _ v u Q I rx ry ⟨c, tx l, rfl, rfl, q⟩
/-- len -/
def rLenT : List V → Hp → VK → Prop := fun vs H Q => ∃ l, vs = [T l] ∧ l.length ≤ 1000000 ∧ Q (.int l.length) H
theorem call_lenT : CallR X (.builtin "len") rLenT := by
  intro pins s σ H xs us Q I r h
  obtain ⟨l, rfl, hz, q⟩ := h
  refine call_len_str pins s σ H _ us Q I r ⟨tx l, rfl, by rw [tx_len]; exact line_ok hz, ?_⟩
  rw [tx_len]; exact q
/-- t[i] -/
def rIxT' : R2 := fun x y H Q => ∃ l i c, x = T l ∧ y = .int i ∧ l.length ≤ 1000000 ∧ atI l i = some c ∧ Q (T [c]) H
theorem ix_txt : IxR X rIxT' := by
  intro b' e' pins s σ H x y v u Q I rx ry h hs
  obtain ⟨l, i, c, rfl, rfl, hz, ha, q⟩ := h
  exact ix_str b' e' pins s σ H _ _ v u Q I rx ry ⟨tx l, i, c, rfl, rfl, by rw [tx_len]; exact line_ok hz, ha, q⟩ hs
/-- t[i:j] -/
def cutL (l : List Nat) (lo hi : Option Int) : List Nat := (l.drop (HT.sIx l.length 0 lo)).take (HT.sIx l.length l.length hi - HT.sIx l.length 0 lo)
def rSlT' : V → Option Int → Option Int → Hp → VK → Prop := fun x lo hi H Q => ∃ l, x = T l ∧ l.length ≤ 1000000 ∧ Q (T (cutL l lo hi)) H
theorem sl_txt : SlR X rSlT' := by
  intro pins s σ H x v vl vu lo hi sl Q I rx hs pl pu h
  obtain ⟨l, rfl, hz, q⟩ := h
  refine sl_str pins s σ H _ v vl vu lo hi sl Q I rx hs pl pu ⟨tx l, rfl, by rw [tx_len]; exact line_ok hz, ?_⟩
  have e : cutS (tx l) lo hi = tx (cutL l lo hi) := by
    unfold cutS cutL
    simp [tx, Str.length]
  rw [e]; exact q
end

theorem cut_to (l : List Nat) (n : Nat) : cutL l none (some (n : Int)) = l.take n := by
  unfold cutL
  rw [HT.sIx_none, HT.sIx_nat, List.drop_zero, Nat.sub_zero]
  by_cases h : n ≤ l.length
  · rw [Nat.min_eq_left h]
  · rw [Nat.min_eq_right (by omega), List.take_of_length_le (Nat.le_refl _), List.take_of_length_le (by omega)]
theorem cut_from (l : List Nat) (n : Nat) : cutL l (some (n : Int)) none = l.drop n := by
  unfold cutL
  rw [HT.sIx_none, HT.sIx_nat]
  by_cases h : n ≤ l.length
  · rw [Nat.min_eq_left h, List.take_of_length_le (by rw [List.length_drop]; omega)]
  · rw [Nat.min_eq_right (by omega), List.drop_eq_nil_of_le (Nat.le_refl _), List.drop_eq_nil_of_le (by omega), List.take_nil]
theorem cut_mid (l : List Nat) (a b : Nat) : cutL l (some (a : Int)) (some (b : Int)) = (l.drop a).take (b - a) := by
  unfold cutL
  rw [HT.sIx_nat, HT.sIx_nat]
  by_cases h : a ≤ l.length
  · rw [Nat.min_eq_left h]
    by_cases h2 : b ≤ l.length
    · rw [Nat.min_eq_left h2]
    · rw [Nat.min_eq_right (by omega), List.take_of_length_le (by rw [List.length_drop]; omega), List.take_of_length_le (by rw [List.length_drop]; omega)]
  · have e : min a l.length = l.length := Nat.min_eq_right (by omega)
    rw [e, List.drop_eq_nil_of_le (Nat.le_refl _), List.drop_eq_nil_of_le (show l.length ≤ a by omega), List.take_nil, List.take_nil]

/-! ### the first place of a letter -/
theorem occ_stays (s sub : Str) (hi : Nat) : ∀ (l : List Nat) (st : Array Nat × Nat), ¬ st.1.size < 1 →
    (forIn l st (StrLaws.occBody s sub hi 1)).run = st
  | [], st, _ => rfl
  | a :: l, st, h => by
    rw [List.forIn_cons]
    unfold StrLaws.occBody
    rw [if_neg (fun z => h z.1.1.1)]
    exact occ_stays s sub hi l st h
theorem occ_scan (s sub : Str) (hi : Nat) : ∀ (n lo free : Nat), free ≤ lo →
    (forIn (List.range' lo n) ((#[] : Array Nat), free) (StrLaws.occBody s sub hi 1)).run.1 = match (List.range' lo n).find? (fun i => decide (i + sub.length ≤ hi) && subAt s sub i) with | some k => #[k] | none => #[]
  | 0, _, _, _ => rfl
  | n + 1, lo, free, h => by
    rw [List.range'_succ, List.forIn_cons]
    by_cases hc : lo + sub.length ≤ hi ∧ subAt s sub lo = true
    · have e : StrLaws.occBody s sub hi 1 lo ((#[] : Array Nat), free) = pure (ForInStep.yield ((#[] : Array Nat).push lo, lo + sub.length)) := by
        unfold StrLaws.occBody
        exact if_pos ⟨⟨⟨by simp, h⟩, hc.1⟩, hc.2⟩
      rw [e]
      have e2 : (List.find? (fun i => decide (i + sub.length ≤ hi) && subAt s sub i) (lo :: List.range' (lo + 1) n)) = some lo := by
        rw [List.find?_cons_of_pos]
        simp [hc.1, hc.2]
      rw [e2]
      show ((forIn (List.range' (lo + 1) n) ((#[] : Array Nat).push lo, lo + sub.length) (StrLaws.occBody s sub hi 1)).run).1 = #[lo]
      rw [occ_stays s sub hi _ _ (by simp)]
      rfl
    · have e : StrLaws.occBody s sub hi 1 lo ((#[] : Array Nat), free) = pure (ForInStep.yield ((#[] : Array Nat), free)) := by
        unfold StrLaws.occBody
        exact if_neg fun z => hc ⟨z.1.2, z.2⟩
      rw [e]
      have e2 : (List.find? (fun i => decide (i + sub.length ≤ hi) && subAt s sub i) (lo :: List.range' (lo + 1) n)) = List.find? (fun i => decide (i + sub.length ≤ hi) && subAt s sub i) (List.range' (lo + 1) n) := by
        rw [List.find?_cons_of_neg]
        intro z
        rw [Bool.and_eq_true, decide_eq_true_eq] at z
        exact hc z
      rw [e2]
      exact occ_scan s sub hi n (lo + 1) free (by omega)
theorem sub_at (l : List Nat) (c i : Nat) : (i + (tx [c]).length ≤ (tx l).length ∧ subAt (tx l) (tx [c]) i = true) ↔ l[i]? = some c := by
  unfold subAt
  rw [tx_len, tx_len]
  show (i + 1 ≤ l.length ∧ (l.toArray.extract i (i + 1) == #[c]) = true) ↔ _
  have e : l.toArray.extract i (i + 1) = ((l.drop i).take 1).toArray := by simp
  rw [e]
  constructor
  · rintro ⟨h1, h2⟩
    have h3 := eq_of_beq h2
    have h4 : (l.drop i).take 1 = [c] := by
      have := congrArg Array.toList h3
      simpa using this
    have h5 : i < l.length := by omega
    rw [List.drop_eq_getElem_cons h5] at h4
    have h6 : [l[i]] = [c] := h4
    injection h6 with h6
    rw [List.getElem?_eq_getElem h5, h6]
  · intro h
    obtain ⟨h5, h6⟩ := List.getElem?_eq_some_iff.mp h
    refine ⟨by omega, ?_⟩
    rw [List.drop_eq_getElem_cons h5, h6]
    simp
/-- where c stands first from i on: -1 if nowhere -/
def FirstAt (l : List Nat) (c i : Nat) (r : Int) : Prop :=
  (r = -1 ∧ ∀ k, i ≤ k → l[k]? ≠ some c) ∨ ∃ k : Nat, r = (k : Int) ∧ i ≤ k ∧ l[k]? = some c ∧ ∀ j, i ≤ j → j < k → l[j]? ≠ some c
theorem find_first (l : List Nat) (c i : Nat) : FirstAt l c i (Txt.find3 (tx l) (tx [c]) (i : Int)) := by
  unfold Txt.find3
  have ef : PySem.fromIndex (tx l).length (i : Int) = i := by
    unfold PySem.fromIndex
    rw [if_neg (by omega)]
    omega
  rw [ef, StrLaws.occ_eq, occ_scan _ _ _ _ _ _ (Nat.le_refl i)]
  cases hf : (List.range' i ((tx l).length + 1 - i)).find? (fun i => decide (i + (tx [c]).length ≤ (tx l).length) && subAt (tx l) (tx [c]) i) with
  | none =>
    refine Or.inl ⟨rfl, fun k hk e => ?_⟩
    have h := List.find?_eq_none.mp hf k (by
      rw [List.mem_range'_1]
      obtain ⟨h5, _⟩ := List.getElem?_eq_some_iff.mp e
      rw [tx_len]
      omega)
    rw [Bool.and_eq_true, decide_eq_true_eq] at h
    exact h ((sub_at l c k).mpr e)
  | some k =>
    refine Or.inr ⟨k, rfl, ?_, ?_, ?_⟩
    · have h := List.mem_of_find?_eq_some hf
      rw [List.mem_range'_1] at h
      exact h.1
    · have h := List.find?_some hf
      rw [Bool.and_eq_true, decide_eq_true_eq] at h
      exact (sub_at l c k).mp h
    · intro j h1 h2 e
      obtain ⟨as, bs, e1, e2⟩ := (List.find?_eq_some_iff_append.mp hf).2
      have hmem : j ∈ as := by
        have hsub : ∀ (n lo : Nat) (as bs : List Nat), List.range' lo n = as ++ k :: bs → lo ≤ j → j < k → j ∈ as := by
          intro n
          induction n with
          | zero => intro lo as bs e; cases as <;> simp at e
          | succ n ih =>
            intro lo as bs e hl hk
            rw [List.range'_succ] at e
            cases as with
            | nil =>
              rw [List.nil_append] at e
              injection e with e3 e4
              omega
            | cons a as =>
              rw [List.cons_append] at e
              injection e with e3 e4
              by_cases hj : j = a
              · rw [hj]; exact List.mem_cons_self
              · exact List.mem_cons_of_mem _ (ih (lo + 1) as bs e4 (by omega) hk)
        exact hsub _ _ as bs e1 h1 h2
      have h := e2 j hmem
      have z := (sub_at l c j).mpr e
      rw [decide_eq_true z.1, z.2] at h
      cases h

section
variable {X : Cx}
def rFindT : V → List V → Hp → VK → Prop := fun x xs H Q => ∃ (l : List Nat) (c i : Nat), x = T l ∧ xs = [T [c], .int (i : Int)] ∧ ∀ r : Int, FirstAt l c i r → Q (.int r) H
theorem mt_findT : MtR X "str.find" rFindT := by
  intro pins s σ H x xs v us Q I rx rs h
  obtain ⟨l, c, i, rfl, rfl, q⟩ := h
  exact mt_find3 pins s σ H _ _ v us Q I rx rs ⟨tx l, tx [c], (i : Int), rfl, rfl, q _ (find_first l c i)⟩
/-- t.strip(signs): empty exactly if all signs are of these -/
def rStripT : V → List V → Hp → VK → Prop := fun x xs H Q => ∃ a b, x = T a ∧ xs = [T b] ∧ a.length ≤ 1000000 ∧ ∀ r, (r = [] ↔ ∀ c ∈ a, c ∈ b) → Q (T r) H
theorem strip_nil (a b : List Nat) : TL.tl (Txt.stripChars (tx a) (tx b)) = [] ↔ ∀ c ∈ a, c ∈ b := by
  unfold Txt.stripChars
  rw [PyProof.Rows.stripBy_eq, TL.tl_strSub]
  have e1 : stripLo (tx b).cps.contains true (tx a) = (a.takeWhile (fun c => decide (c ∈ b))).length := by
    unfold stripLo
    rw [if_pos rfl]
    congr 2
    funext c
    simp [tx]
  have gen : ∀ (p : Nat → Bool) (a : List Nat), (a.takeWhile p).length = a.length ↔ ∀ c ∈ a, p c = true := by
    intro p a
    induction a with
    | nil => simp
    | cons x r ih =>
      rw [List.takeWhile_cons]
      by_cases hp : p x = true
      · rw [if_pos hp, List.length_cons, List.length_cons]
        constructor
        · intro h c hc
          rcases List.mem_cons.mp hc with e | e
          · rw [e]; exact hp
          · exact ih.mp (by omega) c e
        · intro h
          have := ih.mpr fun c hc => h c (List.mem_cons_of_mem _ hc)
          omega
      · rw [if_neg hp]
        constructor
        · intro h; simp at h
        · intro h; exact absurd (h x List.mem_cons_self) hp
  have gen2 : ∀ (p : Nat → Bool) (l : List Nat), (l.takeWhile p).length ≤ l.length := fun p l => by
    have := (List.takeWhile_sublist (l := l) p).length_le
    exact this
  rw [e1]
  generalize hlo : (a.takeWhile (fun c => decide (c ∈ b))).length = lo
  have hle : lo ≤ a.length := by rw [← hlo]; exact gen2 _ a
  have e2 : stripHi (tx b).cps.contains true (tx a) lo = a.length - ((a.drop lo).reverse.takeWhile (fun c => decide (c ∈ b))).length := by
    unfold stripHi
    rw [if_pos rfl, tx_len]
    congr 3
    funext c
    simp [tx]
  rw [e2]
  show List.take _ (a.drop lo) = [] ↔ _
  have hall := gen (fun c => decide (c ∈ b)) a
  rw [hlo] at hall
  by_cases hl : lo = a.length
  · have : a.drop lo = [] := List.drop_eq_nil_of_le (by omega)
    rw [this, List.take_nil]
    have h2 := hall.mp hl
    simp only [decide_eq_true_eq] at h2
    exact ⟨fun _ => h2, fun _ => rfl⟩
  · have hlt : lo < a.length := by omega
    have hn : ¬ ∀ c ∈ a, c ∈ b := fun z => hl (hall.mpr fun c hc => decide_eq_true (z c hc))
    refine ⟨fun z => ?_, fun z => absurd z hn⟩
    -- the sign at lo is none of these: the cut from behind stops ahead of it
    exfalso
    have hat : decide (a[lo] ∈ b) = false := by
      rcases PyProof.Rows.takeWhile_stop (fun c => decide (c ∈ b)) 0 a with h | h
      · rw [hlo] at h; exact absurd h hl
      · rw [hlo] at h
        simp only [List.getD_eq_getElem?_getD, List.getElem?_eq_getElem hlt, Option.getD_some] at h
        exact h
    have hrev : ((a.drop lo).reverse.takeWhile (fun c => decide (c ∈ b))).length < (a.drop lo).length := by
      have h1 := gen2 (fun c => decide (c ∈ b)) (a.drop lo).reverse
      rw [List.length_reverse] at h1
      rcases Nat.lt_or_ge ((a.drop lo).reverse.takeWhile (fun c => decide (c ∈ b))).length (a.drop lo).length with h | h
      · exact h
      · have h3 := (gen (fun c => decide (c ∈ b)) (a.drop lo).reverse).mp (by rw [List.length_reverse]; omega) a[lo] (by
          rw [List.mem_reverse, List.drop_eq_getElem_cons hlt]
          exact List.mem_cons_self)
        rw [hat] at h3
        cases h3
    have h4 := congrArg List.length z
    rw [List.length_take, List.length_drop] at h4
    rw [List.length_drop] at hrev
    simp only [List.length_nil] at h4
    omega
theorem mt_stripT : MtR X "str.strip" rStripT := by
  intro pins s σ H x xs v us Q I rx rs h
  obtain ⟨a, b, rfl, rfl, hz, q⟩ := h
  refine mt_stripChars pins s σ H _ _ v us Q I rx rs ⟨tx a, tx b, rfl, rfl, by rw [tx_len]; exact line_ok hz, ?_⟩
  have e : Q (V.str (tx (TL.tl (Txt.stripChars (tx a) (tx b))))) H := q (TL.tl (Txt.stripChars (tx a) (tx b))) (strip_nil a b)
  rw [tx_tl] at e
  exact e
end
end Sk

set_option Elab.async false
set_option linter.all false
set_option maxRecDepth 100000
set_option maxHeartbeats 4000000
/-! Sk: more rules over texts: join, *, list(t), sorted, a text walked; powers of great numbers. -/
namespace Sk
open PySem PySem.Spec PyProof.Rows L2
section
variable {X : Cx}
/-- sep.join(list of texts) -/
def rJoinT (K : PySem.W.Frag) : V → List V → Hp → VK → Prop := fun x xs H Q => ∃ (sep : List Nat) (p : Addr) (ls : List (List Nat)), x = T sep ∧ xs = [.ref p] ∧ SqL K H p (ls.map T) ∧
  (ls.map (·.length)).sum + ls.length * sep.length ≤ 1000000 ∧ Q (T (TL.joinL sep ls)) H
theorem map_T (ls : List (List Nat)) : ls.map T = (ls.map tx).map V.str := by
  rw [List.map_map]
  rfl
theorem mt_joinT : MtR X "str.join" (rJoinT X.K) := by
  intro pins s σ H x xs v us Q I rx rs h
  obtain ⟨sep, p, ls, rfl, rfl, hs, hz, q⟩ := h
  have e1 : ((ls.map tx).map (·.length)) = ls.map (·.length) := by
    rw [List.map_map]
    exact List.map_congr_left fun l _ => tx_len l
  refine mt_join pins s σ H _ _ v us Q I rx rs ⟨tx sep, p, ls.map tx, rfl, rfl, .inl (by rw [← map_T]; exact hs), ?_, ?_⟩
  · rw [e1, List.length_map, tx_len]
    omega
  · have e2 : Txt.join (tx sep) (ls.map tx) = tx (TL.joinL sep ls) := by
      rw [TL.join_eq]
      apply TL.ext_tl
      rw [TL.tl_join, List.map_map]
      show TL.joinL sep _ = TL.joinL sep ls
      congr 1
      exact (List.map_congr_left fun l _ => tl_tx l).trans (List.map_id ls)
    rw [e2]
    exact q
theorem joinL_nil : ∀ ls : List (List Nat), TL.joinL [] ls = ls.flatten
  | [] => rfl
  | [p] => by simp [TL.joinL]
  | p :: q :: r => by
    show p ++ ([] ++ TL.joinL [] (q :: r)) = p ++ (q :: r).flatten
    rw [joinL_nil (q :: r), List.nil_append]
/-- t * n -/
def rMulT : R2 := fun x y H Q => ∃ (l : List Nat) (n : Nat), x = T l ∧ y = .int (n : Int) ∧ n ≤ 1000000 ∧ l.length * n ≤ 1000000 ∧ Q (T (List.replicate n l).flatten) H
theorem rep_tl (a : Array Nat) : ∀ (n : Nat) (acc : Array Nat), ((List.replicate n a).foldl (· ++ ·) acc).toList = acc.toList ++ (List.replicate n a.toList).flatten
  | 0, acc => by simp
  | n + 1, acc => by
    rw [List.replicate_succ, List.foldl_cons, rep_tl a n, List.replicate_succ, List.flatten_cons]
    simp
theorem op_mulT : OpR X (binaryOp .Mult) rMulT := by
  intro pins s σ H x y v u Q I rx ry h
  obtain ⟨l, n, rfl, rfl, hn, hz, q⟩ := h
  obtain ⟨t, rfl⟩ := rx
  obtain ⟨t', rfl⟩ := ry
  refine PySem.P.mul_str ?_ ?_ ?_ ?_
  · rw [decide_eq_false (show ¬ ((n : Int) < -(2 ^ 63)) by omega), decide_eq_false (show ¬ ((n : Int) ≥ 2 ^ 63) by omega)]
    rfl
  · intro h1 _ hc
    rw [tx_len] at hc
    have h2 : (0 : Int) < (n : Int) := by omega
    have h3 : ((l.length : Int) * (n : Int)) ≤ 1000000 := by
      have h5 := Int.ofNat_le.mpr hz
      rw [Int.natCast_mul] at h5
      exact h5
    have h4 : ((2 : Int) ^ 63 - 1) / (n : Int) ≥ (l.length : Int) := by
      rw [ge_iff_le, Int.le_ediv_iff_mul_le h2]
      omega
    omega
  · intro _ _
    rw [tx_len, Int.toNat_natCast]
    unfold PySem.Builtin.Str.tooLong
    have h6 := line_ok hz
    simp only [decide_eq_false_iff_not]
    omega
  · have fin : ∀ (k m : Nat), EP X pins σ Q (.str (tx (List.replicate n l).flatten) k) { s with toks := m } := fun k m => ⟨T (List.replicate n l).flatten, H, I.tok m, ⟨k, rfl⟩, q⟩
    by_cases h1 : (n : Int) < 1
    · rw [if_pos h1]
      have : n = 0 := by omega
      subst this
      exact ⟨by decide, fin _ _⟩
    · rw [if_neg h1]
      by_cases h2 : ((n : Int) == 1 || (tx l).length == 0) = true
      · rw [if_pos h2]
        have e : (List.replicate n l).flatten = l := by
          rw [Bool.or_eq_true] at h2
          rcases h2 with h2 | h2
          · have : n = 1 := by
              have := eq_of_beq h2
              omega
            subst this
            simp
          · have h3 := eq_of_beq h2
            rw [tx_len] at h3
            have : l = [] := List.length_eq_zero_iff.mp h3
            subst this
            simp
        have z := fin t s.toks
        rw [e] at z
        exact z
      · rw [if_neg h2, Int.toNat_natCast]
        have e : (⟨(List.replicate n (tx l).cps).foldl (· ++ ·) #[]⟩ : Str) = tx (List.replicate n l).flatten := by
          apply TL.ext_tl
          show ((List.replicate n (tx l).cps).foldl (· ++ ·) #[]).toList = _
          rw [rep_tl]
          rfl
        refine ⟨?_, ?_⟩
        · rw [e, tx_len, List.length_flatten, List.map_replicate, List.sum_replicate_nat]
          exact line_ok (by rw [Nat.mul_comm]; exact hz)
        · rw [e]
          exact fin _ _
/-- list(t) -/
def rListT : List V → Hp → VK → Prop := fun vs H Q => ∃ l : List Nat, vs = [T l] ∧ l.length ≤ 1000000 ∧ ∀ p, H p = none → Q (.ref p) (upd H p (.lst (l.map fun c => T [c])))
theorem items_signs (l : List Nat) : ∀ (acc : List Value), acc.length = l.length → (∀ i : Nat, ∀ v, acc[i]? = some v → ∃ c t, l[i]? = some c ∧ v = .str ⟨#[c]⟩ t) → Vals (l.map fun c => T [c]) acc := by
  induction l with
  | nil =>
    intro acc h _
    have : acc = [] := List.length_eq_zero_iff.mp h
    subst this
    exact .nil
  | cons c r ih =>
    intro acc h hx
    cases acc with
    | nil => simp at h
    | cons v vs =>
      obtain ⟨c', t, e1, e2⟩ := hx 0 v rfl
      have e3 : c = c' := Option.some.inj e1
      subst e3
      refine .cons ⟨t, e2⟩ (ih vs (by simpa using h) fun i v hv => ?_)
      exact hx (i + 1) v hv
theorem call_listT (hc : X.calm = true) : CallR X (.type "list") rListT := by
  intro pins s σ H xs us Q I r h
  obtain ⟨l, rfl, hz, q⟩ := h
  cases r with
  | cons rx rn =>
    cases rn
    obtain ⟨t, rfl⟩ := rx
    have hn : (tx l).cps.size ≤ sizeLine := by
      have := line_ok hz
      simpa [tx] using this
    refine PySem.call_list_str (I.ok.hd hc) (tx l) t (fun h' tk acc c hk hg hi => ?_) hn
    have hp : H s.heap.objs.size = none := I.hok.fresh (Nat.le_refl _)
    have hv : Vals (l.map fun c => T [c]) acc.toList := by
      refine items_signs l acc.toList ?_ fun i v hv => ?_
      · rw [Array.length_toList, hi.1]
        simp [tx]
      · obtain ⟨c', u, e1, e2⟩ := hi.2 i v (by simpa using hv)
        exact ⟨c', u, by simpa [tx] using e1, e2⟩
    have ob : ObjOk X.prog X.w (upd H s.heap.objs.size (.lst (l.map fun c => T [c]))) h' s.heap.objs.size (.lst (l.map fun c => T [c])) := by
      refine ⟨by rw [List.length_map]; exact line_ok hz, acc.toList, c, hv, ?_⟩
      rw [hg]
    exact ⟨.ref s.heap.objs.size, _, I.laid hk (Nat.le_refl _) ob, rfl, q _ hp⟩
/-- a power of great numbers -/
def rPowB : R2 := fun x y H Q => ∃ i n : Int, x = .int i ∧ y = .int n ∧ 0 ≤ n ∧ (Builtin.Int.intBits i : Int) * n ≤ 2 ^ 27 ∧ Q (.int (i ^ n.toNat)) H
theorem op_powB : OpR X (binaryOp .Pow) rPowB := by
  intro pins s σ H x y v u Q I rx ry h
  obtain ⟨i, n, rfl, rfl, h0, h1, q⟩ := h
  obtain ⟨t, rfl⟩ := rx
  obtain ⟨t', rfl⟩ := ry
  exact pow_int h0 h1 ⟨.int (i ^ n.toNat), H, I.tok _, ⟨_, rfl⟩, q⟩
/-- sorted(list of texts) -/
def rSortT (K : PySem.W.Frag) : List V → Hp → VK → Prop := fun vs H Q => ∃ (a : Addr) (ls : List (List Nat)), vs = [.ref a] ∧ SqL K H a (ls.map T) ∧ ls.length < 64 ∧
  ∀ (ms : List (List Nat)) (p : Addr), ms.Perm ls → ms.Pairwise (fun a b => ¬ b < a) → H p = none → Q (.ref p) (upd H p (.lst (ms.map T)))
theorem rising_pw : ∀ (ys : List Str) (p : Str), risingS p ys = true → (∀ y ∈ ys, ¬ TL.tl y < TL.tl p) ∧ (ys.map TL.tl).Pairwise (fun a b => ¬ b < a)
  | [], _, _ => ⟨fun y hy => (by cases hy), List.Pairwise.nil⟩
  | x :: r, p, h => by
    have h' : (!ltCps x.cps.toList p.cps.toList && risingS x r) = true := h
    rw [Bool.and_eq_true, Bool.not_eq_true', ltCps_eq, decide_eq_false_iff_not] at h'
    obtain ⟨h1, h2⟩ := h'
    obtain ⟨i1, i2⟩ := rising_pw r x h2
    refine ⟨fun y hy => ?_, ?_⟩
    · rcases List.mem_cons.mp hy with e | e
      · rw [e]; exact h1
      · have h3 := i1 y e
        have a1 : TL.tl p ≤ TL.tl x := List.not_lt.mp h1
        have a2 : TL.tl x ≤ TL.tl y := List.not_lt.mp h3
        exact List.not_lt.mpr (List.le_trans a1 a2)
    · rw [List.map_cons]
      refine List.Pairwise.cons (fun b hb => ?_) i2
      obtain ⟨y, hy, e⟩ := List.mem_map.mp hb
      subst e
      exact i1 y hy
theorem call_sortT : CallR X (.builtin "sorted") (rSortT X.K) := by
  intro pins s σ H xs us Q I r h
  obtain ⟨a, ls, rfl, hs, hz, q⟩ := h
  refine cr_sortedS pins s σ H _ us Q I r ⟨a, ls.map tx, rfl, by rw [← map_T]; exact hs, by rw [List.length_map]; exact hz, fun ys p hp hso hn => ?_⟩
  have e : ys = (ys.map TL.tl).map tx := by
    rw [List.map_map]
    exact ((List.map_congr_left fun y _ => tx_tl y).trans (List.map_id ys)).symm
  have e2 : ys.map V.str = (ys.map TL.tl).map T := by rw [map_T, ← e]
  rw [e2]
  refine q _ p ?_ ?_ hn
  · have := hp.map TL.tl
    rw [List.map_map] at this
    have e3 : List.map (TL.tl ∘ tx) ls = ls := (List.map_congr_left fun l _ => tl_tx l).trans (List.map_id ls)
    rw [e3] at this
    exact this
  · cases ys with
    | nil => exact List.Pairwise.nil
    | cons y r =>
      obtain ⟨i1, i2⟩ := rising_pw r y hso
      rw [List.map_cons]
      refine List.Pairwise.cons (fun b hb => ?_) i2
      obtain ⟨z, hz2, e4⟩ := List.mem_map.mp hb
      subst e4
      exact i1 z hz2
end
/-- a text, letter by letter -/
theorem walk_txt {l : List Nat} : Walk (Its (tx l)) l.length (fun _ => True) (fun i H v H' => H' = H ∧ ∃ c, l[i]? = some c ∧ v = T [c]) :=
  ⟨fun i _ hi _ => by show i < (tx l).cps.size; simpa [tx] using hi, fun _ _ => by show (tx l).cps.size ≤ l.length; simp [tx], fun i H v H' _ _ y => by
    obtain ⟨e, c, h1, h2⟩ := y
    exact ⟨e, c, by simpa [tx] using h1, h2⟩⟩
end Sk

set_option Elab.async false
set_option linter.all false
set_option maxRecDepth 100000
set_option maxHeartbeats 4000000
/-! Sk: what the head leaves, by names; a def's promise from its body. -/
namespace Sk
open PySem PySem.Spec PyProof.Rows L2
def dd (x : Str) (s : Stmt) : He.DefD := ⟨(x, none), x, x, defArgs s, defBody s, defScope s, [], []⟩
structure Facts (fa : List He.Fa) (fn : List He.DefD) (K : PySem.W.Frag) (mg : Str → Option Value) : Prop where
  says : He.SaysD fa fn K
  at_ : ∃ h : Heap, K.In h ∧ h.Ns mainGlobals mg
section
variable {fa : List He.Fa} {fn : List He.DefD} {P : Program} {w : World} {K : PySem.W.Frag} {mg : Str → Option Value} {base : Heap}
theorem Facts.free (F : Facts fa fn K mg) {x : Str} (i : Nat) (h : fa[i]? = some (.free x) := by rfl) : mg x = none := by
  obtain ⟨h0, X, G⟩ := F.at_
  exact He.free_ok X G (F.says.fact i h)
theorem Facts.glo (F : Facts fa fn K mg) {x : Str} (i : Nat) (h : fa[i]? = some (.glo x) := by rfl) : mg x = some (.ref (He.ga K x)) := by
  obtain ⟨h0, X, G⟩ := F.at_
  exact He.glo_ok X G (F.says.fact i h)
theorem Facts.str (F : Facts fa fn K mg) {x z : Str} (i : Nat) (h : fa[i]? = some (.str x z) := by rfl) : ∃ t, mg x = some (.str z t) := by
  obtain ⟨h0, X, G⟩ := F.at_
  exact He.str_ok X G (F.says.fact i h)
theorem Facts.int (F : Facts fa fn K mg) {x : Str} {n : Int} (i : Nat) (h : fa[i]? = some (.int x n) := by rfl) : ∃ t, mg x = some (.int n t) := by
  obtain ⟨h0, X, G⟩ := F.at_
  exact He.int_ok X G (F.says.fact i h)
/-- a constant of the module -/
theorem pe_gtxt {X : Cx} {x z : Str} {t : Tok} {pos : Pos} (l : List Nat) (hm : X.mg x = some (.str z t)) (hz : z = tx l := by rfl) (hg : Gl X x := by rfl) (hd : (x == ("__debug__" : Str)) = false := by decide) : PE X (.Name x pos) (tC (T l)) := by
  subst hz
  exact pe_glob hg hm ⟨t, rfl⟩ hd
theorem pe_gint {X : Cx} {x : Str} {n : Int} {t : Tok} {pos : Pos} (hm : X.mg x = some (.int n t)) (hg : Gl X x := by rfl) (hd : (x == ("__debug__" : Str)) = false := by decide) : PE X (.Name x pos) (tC (.int n)) :=
  pe_glob hg hm ⟨t, rfl⟩ hd
/-- how the parameters of a def without defaults are bound -/
def BindsAs (x : Str) (s : Stmt) (ps : List Str) : Prop := ∀ (kV doc pm : Value) (an : Option Addr) (cdv ct : Value) (us : List Value), us.length = ps.length →
  bindArgs (PySem.W.fnOf x x (defArgs s) (defBody s) (defScope s) .none kV doc pm an cdv ct) ⟨us, []⟩ = pure (ps.zip us)
/-- what a body must do -/
def Body (P : Program) (w : World) (K : PySem.W.Frag) (mg : Str → Option Value) (base : Heap) (k : Nat) (x : Str) (s : Stmt) (N ps : List Str) (sp : Sp) : Prop :=
  ∀ (f : Addr) (cdv : Value) (A : Around) (outer : List Env) (t0 : Shared) (H : Hp) (vs : List V) (Q : VK) (E : XK), A.guards = some [] → Room k (A.deeper (envOfC x (defScope s) t0.heap.objs.size f cdv)) → sp vs H Q E →
    ∃ t, PSs (cxOf CX0 P w K mg base N x (defScope s) f cdv A outer t0 H E).nox (defBody s) t ∧ t { nx := fun _ H' => Q .non H', rt := Q } (start N vs) H
theorem Facts.fnG (F : Facts fa fn K mg) (i : Nat) {x : Str} {s : Stmt} {N ps : List Str} {k : Nat} {sp : Sp} (S : FnScope N ps (defScope s)) (cnt : ∀ vs H Q E, sp vs H Q E → vs.length = ps.length)
    (bd : BindsAs x s ps) (hb : Body P w K mg base k x s N ps sp) (hd : fn[i]? = some (dd x s) := by rfl) :
    ∃ fd, FnG P w K mg base (k + 1) (He.fAd K (x, none)) fd ps sp ∧ Binds K fd ps [] ∧ PySem.W.keepIn K (.ref (He.fAd K (x, none))) = true ∧ ∀ (t0 : Shared) (us : List Value), us.length = ps.length → BindsTo t0 fd ⟨us, []⟩ (ps.zip us) := by
  obtain ⟨fd, D⟩ := F.says.def_ i hd
  have D' : FunD K x x (defArgs s) (defBody s) (defScope s) [] [] (He.fAd K (x, none)) fd := D
  have b1 := FunD.bindsN (ps := ps) D' bd
  have b2 := FunD.bindsA (ps := ps) D' bd
  obtain ⟨oc, od, dV, kV, doc, pm, an, cdv, ct, osl, e, lk, hcd, _, _⟩ := D'.ex
  subst e
  exact ⟨_, fnG_of lk hcd S cnt (fun A outer t0 H vs Q E hg hr hs => by
    obtain ⟨t, h1, h2⟩ := hb _ cdv A outer t0 H vs Q E hg hr hs
    exact ⟨t, h1.nox, h2⟩), b1, D'.kp, b2⟩
theorem Facts.callee (F : Facts fa fn K mg) (i j : Nat) {x : Str} {s : Stmt} {N ps : List Str} {k : Nat} {sp : Sp} (S : FnScope N ps (defScope s)) (cnt : ∀ vs H Q E, sp vs H Q E → vs.length = ps.length)
    (bd : BindsAs x s ps) (hb : Body P w K mg base k x s N ps sp) (hd : fn[i]? = some (dd x s) := by rfl) (hf : fa[j]? = some (.glo x) := by rfl) : Callee P w K mg base (k + 1) x ps sp := by
  obtain ⟨fd, G, b, kp, _⟩ := F.fnG i S cnt bd hb hd
  exact ⟨_, fd, G, b, kp, F.glo j hf⟩
end
end Sk

set_option Elab.async false
set_option linter.all false
set_option maxRecDepth 100000
set_option maxHeartbeats 4000000
/-! Sk: the rules whose reading names the written part, the part given by hand; t[::-1]. -/
namespace Sk
open PySem PySem.Spec PyProof.Rows L2
section
variable {X : Cx} (K : PySem.W.Frag)
theorem k_ixl (h : X.K = K := by rfl) : IxR X (rIxL K) := by subst h; exact ix_list
theorem k_ixt (h : X.K = K := by rfl) : IxR X (rIxT K) := by subst h; exact ix_tup
/-- len of a list -/
def rLenL (K : PySem.W.Frag) : List V → Hp → VK → Prop := fun vs H Q => ∃ (p : Addr) (ys : List V), vs = [V.ref p] ∧ SqL K H p ys ∧ Q (.int (ys.length : Int)) H
theorem k_len (h : X.K = K := by rfl) : CallR X (.builtin "len") (rLenL K) := by
  subst h
  intro pins s σ H xs us Q I r q
  obtain ⟨p, ys, e, hs, q⟩ := q
  exact call_len_seq pins s σ H xs us Q I r ⟨p, ys, e, .inl hs, q⟩
def rLenU (K : PySem.W.Frag) : List V → Hp → VK → Prop := fun vs H Q => ∃ (p : Addr) (ys : List V), vs = [V.ref p] ∧ SqT K H p ys ∧ Q (.int (ys.length : Int)) H
theorem k_lent (h : X.K = K := by rfl) : CallR X (.builtin "len") (rLenU K) := by
  subst h
  intro pins s σ H xs us Q I r q
  obtain ⟨p, ys, e, hs, q⟩ := q
  exact call_len_seq pins s σ H xs us Q I r ⟨p, ys, e, .inr hs, q⟩
theorem k_eq (hu : X.A.units + 64 < cLine) (h : X.K = K := by rfl) : OpR X (compareOp .Eq) (rEqD K) := by subst h; exact op_eqD hu
theorem k_ne (hu : X.A.units + 64 < cLine) (h : X.K = K := by rfl) : OpR X (compareOp .NotEq) (rNeD K) := by subst h; exact op_neD hu
theorem k_isi (h : X.K = K := by rfl) : CallR X (.builtin "isinstance") (rIsi K) := by subst h; exact call_isi
theorem k_sum (h : X.K = K := by rfl) (hc : X.calm = true := by rfl) : CallR X (.builtin "sum") (rSum K) := by subst h; exact cr_sum hc
theorem k_join (h : X.K = K := by rfl) : MtR X "str.join" (rJoinT K) := by subst h; exact mt_joinT
theorem k_sort (h : X.K = K := by rfl) : CallR X (.builtin "sorted") (rSortT K) := by subst h; exact call_sortT
theorem k_repr (hg : X.A.guards = some []) (hu : X.A.units + 64 < cLine) (h : X.K = K := by rfl) : CallR X (.builtin "repr") (rRepr K) := by subst h; exact call_repr hg hu
theorem k_sll (h : X.K = K := by rfl) : SlR X (rSlL K) := by subst h; exact sl_list
theorem k_pil {tg l : Expr} {tl : TE} (hl : PE X l tl) (h : X.K = K := by rfl) : PI X tg l (iList K tl) := by subst h; exact pi_list hl
theorem k_tup {es : List Expr} {k : Nat} {pos : Pos} {t : TGs} {n : Nat} (hc : X.calm = true) (hp : PGs X es t) (h : X.K = K := by rfl)
    (hn : (assignEach es X.env).length = n := by rfl) (hst : (assignEach es X.env).findIdx? (·.1) = none := by rfl) : PG X (.Tuple es k pos) (gTup K n t) := by subst h; exact pg_tup hc hp hn hst
theorem k_bm {T id : String} {name : Str} {e o : Expr} {es : List Expr} {apos cpos : Pos} {t : TA} {to : TE} {r : V → List V → Hp → VK → Prop} (pa : PlainAttrs T) (slot : Slot T name id) (hty : typeOf (.builtin id) = pure (.type "method_descriptor")) (hm : MtR X id r) (ho : PE X o to) (ha : PA X (e :: es) t)
    (hK : X.K = K := by rfl) (hbase : attributeBase o name X.env (eval o X.env) = eval o X.env := by rfl)
    (hfew : ((backTo cpos (starEach (e :: es) X.env)).all (fun x => !x.1) && (backToKw cpos (keywordEach [] X.env)).all (fun x => x.1.isSome)
      && decide ((e :: es).length + ([] : List Keyword).length + (if ([] : List Keyword).isEmpty then 0 else 1) < 30)) = true := by rfl)
    (hline : (apos.endLine == cpos.line) = true := by rfl) (hs : starEach (e :: es) X.env = (false, eval e X.env) :: starEach es X.env := by rfl) (hplain : (backTo cpos (starEach es X.env)).any (·.1) = false := by rfl) :
    PE X (.Call (.Attribute o name apos) (e :: es) [] cpos) (tBM K T r to t) := by
  subst hK
  exact pe_bm pa slot hty hm ho ha hbase hfew hline hs hplain
theorem k_bm0 {T id : String} {name : Str} {o : Expr} {apos cpos : Pos} {to : TE} {r : V → List V → Hp → VK → Prop} (pa : PlainAttrs T) (slot : Slot T name id) (hty : typeOf (.builtin id) = pure (.type "method_descriptor")) (hm : MtR X id r) (ho : PE X o to)
    (hK : X.K = K := by rfl) (hbase : attributeBase o name X.env (eval o X.env) = eval o X.env := by rfl) (hline : (apos.endLine == cpos.line) = true := by rfl) :
    PE X (.Call (.Attribute o name apos) [] [] cpos) (tBM0 K T r to) := by
  subst hK
  exact pe_bm0 pa slot hty hm ho hbase hline
/-- t[::-1] -/
def tRevT (te : TE) : TE := fun σ H Q => te σ H fun x H1 => ∃ l : List Nat, x = T l ∧ l.length ≤ 1000000 ∧ Q (T l.reverse) H1
theorem rev_ix (l : List Nat) : ((Builtin.Str.strSliceIndices none none (-1) (tx l).length).filterMap ((tx l).cps[·]?)) = l.reverse := by
  have e : Builtin.Str.strSliceIndices none none (-1) (tx l).length = sliceRange (((tx l).cps.size : Int) - 1) (-1) (-1) := rfl
  rw [e, PySem.W.krv_sliceRange, PySem.W.krv_range, List.filterMap_reverse, PySem.W.krv_all]
  rfl
theorem pe_revT {e : Expr} {te : TE} {k : Nat} {p1 p2 p3 pos : Pos} (he : PE X e te) : PE X (.Subscript e (.Slice none none (some (.UnaryOp .USub (.Constant (.int 1) k p1) p2)) p3) pos) (tRevT te) := by
  constructor
  intro pins s σ H Q I h
  refine Subscript_ (thn (he.run pins s σ H _ I h) ?_)
  rintro v s1 ⟨x, H1, I1, r1, l, rfl, hz, q⟩
  obtain ⟨tk, rfl⟩ := r1
  have hst : PO X (some (.UnaryOp .USub (.Constant (.int 1) k p1) p2)) (tPart (tUn (rU fun i => .int (-i)) (tC (.int 1)))) := po_some (pe_un un_neg pe_int)
  refine wpAny_Slice (thn (po_none.run pins s1 σ H1 (fun o H2 => o = none ∧ H2 = H1) I1 ⟨rfl, rfl⟩) ?_)
  rintro vl s2 ⟨_, _, I2, pl, rfl, rfl⟩
  refine thn (po_none.run pins s2 σ _ (fun o H3 => o = none ∧ H3 = _) I2 ⟨rfl, rfl⟩) ?_
  rintro vu s3 ⟨_, _, I3, pu, rfl, rfl⟩
  refine thn (hst.run pins s3 σ _ (fun o H4 => o = some (-1) ∧ H4 = _) I3 ⟨1, rfl, -1, rfl, rfl, rfl⟩) ?_
  rintro vs s4 ⟨_, _, I4, ps, rfl, rfl⟩
  obtain ⟨a, rfl, ea⟩ := IsPart.raw pl
  obtain ⟨b, rfl, eb⟩ := IsPart.raw pu
  obtain ⟨c, rfl, ec⟩ := IsPart.raw ps
  cases c with
  | none => cases ec
  | some c =>
    have ec1 : c.1 = -1 := Option.some.inj ec
    have ea1 : a = none := by cases a with
      | none => rfl
      | some z => cases ea
    have eb1 : b = none := by cases b with
      | none => rfl
      | some z => cases eb
    subst ea1 eb1
    refine tail_any (ops := [.str (tx l) tk, .ref s4.heap.objs.size]) (typeIs_str _ _ _) (F.slot_str_getitem.lookup) ?_ (by with_unfolding_all rfl)
    refine wpAny_getItem_str_slice (l := none) (u := none) (st := some c) ⟨_, Heap.get?_push_size _ rfl, rfl, rfl⟩ (by show (c.1 == 0) = false; rw [ec1]; rfl) ?_
    have I5 : Inv X pins σ _ { s4 with heap := s4.heap.push { cls := .type "slice", data := .fields #[partValue none, partValue none, partValue (some c)] } } := I4.kept (t' := s4.toks) fun b ob q => Heap.get?_push_of_some _ q
    unfold sliceMade
    show Made.post (if (c.1 == 1 && _) = true then _ else Made.str _) _ _
    have e9 : slicePicked (tx l) none none (some c) = Builtin.Str.strSliceIndices none none c.1 (tx l).length := rfl
    rw [if_neg (by rw [ec1]; simp), e9, ec1]
    show Made.post (Made.str ⟨((Builtin.Str.strSliceIndices none none (-1) (tx l).length).filterMap ((tx l).cps[·]?)).toArray⟩) _ _
    rw [rev_ix]
    refine ⟨?_, ?_⟩
    · show (tx l.reverse).length ≤ sizeLine
      rw [tx_len, List.length_reverse]
      exact line_ok hz
    · exact ⟨T l.reverse, _, I5.tok _, ⟨_, rfl⟩, q⟩
end
end Sk

set_option Elab.async false
set_option linter.all false
set_option maxRecDepth 100000
set_option maxHeartbeats 4000000
/-! Sk: heaps that grow, the drawn list, comprehensions whose turns only read. -/
namespace Sk
open PySem PySem.Spec PyProof.Rows L2
theorem bt {p : Prop} [Decidable p] (h : p) : V.bl (decide p) = V.bl true := by rw [decide_eq_true h]
theorem bf {p : Prop} [Decidable p] (h : ¬ p) : V.bl (decide p) = V.bl false := by rw [decide_eq_false h]
theorem same_new {H : Hp} {p : Addr} {o : HO} (h : H p = none) : Same H (upd H p o) := fun b x e => by
  rw [upd_ne (ne_of_none e h)]
  exact e
theorem snew {H H' : Hp} {p : Addr} {o : HO} (s : Same H H') (h : H' p = none) : Same H (upd H' p o) := s.trans (same_new h)
theorem smut {H H' : Hp} {p : Addr} {o : HO} (s : Same H H') (h : H p = none) : Same H (upd H' p o) := fun b x e => by
  rw [upd_ne (ne_of_none e h)]
  exact s b x e
theorem ssqt {K : PySem.W.Frag} {H H' : Hp} {a : Addr} {xs : List V} (e : Same H H') (h : SqT K H a xs) : SqT K H' a xs := by
  rcases h with (h | ⟨o, h⟩) | h
  · exact .inl (.inl (e _ _ h))
  · exact .inl (.inr ⟨o, e _ _ h⟩)
  · exact .inr h
mutual
theorem Dp.same {K : PySem.W.Frag} {H H' : Hp} (s : Same H H') : ∀ (d : PyData) (v : V), Dp K H v d → Dp K H' v d
  | .none, _, h => by cases h; exact .non
  | .bool b, _, h => by cases h; exact .bl b
  | .int i, _, h => by cases h; exact .int i
  | .str x, _, h => by cases h; exact .str x
  | .list ds, _, h => by
    cases h with
    | lst a b => exact .lst (s.seq a) (DpAll.same s ds _ b)
  | .tuple ds, _, h => by
    cases h with
    | tup a b => exact .tup (ssqt s a) (DpAll.same s ds _ b)
  | .dict _, _, h => by cases h
theorem DpAll.same {K : PySem.W.Frag} {H H' : Hp} (s : Same H H') : ∀ (ds : List PyData) (vs : List V), DpAll K H vs ds → DpAll K H' vs ds
  | [], _, h => by cases h; exact .nil
  | d :: ds, _, h => by
    cases h with
    | cons a b => exact .cons (Dp.same s d _ a) (DpAll.same s ds _ b)
end
/-! ### == of a flat list and [] -/
def flat2 : V → Bool
  | .int _ | .bl _ | .non => true
  | .str x => PyData.strOk x
  | _ => false
def dV : V → PyData
  | .int i => .int i
  | .str x => .str x
  | .bl b => .bool b
  | _ => .none
theorem dp_flat {K : PySem.W.Frag} {H : Hp} {x : V} (h : flat2 x = true) : Dp K H x (dV x) ∧ (dV x).canLay0 = true ∧ (dV x).depth = 0 := by
  cases x with
  | int i => exact ⟨.int i, rfl, rfl⟩
  | bl b => exact ⟨.bl b, rfl, rfl⟩
  | non => exact ⟨.non, rfl, rfl⟩
  | str y => exact ⟨.str y, by
      show PyData.canLay0 (.str y) = true
      unfold PyData.canLay0
      exact h, rfl⟩
  | _ => cases h
theorem dpAll_flat {K : PySem.W.Frag} {H : Hp} : ∀ {xs : List V}, (∀ x ∈ xs, flat2 x = true) → DpAll K H xs (xs.map dV) ∧ PyData.canLayAll0 (xs.map dV) = true ∧ PyData.depthAll (xs.map dV) = 0
  | [], _ => ⟨.nil, rfl, rfl⟩
  | x :: xs, h => by
    obtain ⟨a1, a2, a3⟩ := dp_flat (K := K) (H := H) (h x List.mem_cons_self)
    obtain ⟨b1, b2, b3⟩ := dpAll_flat (K := K) (H := H) (xs := xs) fun y hy => h y (List.mem_cons_of_mem _ hy)
    refine ⟨.cons a1 b1, ?_, ?_⟩
    · rw [List.map_cons]
      unfold PyData.canLayAll0
      rw [a2, b2]; rfl
    · rw [List.map_cons]
      unfold PyData.depthAll
      rw [a3, b3]; rfl
theorem eqv_nil (ds : List PyData) : PyData.eqv (.list ds) (.list []) = decide (ds = []) := by
  cases ds with
  | nil => rfl
  | cons d r => rfl
theorem shaped_list {ds : List PyData} (h1 : PyData.canLayAll0 ds = true) (h2 : PyData.depthAll ds ≤ 60) : SeqAt.shaped (.list ds) = true := by
  unfold SeqAt.shaped
  rw [Bool.and_eq_true, decide_eq_true_eq]
  constructor
  · unfold PyData.canLay0; exact h1
  · unfold PyData.depth; omega
theorem map_nil_iff {xs : List V} : decide (xs.map dV = []) = decide (xs = []) := by
  cases xs <;> rfl
theorem eq_nil {K : PySem.W.Frag} {H : Hp} {Q : VK} {a b : Addr} {xs : List V} (h : SqL K H a xs) (hf : ∀ x ∈ xs, flat2 x = true) (hb : SqL K H b []) (q : Q (.bl (decide (xs = []))) H) : rEqD K (.ref a) (.ref b) H Q := by
  obtain ⟨d1, d2, d3⟩ := dpAll_flat (K := K) (H := H) hf
  refine ⟨.list (xs.map dV), .list [], .lst h d1, .lst hb .nil, shaped_list d2 (by omega), rfl, ?_⟩
  rw [eqv_nil, map_nil_iff]
  exact q
theorem ne_nil {K : PySem.W.Frag} {H : Hp} {Q : VK} {a b : Addr} {xs : List V} (h : SqL K H a xs) (hf : ∀ x ∈ xs, flat2 x = true) (hb : SqL K H b []) (q : Q (.bl (!decide (xs = []))) H) : rNeD K (.ref a) (.ref b) H Q := by
  obtain ⟨d1, d2, d3⟩ := dpAll_flat (K := K) (H := H) hf
  refine ⟨.list (xs.map dV), .list [], .lst h d1, .lst hb .nil, shaped_list d2 (by omega), rfl, ?_⟩
  rw [eqv_nil, map_nil_iff]
  exact q
/-- texts of plain signs -/
def Low (l : List Nat) : Prop := ∀ c ∈ l, c < 1114112
theorem flat_T {l : List Nat} (h : Low l) : flat2 (T l) = true := by
  show PyData.strOk (tx l) = true
  unfold PyData.strOk tx
  simp only [Array.all_eq_true', List.mem_toArray, List.all_toArray, List.all_eq_true]
  intro c hc
  simpa using h c hc
/-- a comprehension whose turns leave what stood: f tells what the i-th turn gives -/
theorem lc_pure {J : It} {n : Nat} {G : Hp → Prop} {Y : Nat → Hp → V → Hp → Prop} (w : Walk J n G Y) {g : TG} {tt : TT} {te : TE} {vs : List Nat} {σ : L2.St} {H1 : Hp} {D : Addr} {Qd : Hp → Prop} (f : Nat → Option V)
    (hD : H1 D = none) (hG : ∀ H, Same H1 H → G H) (hn : n ≤ 1000000)
    (turn : ∀ (i : Nat) (x : V) (H H' : Hp) (Qk : V → Hp → Prop) (Nk : Hp → Prop), i < n → Same H1 H → Y i H x H' → (∀ y H4, f i = some y → Same H H4 → Qk y H4) → (∀ H3, f i = none → Same H H3 → Nk H3) →
      g x (wipe σ vs) H' fun σ2 H2 => wipe σ2 vs = wipe σ vs ∧ tt σ2 H2 fun b H3 => if b = true then te σ2 H3 Qk else Nk H3)
    (hd : ∀ H, Same H1 H → H D = some (.lst ((List.range n).filterMap f)) → Qd H) :
    ∃ W : Nat → Nat → Hp → Prop, (∃ m, W 0 m (upd H1 D (.lst []))) ∧ ∀ i m H, W i m H →
      (J.stop i H ∧ Qd H) ∨ (J.go i H ∧ ∃ Nx : Hp → Prop, (∀ H', Nx H' → ∃ m', m' < m ∧ W (i + 1) m' H') ∧ ∀ x H', J.yld i H x H' → g x (wipe σ vs) H' fun σ2 H2 => wipe σ2 vs = wipe σ vs ∧ tt σ2 H2 fun b H3 =>
        if b = true then te σ2 H3 fun y H4 => ∃ acc, H4 D = some (.lst acc) ∧ acc.length < sizeLine ∧ Nx (upd H4 D (.lst (acc ++ [y]))) else Nx H3) := by
  refine lc_it w (fun i H => Same H1 H ∧ H D = some (.lst ((List.range i).filterMap f))) ⟨same_new hD, upd_same⟩ (fun i H _ p => hG H p.1) (fun i x H H' hi p y => ?_) (fun H p => hd H p.1 p.2)
  obtain ⟨s, e⟩ := p
  refine turn i x H H' _ _ hi s y (fun y H4 hf s4 => ?_) (fun H3 hf s3 => ?_)
  · refine ⟨_, s4 _ _ e, ?_, smut (s.trans s4) hD, ?_⟩
    · have h1 : ((List.range i).filterMap f).length ≤ i := by
        have := List.length_filterMap_le f (List.range i)
        rw [List.length_range] at this
        exact this
      exact line_lt (by omega)
    · rw [upd_same, List.range_succ, List.filterMap_append]
      simp [hf]
  · refine ⟨s.trans s3, ?_⟩
    rw [s3 _ _ e, List.range_succ, List.filterMap_append]
    simp [hf]
/-! ### the list that numbers are drawn from -/
def Gen (n : Nat) (H : Hp) (g : Addr) : Prop := ∃ a b c : Int, H g = some (.lst [.int a, .int b, .int c]) ∧ 0 ≤ a ∧ a < 10 ^ 600 ∧ 0 ≤ b ∧ b < 2147483647 ∧ 0 ≤ c ∧ c + n ≤ 2 ^ 40
theorem Gen.less {n m : Nat} {H : Hp} {g : Addr} (h : Gen n H g) (hm : m ≤ n) : Gen m H g := by
  obtain ⟨a, b, c, h1, h2, h3, h4, h5, h6, h7⟩ := h
  exact ⟨a, b, c, h1, h2, h3, h4, h5, h6, by omega⟩
theorem Gen.same {n : Nat} {H H' : Hp} {g : Addr} (h : Gen n H g) (s : Same H H') : Gen n H' g := by
  obtain ⟨a, b, c, h1, r⟩ := h
  exact ⟨a, b, c, s _ _ h1, r⟩
theorem Gen.some {n : Nat} {H : Hp} {g : Addr} (h : Gen n H g) : ∃ o, H g = some o := by
  obtain ⟨a, b, c, h1, r⟩ := h
  exact ⟨_, h1⟩
theorem Gen.ne {n : Nat} {H : Hp} {g p : Addr} (h : Gen n H g) (hp : H p = none) : p ≠ g := by
  obtain ⟨o, e⟩ := h.some
  exact (ne_of_none e hp).symm
/-- all but the drawn list stays -/
def But (g : Addr) (H H' : Hp) : Prop := ∀ b o, b ≠ g → H b = some o → H' b = some o
theorem But.refl (g : Addr) (H : Hp) : But g H H := fun _ _ _ h => h
theorem But.trans {g : Addr} {H H1 H2 : Hp} (a : But g H H1) (b : But g H1 H2) : But g H H2 := fun c o n h => b c o n (a c o n h)
theorem But.of {g : Addr} {H H' : Hp} (s : Same H H') : But g H H' := fun b o _ h => s b o h
theorem But.new {g : Addr} {H H' : Hp} {p : Addr} {o : HO} (s : But g H H') (h : H' p = none) : But g H (upd H' p o) := s.trans (But.of (same_new h))
theorem But.mut {g : Addr} {H H' : Hp} {p : Addr} {o : HO} (s : But g H H') (h : H p = none) : But g H (upd H' p o) := fun b x n e => by
  rw [upd_ne (ne_of_none e h)]
  exact s b x n e
theorem But.gen {g : Addr} {H H' : Hp} {o : HO} (s : But g H H') : But g H (upd H' g o) := fun b x n e => by
  rw [upd_ne n]
  exact s b x n e
/-- what a call with the drawn list leaves -/
theorem But.free {g : Addr} {H H' : Hp} (s : But g H H') {p : Addr} (hp : p ≠ g) (h : H' p = none) : H p = none := by
  cases e : H p with
  | none => rfl
  | some o =>
    rw [s p o hp e] at h
    cases h
theorem But.seq {K : PySem.W.Frag} {g : Addr} {H H' : Hp} {a : Addr} {xs : List V} (e : But g H H') (n : a ≠ g) (h : SqL K H a xs) : SqL K H' a xs := by
  rcases h with (h | ⟨o, h⟩) | h
  · exact .inl (.inl (e _ _ n h))
  · exact .inl (.inr ⟨o, e _ _ n h⟩)
  · exact .inr h
end Sk

set_option Elab.async false
set_option linter.all false
set_option maxRecDepth 100000
set_option maxHeartbeats 4000000
/-! Sk: dict comprehensions over a dict's own keys; where a letter comes next. -/
namespace Sk
open PySem PySem.Spec PyProof.Rows L2
theorem yes_ {σ : L2.St} {H : Hp} {Q : Bool → Hp → Prop} (h : Q true H) : tYes σ H Q := h
/-- a dict comprehension over a walk -/
theorem dc_it {J : It} {n : Nat} {G : Hp → Prop} {Y : Nat → Hp → V → Hp → Prop} (w : Walk J n G Y) {g : TG} {tt : TT} {tk tv : TE} {vs : List Nat} {σ : L2.St} {H1 : Hp} {D : Addr} {Qd : Hp → Prop} (Pv : Nat → Hp → Prop)
    (h0 : Pv 0 (upd H1 D (.dK []))) (hG : ∀ i H, i ≤ n → Pv i H → G H)
    (hs : ∀ i x H H', i < n → Pv i H → Y i H x H' → g x (wipe σ vs) H' fun σ2 H2 => wipe σ2 vs = wipe σ vs ∧ tt σ2 H2 fun b H3 =>
      if b = true then tk σ2 H3 fun y H4 => tv σ2 H4 fun z H5 => ∃ kvs k, y = kV k ∧ H5 D = some (.dK kvs) ∧ kvs.length < sizeLine ∧ Pv (i + 1) (upd H5 D (.dK (putK kvs k z))) else Pv (i + 1) H3) (hd : ∀ H, Pv n H → Qd H) :
    ∃ W : Nat → Nat → Hp → Prop, (∃ m, W 0 m (upd H1 D (.dK []))) ∧ ∀ i m H, W i m H →
      (J.stop i H ∧ Qd H) ∨ (J.go i H ∧ ∃ Nx : Hp → Prop, (∀ H', Nx H' → ∃ m', m' < m ∧ W (i + 1) m' H') ∧ ∀ x H', J.yld i H x H' → g x (wipe σ vs) H' fun σ2 H2 => wipe σ2 vs = wipe σ vs ∧ tt σ2 H2 fun b H3 =>
        if b = true then tk σ2 H3 fun y H4 => tv σ2 H4 fun z H5 => ∃ kvs k, y = kV k ∧ H5 D = some (.dK kvs) ∧ kvs.length < sizeLine ∧ Nx (upd H5 D (.dK (putK kvs k z))) else Nx H3) := by
  refine ⟨fun i m H => m + i = n ∧ Pv i H, ⟨n, rfl, h0⟩, ?_⟩
  rintro i m H ⟨em, p⟩
  have q := hG i H (by omega) p
  by_cases hlt : i < n
  · refine .inr ⟨w.goes i H hlt q, Pv (i + 1), fun H' p' => ⟨m - 1, by omega, by omega, p'⟩, fun x H' y => hs i x H H' hlt p (w.yields i H x H' hlt q y)⟩
  · have e : i = n := by omega
    subst e
    exact .inl ⟨w.stops H q, hd H p⟩
/-- {k: f(k) for k in d}, the dict being walked under a lock -/
theorem rd_dictmap {σ : L2.St} {r j : Nat} {H : Hp} {d : Addr} {kvs : List (Key × V)} {tv : TE} {Q : VK} (f : Key → V → V) (hr : σ[r]? = some (some (.ref d))) (hd : H d = some (.dK kvs)) (hj : j < σ.length)
    (nd : (kvs.map (·.1)).Nodup) (hz : kvs.length ≤ 1000000)
    (turn : ∀ (k : Key) (v : V) (o : Obj) (H3 : Hp) (Qk : VK), (k, v) ∈ kvs → H3 d = some (.frz o (.dK kvs)) → (∀ b u, b ≠ d → H b = some u → H3 b = some u) → Qk (f k v) H3 → tv ((wipe σ [j]).set j (some (kV k))) H3 Qk)
    (q : ∀ D H', Same H H' → H D = none → H' D = some (.dK (kvs.map fun p => (p.1, f p.1 p.2))) → Q (.ref D) H') :
    tLockE (tDc (iKeys (tVar r)) (gName j) tYes (tVar j) tv [j]) σ H Q := by
  refine ⟨d, .dK kvs, hd, trivial, fun o => ?_⟩
  have lk : upd H d (.frz o (.dK kvs)) d = some (.frz o (.dK kvs)) := upd_same
  refine ⟨.ref d, hr, d, o, rfl, .inl ⟨kvs, lk, fun D hD => ?_⟩⟩
  have nDd : D ≠ d := (ne_of_none lk hD).symm
  have hD0 : H D = none := by
    rw [upd_ne nDd] at hD
    exact hD
  refine dc_it walk_keys (fun i H3 => (∀ b u, b ≠ d → H b = some u → H3 b = some u) ∧ H3 d = some (.frz o (.dK kvs)) ∧ H3 D = some (.dK ((kvs.take i).map fun p => (p.1, f p.1 p.2)))) ⟨fun b u nb e => ?_, ?_, upd_same⟩ (fun i H3 _ p => p.2.1) (fun i x H3 H4 hi p y => ?_) (fun H3 p => ?_)
  · rw [upd_ne (ne_of_none e hD0), upd_ne nb]
    exact e
  · rw [upd_ne nDd.symm]
    exact lk
  · obtain ⟨p1, p2, p3⟩ := p
    obtain ⟨rfl, k, v, hk, rfl⟩ := y
    have hmem : (k, v) ∈ kvs := List.mem_of_getElem? hk
    refine ⟨?_, ?_⟩
    · show ((wipe σ [j]).set j (some (kV k))).set j none = (wipe σ [j])
      show (((σ.set j none).set j (some (kV k))).set j none) = σ.set j none
      rw [List.set_set, List.set_set]
    refine yes_ (iteT ?_)
    refine ⟨kV k, ?_, turn k v o _ _ hmem p2 p1 ?_⟩
    · show ((σ.set j none).set j (some (kV k)))[j]? = some (some (kV k))
      rw [List.getElem?_set_self (by rw [List.length_set]; exact hj)]
    refine ⟨_, k, rfl, p3, ?_, fun b u nb e => ?_, ?_, ?_⟩
    · rw [List.length_map, List.length_take]
      exact line_lt (Nat.le_trans (Nat.min_le_right _ _) hz)
    · rw [upd_ne (ne_of_none e hD0)]
      exact p1 b u nb e
    · rw [upd_ne nDd.symm]
      exact p2
    · rw [upd_same]
      have hlt : i < kvs.length := hi
      have ek : kvs[i] = (k, v) := by
        rw [List.getElem?_eq_getElem hlt] at hk
        exact Option.some.inj hk
      have e1 : kvs.take (i + 1) = kvs.take i ++ [(k, v)] := by rw [List.take_succ, hk]; rfl
      rw [e1, List.map_append, putK_new]
      · rfl
      · have hno : k ∉ (kvs.take i).map (·.1) := by
          intro hm
          rw [List.map_take] at hm
          obtain ⟨m, hm1, hm2⟩ := List.getElem_of_mem hm
          rw [List.length_take, List.length_map] at hm1
          rw [List.getElem_take, List.getElem_map] at hm2
          have hne := List.pairwise_iff_getElem.mp nd m i (by rw [List.length_map]; omega) (by rw [List.length_map]; exact hlt) (by omega)
          rw [List.getElem_map, List.getElem_map, ek] at hne
          exact hne hm2
        unfold valV
        rw [List.find?_eq_none.mpr]
        · rfl
        · intro p hp
          obtain ⟨p0, hp0, e⟩ := List.mem_map.mp hp
          subst e
          simp only [decide_eq_true_eq]
          intro e
          exact hno (List.mem_map.mpr ⟨p0, hp0, e⟩)
  · obtain ⟨p1, p2, p3⟩ := p
    rw [List.take_length] at p3
    refine ⟨p2, q D _ (fun b u e => ?_) hD0 ?_⟩
    · by_cases nb : b = d
      · subst nb
        rw [upd_same, ← hd, e]
      · rw [upd_ne nb]
        exact p1 b u nb e
    · rw [upd_ne nDd]
      exact p3
/-! ### where a letter comes next -/
def nx (l : List Nat) (c i : Nat) : Option Nat := ((l.drop i).findIdx? (· == c)).map (· + i)
theorem nx_end {l : List Nat} {c i : Nat} (h : l.length ≤ i) : nx l c i = none := by
  unfold nx
  rw [List.drop_eq_nil_of_le h]
  rfl
theorem nx_step {l : List Nat} {c i x : Nat} (h : l[i]? = some x) : nx l c i = if x = c then some i else nx l c (i + 1) := by
  obtain ⟨h1, h2⟩ := List.getElem?_eq_some_iff.mp h
  unfold nx
  rw [List.drop_eq_getElem_cons h1, h2, List.findIdx?_cons]
  by_cases e : x = c
  · rw [if_pos e, if_pos (by simp [e])]
    simp
  · rw [if_neg e, if_neg (by simp [e])]
    rw [Option.map_map]
    congr 1
    funext k
    show k + 1 + i = k + (i + 1)
    omega
theorem nx_some {l : List Nat} {c i k : Nat} (h : nx l c i = some k) : i ≤ k ∧ l[k]? = some c ∧ ∀ j, i ≤ j → j < k → l[j]? ≠ some c := by
  unfold nx at h
  rw [Option.map_eq_some_iff] at h
  obtain ⟨m, h1, h2⟩ := h
  rw [List.findIdx?_eq_some_iff_getElem] at h1
  obtain ⟨a1, a2, a3⟩ := h1
  rw [List.length_drop] at a1
  subst h2
  refine ⟨by omega, ?_, fun j hj1 hj2 e => ?_⟩
  · rw [List.getElem_drop] at a2
    rw [List.getElem?_eq_getElem (by omega)]
    have := eq_of_beq a2
    rw [← this]
    congr 2
    omega
  · have := a3 (j - i) (by omega)
    rw [List.getElem_drop] at this
    obtain ⟨b1, b2⟩ := List.getElem?_eq_some_iff.mp e
    apply this
    rw [beq_iff_eq, ← b2]
    congr 1
    omega
theorem nx_none {l : List Nat} {c i : Nat} (h : nx l c i = none) : ∀ j, i ≤ j → l[j]? ≠ some c := by
  unfold nx at h
  rw [Option.map_eq_none_iff, List.findIdx?_eq_none_iff] at h
  intro j hj e
  have hm : c ∈ l.drop i := by
    obtain ⟨b1, b2⟩ := List.getElem?_eq_some_iff.mp e
    rw [List.mem_iff_getElem]
    refine ⟨j - i, by rw [List.length_drop]; omega, ?_⟩
    rw [List.getElem_drop, ← b2]
    congr 1
    omega
  have := h c hm
  simp at this
theorem first_nx {l : List Nat} {c i : Nat} {r : Int} (h : FirstAt l c i r) : (nx l c i = none ∧ r = -1) ∨ ∃ k, nx l c i = some k ∧ r = (k : Int) := by
  cases e : nx l c i with
  | none =>
    left
    refine ⟨rfl, ?_⟩
    rcases h with ⟨h1, _⟩ | ⟨k, h1, h2, h3, _⟩
    · exact h1
    · exact absurd h3 (nx_none e k h2)
  | some k =>
    right
    obtain ⟨a1, a2, a3⟩ := nx_some e
    rcases h with ⟨_, h2⟩ | ⟨k', h1, h2, h3, h4⟩
    · exact absurd a2 (h2 k a1)
    · refine ⟨k, rfl, ?_⟩
      rw [h1]
      rcases Nat.lt_trichotomy k k' with z | z | z
      · exact absurd a2 (h4 k a1 z)
      · rw [z]
      · exact absurd h3 (a3 k' h2 z)
/-- a dict of the next places of the letters from i on -/
structure RowAt (l : List Nat) (i : Nat) (kvs : List (Key × V)) : Prop where
  nd : (kvs.map (·.1)).Nodup
  len : kvs.length ≤ l.length - i
  at_ : ∀ c, valV kvs (.inr (tx [c])) = (nx l c i).map fun (k : Nat) => V.int k
  keys : ∀ p ∈ kvs, ∃ c, p.1 = .inr (tx [c]) ∧ c ∈ l
theorem row_end (l : List Nat) : RowAt l l.length [] := ⟨List.nodup_nil, Nat.zero_le _, fun c => by rw [nx_end (Nat.le_refl _)]; rfl, fun p hp => by cases hp⟩
theorem putK_keys {kvs : List (Key × V)} {k : Key} {v : V} : (putK kvs k v).map (·.1) = if (kvs.any fun kv => decide (kv.1 = k)) = true then kvs.map (·.1) else kvs.map (·.1) ++ [k] := by
  unfold putK
  by_cases h : (kvs.any fun kv => decide (kv.1 = k)) = true
  · rw [if_pos h, if_pos h, List.map_map]
    apply List.map_congr_left
    intro p _
    show (if p.1 = k then (p.1, v) else p).1 = p.1
    split <;> rfl
  · rw [if_neg h, if_neg h, List.map_append]
    rfl
theorem putK_nodup {kvs : List (Key × V)} {k : Key} {v : V} (nd : (kvs.map (·.1)).Nodup) : ((putK kvs k v).map (·.1)).Nodup := by
  rw [putK_keys]
  by_cases h : (kvs.any fun kv => decide (kv.1 = k)) = true
  · rw [if_pos h]; exact nd
  · rw [if_neg h, List.nodup_append]
    refine ⟨nd, by simp, fun a ha b hb e => ?_⟩
    rw [List.mem_singleton] at hb
    subst hb
    obtain ⟨p, hp, e2⟩ := List.mem_map.mp ha
    exact h (List.any_eq_true.mpr ⟨p, hp, by rw [decide_eq_true_eq, e2, e]⟩)
theorem putK_mem {kvs : List (Key × V)} {k : Key} {v : V} {p : Key × V} (h : p ∈ putK kvs k v) : p.1 = k ∨ ∃ p' ∈ kvs, p'.1 = p.1 := by
  have : p.1 ∈ (putK kvs k v).map (·.1) := List.mem_map.mpr ⟨p, h, rfl⟩
  rw [putK_keys] at this
  split at this
  · obtain ⟨p', h1, h2⟩ := List.mem_map.mp this
    exact .inr ⟨p', h1, h2⟩
  · rcases List.mem_append.mp this with z | z
    · obtain ⟨p', h1, h2⟩ := List.mem_map.mp z
      exact .inr ⟨p', h1, h2⟩
    · exact .inl (List.mem_singleton.mp z)
theorem row_step {l : List Nat} {i x : Nat} {kvs : List (Key × V)} (h : RowAt l (i + 1) kvs) (hx : l[i]? = some x) : RowAt l i (putK kvs (.inr (tx [x])) (.int i)) := by
  obtain ⟨h1, h2⟩ := List.getElem?_eq_some_iff.mp hx
  refine ⟨putK_nodup h.nd, ?_, fun c => ?_, fun p hp => ?_⟩
  · have := length_putK kvs (.inr (tx [x])) (.int i)
    have := h.len
    omega
  · rw [valV_put, nx_step hx]
    by_cases e : x = c
    · subst e
      rw [if_pos rfl, if_pos rfl]
      rfl
    · rw [if_neg e, if_neg, h.at_]
      intro z
      injection z with z
      have := tx_inj z
      injection this with this
      exact e this.symm
  · rcases putK_mem hp with e | ⟨p', hp', e⟩
    · exact ⟨x, e, List.mem_of_getElem? hx⟩
    · obtain ⟨c, e2, hc⟩ := h.keys p' hp'
      exact ⟨c, by rw [← e, e2], hc⟩
end Sk

set_option Elab.async false
set_option linter.all false
set_option maxRecDepth 100000
set_option maxHeartbeats 4000000
/-! Sk: counting the words that are not read in a text. -/
namespace Sk
open PySem PySem.Spec PyProof.Rows L2
theorem fm_get {α β : Type} (a : List α) (g : α → β) : (List.range a.length).filterMap (fun j => (a[j]?).map g) = a.map g := by
  induction a with
  | nil => rfl
  | cons x r ih =>
    rw [List.length_cons, List.range_succ_eq_map, List.filterMap_cons, List.filterMap_map]
    simp only [List.getElem?_cons_zero, Option.map_some]
    rw [List.map_cons, ← ih]
    congr 1
theorem fm_some {β : Type} (n : Nat) (g : Nat → β) : (List.range n).filterMap (fun j => some (g j)) = (List.range n).map g := by
  rw [← List.filterMap_eq_map]
  rfl
theorem rep_flat {α : Type} (n : Nat) (x : α) : (List.replicate n [x]).flatten = (List.range n).map fun _ => x := by
  induction n with
  | zero => rfl
  | succ n ih =>
    rw [List.replicate_succ, List.flatten_cons, ih, List.range_succ_eq_map, List.map_cons, List.map_map]
    rfl
/-- how many words of n letters over a are not read in l from i on -/
def mis (a l : List Nat) : Nat → Nat → Int
  | 0, _ => 0
  | n + 1, i => (a.map fun c => match nx l c i with
    | some k => mis a l n (k + 1)
    | none => (a.length : Int) ^ n).sum
/-- read greedily -/
def rd : List Nat → List Nat → Bool
  | [], _ => true
  | _ :: _, [] => false
  | c :: w, x :: l => if c = x then rd w l else rd (c :: w) l
/-- all words of n letters, in order -/
def wds (a : List Nat) : Nat → List (List Nat)
  | 0 => [[]]
  | n + 1 => (wds a n).flatMap fun w => a.map fun c => w ++ [c]
/-- the same from the front -/
def wdf (a : List Nat) : Nat → List (List Nat)
  | 0 => [[]]
  | n + 1 => a.flatMap fun c => (wdf a n).map fun w => c :: w
theorem rd_nx (c : Nat) (w l : List Nat) : ∀ n i, l.length - i = n → rd (c :: w) (l.drop i) = match nx l c i with
    | some k => rd w (l.drop (k + 1))
    | none => false := by
  intro n
  induction n with
  | zero =>
    intro i h
    rw [List.drop_eq_nil_of_le (by omega), nx_end (by omega)]
    rfl
  | succ n ih =>
    intro i h
    have hi : i < l.length := by omega
    rw [List.drop_eq_getElem_cons hi, nx_step (List.getElem?_eq_getElem hi), rd]
    by_cases e : c = l[i]
    · rw [if_pos e, if_pos e.symm]
    · rw [if_neg e, if_neg (fun z => e z.symm)]
      exact ih (i + 1) (by omega)
theorem rd_at (c : Nat) (w l : List Nat) (i : Nat) : rd (c :: w) (l.drop i) = match nx l c i with
    | some k => rd w (l.drop (k + 1))
    | none => false := rd_nx c w l _ i rfl
theorem wdf_len (a : List Nat) : ∀ n, (wdf a n).length = a.length ^ n
  | 0 => rfl
  | n + 1 => by
    show (a.flatMap fun c => (wdf a n).map fun w => c :: w).length = _
    rw [List.length_flatMap]
    simp only [List.length_map, wdf_len a n]
    rw [List.map_const', List.sum_replicate_nat, Nat.pow_succ, Nat.mul_comm]
/-- the count is that of the list -/
theorem mis_count (a l : List Nat) : ∀ n i, (((wdf a n).filter fun w => !rd w (l.drop i)).length : Int) = mis a l n i := by
  intro n
  induction n with
  | zero =>
    intro i
    show ((List.filter (fun w => !rd w (l.drop i)) [[]]).length : Int) = 0
    rw [List.filter_cons_of_neg (by unfold rd; decide)]
    rfl
  | succ n ih =>
    intro i
    show ((List.filter (fun w => !rd w (l.drop i)) (a.flatMap fun c => (wdf a n).map fun w => c :: w)).length : Int) = (a.map fun c => match nx l c i with
      | some k => mis a l n (k + 1)
      | none => (a.length : Int) ^ n).sum
    have gen : ∀ b : List Nat, ((List.filter (fun w => !rd w (l.drop i)) (b.flatMap fun c => (wdf a n).map fun w => c :: w)).length : Int) = (b.map fun c => match nx l c i with
      | some k => mis a l n (k + 1)
      | none => (a.length : Int) ^ n).sum := by
      intro b
      induction b with
      | nil => rfl
      | cons c r ihr =>
        rw [List.flatMap_cons, List.filter_append, List.length_append, List.map_cons, List.sum_cons, ← ihr, Int.natCast_add]
        congr 1
        rw [List.filter_map, List.length_map]
        have e : (fun w => !rd (c :: w) (l.drop i)) = fun w => !(match nx l c i with | some k => rd w (l.drop (k + 1)) | none => false) := by
          funext w
          rw [rd_at]
        show ((List.filter (fun w => !rd (c :: w) (l.drop i)) (wdf a n)).length : Int) = _
        rw [e]
        cases nx l c i with
        | some k => exact ih (k + 1)
        | none =>
          have e0 : List.filter (fun _ => !false) (wdf a n) = wdf a n := List.filter_eq_self.mpr fun _ _ => rfl
          show ((List.filter (fun _ => !false) (wdf a n)).length : Int) = (a.length : Int) ^ n
          rw [e0, wdf_len, Int.natCast_pow]
    exact gen a
/-- both orders of growth give the same list -/
theorem wds_wdf (a : List Nat) : ∀ n, wds a n = wdf a n := by
  have key : ∀ n, (wdf a n).flatMap (fun w => a.map fun c => w ++ [c]) = a.flatMap fun c => (wdf a n).map fun w => c :: w := by
    intro n
    induction n with
    | zero =>
      show ([[]] : List (List Nat)).flatMap (fun w => a.map fun c => w ++ [c]) = a.flatMap fun c => [[]].map fun w => c :: w
      rw [List.flatMap_cons, List.flatMap_nil, List.append_nil]
      simp only [List.nil_append, List.map_cons, List.map_nil]
      induction a with
      | nil => rfl
      | cons x r ih => rw [List.map_cons, List.flatMap_cons, ih]; rfl
    | succ n ih =>
      show (a.flatMap fun c => (wdf a n).map fun w => c :: w).flatMap (fun w => a.map fun c => w ++ [c]) = a.flatMap fun c => (a.flatMap fun c => (wdf a n).map fun w => c :: w).map fun w => c :: w
      rw [List.flatMap_assoc]
      congr 1
      funext c
      rw [← ih, List.flatMap_map, List.map_flatMap]
      congr 1
      funext w
      rw [List.map_map]
      rfl
  intro n
  induction n with
  | zero => rfl
  | succ n ih =>
    show (wds a n).flatMap (fun w => a.map fun c => w ++ [c]) = _
    rw [ih, key]
    rfl
theorem mis_nonneg (a l : List Nat) (n i : Nat) : 0 ≤ mis a l n i := by
  rw [← mis_count]
  omega
theorem mis_lt (a l : List Nat) (n i : Nat) : mis a l n i ≤ (a.length : Int) ^ n := by
  rw [← mis_count, ← Int.natCast_pow, ← wdf_len a n]
  have := List.length_filter_le (fun w => !rd w (l.drop i)) (wdf a n)
  omega
end Sk

set_option Elab.async false
set_option linter.all false
set_option maxRecDepth 100000
set_option maxHeartbeats 4000000
/-! Sk: bounds of numbers. -/
namespace Sk
open PySem PySem.Spec PyProof.Rows L2
theorem nab_mul {i j : Int} {a b : Nat} (hi : i.natAbs < 2 ^ a) (hj : j.natAbs < 2 ^ b) : (i * j).natAbs < 2 ^ (a + b) := by
  rw [Int.natAbs_mul, Nat.pow_add]
  exact Nat.mul_lt_mul_of_lt_of_lt hi hj
theorem bits_le {i : Int} {k : Nat} (h0 : 0 < i) (h : i < 2 ^ k) : Builtin.Int.intBits i ≤ k := by
  unfold Builtin.Int.intBits
  have h1 : i.natAbs ≠ 0 := by omega
  have h2 : i.natAbs < 2 ^ k := by
    have : ((i.natAbs : Nat) : Int) < ((2 ^ k : Nat) : Int) := by
      rw [Int.natCast_pow]
      have : ((i.natAbs : Nat) : Int) = i := by omega
      rw [this]
      exact h
    exact Int.ofNat_lt.mp this
  have h3 := (Nat.log2_lt h1).mpr h2
  split <;> omega
theorem abs_lt {i : Int} {k : Nat} (h0 : 0 ≤ i) (h : i < 2 ^ k) : i.natAbs < 2 ^ k := by
  have : ((i.natAbs : Nat) : Int) < ((2 ^ k : Nat) : Int) := by
    rw [Int.natCast_pow]
    have : ((i.natAbs : Nat) : Int) = i := by omega
    rw [this]
    exact h
  exact Int.ofNat_lt.mp this
theorem seq_nat {i n : Nat} (h : i < n) : PySem.seqIndex? (i : Int) n = some i := by
  unfold PySem.seqIndex?
  have e : (if (i : Int) < 0 then (i : Int) + n else i) = i := if_neg (by omega)
  simp only [e]
  rw [if_pos (by rw [Bool.and_eq_true, decide_eq_true_eq, decide_eq_true_eq]; omega)]
  rfl
theorem b119 {b : Int} (h : b ≤ 1000001) : b < 2 ^ 119 := by
  have h2 : (1000001 : Int) < 2 ^ 119 := by decide
  omega
theorem fmod_rg {i j : Int} (h : 0 < j) : 0 ≤ i.fmod j ∧ i.fmod j < j := ⟨Int.fmod_nonneg_of_pos i h, Int.fmod_lt_of_pos i h⟩
end Sk

set_option Elab.async false
set_option linter.all false
set_option maxRecDepth 100000
set_option maxHeartbeats 4000000
/-! Sk: letters drawn from the alphabet and sorted. -/
namespace Sk
open PySem PySem.Spec PyProof.Rows L2
abbrev abcL : List Nat := [97, 98, 99, 100, 101, 102, 103, 104, 105, 106, 107, 108, 109, 110, 111, 112, 113, 114, 115, 116, 117, 118, 119, 120, 121, 122]
/-- an alphabet -/
structure IsAl (l : List Nat) : Prop where
  abc : ∀ c ∈ l, c ∈ abcL
  one : 1 ≤ l.length
  up : ∀ i a b, l[i]? = some a → l[i + 1]? = some b → a < b
theorem erase_perm : ∀ (l : List Nat) (i : Nat) (h : i < l.length), (l[i] :: l.eraseIdx i).Perm l
  | [], _, h => by cases h
  | x :: r, 0, _ => List.Perm.refl _
  | x :: r, i + 1, h => by
    have ih := erase_perm r i (by simpa using h)
    show (r[i]'(by simpa using h) :: x :: r.eraseIdx i).Perm (x :: r)
    exact (List.Perm.swap _ _ _).trans (ih.cons x)
theorem map_erase {β : Type} (f : Nat → β) : ∀ (l : List Nat) (i : Nat), (l.map f).eraseIdx i = (l.eraseIdx i).map f
  | [], _ => rfl
  | _ :: _, 0 => rfl
  | x :: r, i + 1 => by
    show f x :: (r.map f).eraseIdx i = f x :: (r.eraseIdx i).map f
    rw [map_erase f r i]
theorem singles : ∀ (ms : List (List Nat)), (∀ m ∈ ms, ∃ c, m = [c]) → ms = ms.flatten.map fun c => [c]
  | [], _ => rfl
  | m :: r, h => by
    obtain ⟨c, e⟩ := h m List.mem_cons_self
    have ih := singles r fun x hx => h x (List.mem_cons_of_mem _ hx)
    subst e
    rw [List.flatten_cons]
    show _ = [c] :: (r.flatten.map fun c => [c])
    rw [← ih]
/-- sorted singles of drawn letters are an alphabet -/
theorem sorted_al {ls rem : List Nat} {ms : List (List Nat)} (hp : (ls ++ rem).Perm abcL) (hm : ms.Perm (ls.map fun c => [c])) (hs : ms.Pairwise fun a b => ¬ b < a) (h1 : 1 ≤ ls.length) :
    IsAl ms.flatten ∧ ms.flatten.length = ls.length := by
  have hsing : ∀ m ∈ ms, ∃ c, m = [c] := fun m h => by
    obtain ⟨c, _, e⟩ := List.mem_map.mp (hm.mem_iff.mp h)
    exact ⟨c, e.symm⟩
  have e1 := singles ms hsing
  have pf : ms.flatten.Perm ls := by
    have := hm.flatten
    have e2 : (ls.map fun c => [c]).flatten = ls := by
      have gen : ∀ l : List Nat, (l.map fun c => [c]).flatten = l := fun l => by
        induction l with
        | nil => rfl
        | cons c r ih => rw [List.map_cons, List.flatten_cons, ih]; rfl
      exact gen ls
    rw [e2] at this
    exact this
  have nd0 : abcL.Nodup := by decide
  have nd : ms.flatten.Nodup := by
    have h2 := (hp.nodup_iff).mpr nd0
    exact (pf.nodup_iff).mpr (List.nodup_append.mp h2).1
  refine ⟨⟨fun c hc => ?_, ?_, fun i a b ha hb => ?_⟩, pf.length_eq⟩
  · exact hp.mem_iff.mp (List.mem_append_left _ (pf.mem_iff.mp hc))
  · rw [pf.length_eq]; exact h1
  · rw [e1] at hs
    obtain ⟨ia, ea⟩ := List.getElem?_eq_some_iff.mp ha
    obtain ⟨ib, eb⟩ := List.getElem?_eq_some_iff.mp hb
    have h2 := List.pairwise_iff_getElem.mp hs i (i + 1) (by rw [List.length_map]; exact ia) (by rw [List.length_map]; exact ib) (by omega)
    have h3 := List.pairwise_iff_getElem.mp nd i (i + 1) ia ib (by omega)
    rw [List.getElem_map, List.getElem_map, ea, eb] at h2
    rw [ea, eb] at h3
    have h4 : ¬ b < a := fun z => h2 (List.Lex.rel z)
    omega
end Sk

set_option Elab.async false
set_option linter.all false
set_option maxRecDepth 100000
set_option maxHeartbeats 4000000
/-! Sk: what repr shows of small data is small. -/
namespace Sk
open PySem PySem.Spec PyProof.Rows L2
theorem int_shows {i : Int} (h : i.natAbs < 2 ^ 1800) : (PyData.int i).showable = true ∧ (PyData.int i).leavesShort 600 = true ∧ (PyData.int i).weight ≤ 2000 := by
  refine ⟨?_, ?_, ?_⟩
  · unfold PyData.showable
    rw [decide_eq_true_eq]
    by_cases h0 : i.natAbs = 0
    · rw [h0]; decide
    · have := (Nat.log2_lt h0).mpr h
      omega
  · have hp : (2 : Nat) ^ 1800 < 10 ^ 599 := by decide +kernel
    have e := int_text_length_le10 (k := 599) (by decide) (Nat.lt_trans h hp)
    unfold PyData.leavesShort
    rw [decide_eq_true_eq]
    show (Str.ofString (toString i)).length ≤ 600
    rw [PySem.ofString_length]
    exact e
  · unfold PyData.weight
    split
    · exact Nat.zero_le _
    · rename_i h0
      have h0 : i.natAbs ≠ 0 := fun z => h0 (by rw [Int.natAbs_eq_zero.mp z]; rfl)
      have := (Nat.log2_lt h0).mpr h
      omega
theorem shows {d : PyData} (h : d.leavesShort 600 = true) (hw : d.weight ≤ 25000) : d.shown.length ≤ sizeLine := by
  have h1 := PyData.shown_le 600 (by decide) d h
  have h2 : (600 + 2) * d.weight ≤ 602 * 25000 := Nat.mul_le_mul (by omega) hw
  rw [sizeLine_eq]
  omega
theorem two_show {x y : Int} (hx : x.natAbs < 2 ^ 1800) (hy : y.natAbs < 2 ^ 1800) : (PyData.tuple [.int x, .int y]).showable = true ∧ (PyData.tuple [.int x, .int y]).hasDict = false ∧ (PyData.tuple [.int x, .int y]).depth ≤ 60 ∧ (PyData.tuple [.int x, .int y]).shown.length ≤ sizeLine := by
  obtain ⟨a1, a2, wx⟩ := int_shows hx
  obtain ⟨b1, b2, wy⟩ := int_shows hy
  refine ⟨?_, rfl, ?_, shows ?_ ?_⟩
  · simp only [PyData.showable, PyData.showableAll, Bool.and_eq_true] at *
    exact ⟨a1, b1, trivial⟩
  · simp [PyData.depth, PyData.depthAll]
  · simp only [PyData.leavesShort, PyData.leavesShortAll, Bool.and_eq_true] at *
    exact ⟨a2, b2, trivial⟩
  · simp only [PyData.weight, PyData.weightAll] at *
    omega
end Sk

set_option Elab.async false
set_option linter.all false
set_option maxRecDepth 100000
set_option maxHeartbeats 4000000
/-! Sk: a law's def, for every heap that the written part stands in. -/
namespace Sk
open PySem PySem.Spec PyProof.Rows L2
section
variable {fa : List He.Fa} {fn : List He.DefD} {P : Program} {w : World} {K : PySem.W.Frag} {mg : Str → Option Value}
theorem Facts.lawG (F : Facts fa fn K mg) (i : Nat) {x : Str} {s : Stmt} {N ps : List Str} {k : Nat} {sp : Sp} (S : FnScope N ps (defScope s)) (cnt : ∀ vs H Q E, sp vs H Q E → vs.length = ps.length)
    (bd : BindsAs x s ps) (hb : ∀ base : Heap, K.In base → base.Ns mainGlobals mg → Body P w K mg base k x s N ps sp) (hd : fn[i]? = some (dd x s) := by rfl) :
    ∃ fd, (∀ (t0 : Shared) (us : List Value), us.length = ps.length → BindsTo t0 fd ⟨us, []⟩ (ps.zip us)) ∧ ∀ base : Heap, K.In base → base.Ns mainGlobals mg → FnG P w K mg base (k + 1) (He.fAd K (x, none)) fd ps sp := by
  obtain ⟨fd, D⟩ := F.says.def_ i hd
  have D' : FunD K x x (defArgs s) (defBody s) (defScope s) [] [] (He.fAd K (x, none)) fd := D
  have b2 := FunD.bindsA (ps := ps) D' bd
  obtain ⟨oc, od, dV, kV, doc, pm, an, cdv, ct, osl, e, lk, hcd, _, _⟩ := D'.ex
  subst e
  exact ⟨_, b2, fun base hk hn => fnG_of lk hcd S cnt (fun A outer t0 H vs Q E hg hr hs => by
    obtain ⟨t, h1, h2⟩ := hb base hk hn _ cdv A outer t0 H vs Q E hg hr hs
    exact ⟨t, h1.nox, h2⟩)⟩
end
/-- all but the drawn list stays, and that was not there -/
theorem But.same {g : Addr} {H H' : Hp} (s : But g H H') (h : H g = none) : Same H H' := fun b o e => s b o (ne_of_none e h) e
end Sk

set_option Elab.async false
set_option linter.all false
set_option maxRecDepth 100000
set_option maxHeartbeats 0
namespace K81
open PySem PySem.Spec PyProof.Rows L2
def tp (i : Nat) : Stmt := PySem.Challenge.pw_skipcounts_k81_arches_and_missing_texts.main.body.getD i (.Pass ⟨0, 0, 0, 0⟩)
abbrev s_is_string_of : Stmt := tp 7
abbrev s_is_letters_alone : Stmt := tp 8
abbrev s_is_letters : Stmt := tp 9
abbrev s_check_letters : Stmt := tp 10
abbrev s_is_text_over : Stmt := tp 11
abbrev s_check_over : Stmt := tp 12
abbrev s_places_ahead : Stmt := tp 14
abbrev s_arches_of : Stmt := tp 16
abbrev s_arches : Stmt := tp 17
abbrev s_missing : Stmt := tp 18
abbrev s_l_hash : Stmt := tp 20
abbrev s_l_random : Stmt := tp 21
abbrev s_l_cell : Stmt := tp 22
abbrev s_l_generator : Stmt := tp 23
abbrev s_l_size : Stmt := tp 25
abbrev s_l_text : Stmt := tp 26
abbrev s_l_is_read : Stmt := tp 28
abbrev s_l_same : Stmt := tp 31
abbrev s_l_alphabet : Stmt := tp 32
abbrev s_l_full_text : Stmt := tp 33
abbrev s_l_has_all : Stmt := tp 34
abbrev s_l_arches_right : Stmt := tp 35
abbrev s_l_missing : Stmt := tp 36
abbrev s_l_number : Stmt := tp 37
abbrev s_l_right : Stmt := tp 38
abbrev s_l_long_right : Stmt := tp 39
abbrev s_law : Stmt := tp 40
abbrev n_is_string_of : List Str := ["value", "signs"]
abbrev p_is_string_of : List Str := ["value", "signs"]
theorem sc_is_string_of : FnScope n_is_string_of p_is_string_of (defScope s_is_string_of) :=
  ⟨rfl, rfl, rfl, by decide +kernel, rfl, by decide +kernel, by decide +kernel⟩
abbrev n_is_letters_alone : List Str := ["value"]
abbrev p_is_letters_alone : List Str := ["value"]
theorem sc_is_letters_alone : FnScope n_is_letters_alone p_is_letters_alone (defScope s_is_letters_alone) :=
  ⟨rfl, rfl, rfl, by decide +kernel, rfl, by decide +kernel, by decide +kernel⟩
abbrev n_is_letters : List Str := ["value", "at"]
abbrev p_is_letters : List Str := ["value"]
theorem sc_is_letters : FnScope n_is_letters p_is_letters (defScope s_is_letters) :=
  ⟨rfl, rfl, rfl, by decide +kernel, rfl, by decide +kernel, by decide +kernel⟩
abbrev n_check_letters : List Str := ["letters"]
abbrev p_check_letters : List Str := ["letters"]
theorem sc_check_letters : FnScope n_check_letters p_check_letters (defScope s_check_letters) :=
  ⟨rfl, rfl, rfl, by decide +kernel, rfl, by decide +kernel, by decide +kernel⟩
abbrev n_is_text_over : List Str := ["letters", "value"]
abbrev p_is_text_over : List Str := ["letters", "value"]
theorem sc_is_text_over : FnScope n_is_text_over p_is_text_over (defScope s_is_text_over) :=
  ⟨rfl, rfl, rfl, by decide +kernel, rfl, by decide +kernel, by decide +kernel⟩
abbrev n_check_over : List Str := ["letters", "text"]
abbrev p_check_over : List Str := ["letters", "text"]
theorem sc_check_over : FnScope n_check_over p_check_over (defScope s_check_over) :=
  ⟨rfl, rfl, rfl, by decide +kernel, rfl, by decide +kernel, by decide +kernel⟩
abbrev n_places_ahead : List Str := ["text", "row", "found", "at", "letter"]
abbrev p_places_ahead : List Str := ["text"]
theorem sc_places_ahead : FnScope n_places_ahead p_places_ahead (defScope s_places_ahead) :=
  ⟨rfl, rfl, rfl, by decide +kernel, rfl, by decide +kernel, by decide +kernel⟩
abbrev n_arches_of : List Str := ["letters", "text", "found", "now", "letter", "other"]
abbrev p_arches_of : List Str := ["letters", "text"]
theorem sc_arches_of : FnScope n_arches_of p_arches_of (defScope s_arches_of) :=
  ⟨rfl, rfl, rfl, by decide +kernel, rfl, by decide +kernel, by decide +kernel⟩
abbrev n_arches : List Str := ["letters", "text"]
abbrev p_arches : List Str := ["letters", "text"]
theorem sc_arches : FnScope n_arches p_arches (defScope s_arches) :=
  ⟨rfl, rfl, rfl, by decide +kernel, rfl, by decide +kernel, by decide +kernel⟩
abbrev n_missing : List Str := ["letters", "text", "size", "rows", "row", "whole", "_", "step", "letter"]
abbrev p_missing : List Str := ["letters", "text"]
theorem sc_missing : FnScope n_missing p_missing (defScope s_missing) :=
  ⟨rfl, rfl, rfl, by decide +kernel, rfl, by decide +kernel, by decide +kernel⟩
abbrev n_l_hash : List Str := ["_law_seed", "_law_index", "_law_mixed"]
abbrev p_l_hash : List Str := ["_law_seed", "_law_index"]
theorem sc_l_hash : FnScope n_l_hash p_l_hash (defScope s_l_hash) :=
  ⟨rfl, rfl, rfl, by decide +kernel, rfl, by decide +kernel, by decide +kernel⟩
abbrev n_l_random : List Str := ["_law_generator_here", "_law_bound", "_law_drawn", "_law_turn"]
abbrev p_l_random : List Str := ["_law_generator_here", "_law_bound"]
theorem sc_l_random : FnScope n_l_random p_l_random (defScope s_l_random) :=
  ⟨rfl, rfl, rfl, by decide +kernel, rfl, by decide +kernel, by decide +kernel⟩
abbrev n_l_cell : List Str := ["_law_script", "_law_index"]
abbrev p_l_cell : List Str := ["_law_script", "_law_index"]
theorem sc_l_cell : FnScope n_l_cell p_l_cell (defScope s_l_cell) :=
  ⟨rfl, rfl, rfl, by decide +kernel, rfl, by decide +kernel, by decide +kernel⟩
abbrev n_l_generator : List Str := ["_law_script", "_law_index", "_law_seed"]
abbrev p_l_generator : List Str := ["_law_script", "_law_index"]
theorem sc_l_generator : FnScope n_l_generator p_l_generator (defScope s_l_generator) :=
  ⟨rfl, rfl, rfl, by decide +kernel, rfl, by decide +kernel, by decide +kernel⟩
abbrev n_l_size : List Str := ["_law_generator_here", "_law_least", "_law_most"]
abbrev p_l_size : List Str := ["_law_generator_here", "_law_least", "_law_most"]
theorem sc_l_size : FnScope n_l_size p_l_size (defScope s_l_size) :=
  ⟨rfl, rfl, rfl, by decide +kernel, rfl, by decide +kernel, by decide +kernel⟩
abbrev n_l_text : List Str := ["_law_generator_here", "_law_letters_here", "_law_least", "_law_most", "_law_many", "_law_text_here", "_law_turn"]
abbrev p_l_text : List Str := ["_law_generator_here", "_law_letters_here", "_law_least", "_law_most"]
theorem sc_l_text : FnScope n_l_text p_l_text (defScope s_l_text) :=
  ⟨rfl, rfl, rfl, by decide +kernel, rfl, by decide +kernel, by decide +kernel⟩
abbrev n_l_is_read : List Str := ["_law_word", "_law_text_here", "_law_at", "_law_letter"]
abbrev p_l_is_read : List Str := ["_law_word", "_law_text_here"]
theorem sc_l_is_read : FnScope n_l_is_read p_l_is_read (defScope s_l_is_read) :=
  ⟨rfl, rfl, rfl, by decide +kernel, rfl, by decide +kernel, by decide +kernel⟩
abbrev n_l_same : List Str := ["_law_told", "_law_due"]
abbrev p_l_same : List Str := ["_law_told", "_law_due"]
theorem sc_l_same : FnScope n_l_same p_l_same (defScope s_l_same) :=
  ⟨rfl, rfl, rfl, by decide +kernel, rfl, by decide +kernel, by decide +kernel⟩
abbrev n_l_alphabet : List Str := ["_law_generator_here", "_law_left", "_law_many", "_law_turn"]
abbrev p_l_alphabet : List Str := ["_law_generator_here"]
theorem sc_l_alphabet : FnScope n_l_alphabet p_l_alphabet (defScope s_l_alphabet) :=
  ⟨rfl, rfl, rfl, by decide +kernel, rfl, by decide +kernel, by decide +kernel⟩
abbrev n_l_full_text : List Str := ["_law_generator_here", "_law_letters_here", "_law_most", "_law_text_here", "_law_turn", "_law_way", "_law_part"]
abbrev p_l_full_text : List Str := ["_law_generator_here", "_law_letters_here", "_law_most"]
theorem sc_l_full_text : FnScope n_l_full_text p_l_full_text (defScope s_l_full_text) :=
  ⟨rfl, rfl, rfl, by decide +kernel, rfl, by decide +kernel, by decide +kernel⟩
abbrev n_l_has_all : List Str := ["_law_letters_here", "_law_text_here", "_law_letter"]
abbrev p_l_has_all : List Str := ["_law_letters_here", "_law_text_here"]
theorem sc_l_has_all : FnScope n_l_has_all p_l_has_all (defScope s_l_has_all) :=
  ⟨rfl, rfl, rfl, by decide +kernel, rfl, by decide +kernel, by decide +kernel⟩
abbrev n_l_arches_right : List Str := ["_law_letters_here", "_law_text_here", "_law_told", "_law_many", "_law_arch"]
abbrev p_l_arches_right : List Str := ["_law_letters_here", "_law_text_here"]
theorem sc_l_arches_right : FnScope n_l_arches_right p_l_arches_right (defScope s_l_arches_right) :=
  ⟨rfl, rfl, rfl, by decide +kernel, rfl, by decide +kernel, by decide +kernel⟩
abbrev n_l_missing : List Str := ["_law_letters_here", "_law_size_here", "_law_text_here", "_law_words", "_law_turn", "_law_longer_here", "_law_word", "_law_letter"]
abbrev p_l_missing : List Str := ["_law_letters_here", "_law_size_here", "_law_text_here"]
theorem sc_l_missing : FnScope n_l_missing p_l_missing (defScope s_l_missing) :=
  ⟨rfl, rfl, rfl, by decide +kernel, rfl, by decide +kernel, by decide +kernel⟩
abbrev n_l_number : List Str := ["_law_letters_here", "_law_size_here", "_law_text_here", "_law_row", "_law_whole", "_law_turn", "_law_later", "_law_at", "_law_places", "_law_letter", "_law_place"]
abbrev p_l_number : List Str := ["_law_letters_here", "_law_size_here", "_law_text_here"]
theorem sc_l_number : FnScope n_l_number p_l_number (defScope s_l_number) :=
  ⟨rfl, rfl, rfl, by decide +kernel, rfl, by decide +kernel, by decide +kernel⟩
abbrev n_l_right : List Str := ["_law_generator_here", "_law_letters_here", "_law_text_here", "_law_many", "_law_told", "_law_due"]
abbrev p_l_right : List Str := ["_law_generator_here"]
theorem sc_l_right : FnScope n_l_right p_l_right (defScope s_l_right) :=
  ⟨rfl, rfl, rfl, by decide +kernel, rfl, by decide +kernel, by decide +kernel⟩
abbrev n_l_long_right : List Str := ["_law_generator_here", "_law_letters_here", "_law_text_here", "_law_many", "_law_short", "_law_turn"]
abbrev p_l_long_right : List Str := ["_law_generator_here"]
theorem sc_l_long_right : FnScope n_l_long_right p_l_long_right (defScope s_l_long_right) :=
  ⟨rfl, rfl, rfl, by decide +kernel, rfl, by decide +kernel, by decide +kernel⟩
abbrev n_law : List Str := ["_law_script", "_law_index", "_law_generator_here", "_law_told"]
abbrev p_law : List Str := ["_law_script"]
theorem sc_law : FnScope n_law p_law (defScope s_law) :=
  ⟨rfl, rfl, rfl, by decide +kernel, rfl, by decide +kernel, by decide +kernel⟩
def fn : List He.DefD := [Sk.dd "is_string_of" s_is_string_of, Sk.dd "is_letters_alone" s_is_letters_alone, Sk.dd "is_letters" s_is_letters, Sk.dd "check_letters" s_check_letters, Sk.dd "is_text_over" s_is_text_over, Sk.dd "check_over" s_check_over, Sk.dd "places_ahead" s_places_ahead, Sk.dd "arches_of" s_arches_of, Sk.dd "arches" s_arches, Sk.dd "missing" s_missing, Sk.dd "_law_hash" s_l_hash, Sk.dd "_law_random" s_l_random, Sk.dd "_law_cell" s_l_cell, Sk.dd "_law_generator" s_l_generator, Sk.dd "_law_size" s_l_size, Sk.dd "_law_text" s_l_text, Sk.dd "_law_is_read" s_l_is_read, Sk.dd "_law_same" s_l_same, Sk.dd "_law_alphabet" s_l_alphabet, Sk.dd "_law_full_text" s_l_full_text, Sk.dd "_law_has_all" s_l_has_all, Sk.dd "_law_arches_right" s_l_arches_right, Sk.dd "_law_missing" s_l_missing, Sk.dd "_law_number" s_l_number, Sk.dd "_law_right" s_l_right, Sk.dd "_law_long_right" s_l_long_right, Sk.dd "law" s_law]
def fa : List He.Fa := [.glo "is_string_of", .glo "is_letters_alone", .glo "is_letters", .glo "check_letters", .glo "is_text_over", .glo "check_over", .glo "places_ahead", .glo "arches_of", .glo "arches", .glo "missing", .glo "_law_hash", .glo "_law_random", .glo "_law_cell", .glo "_law_generator", .glo "_law_size", .glo "_law_text", .glo "_law_is_read", .glo "_law_same", .glo "_law_alphabet", .glo "_law_full_text", .glo "_law_has_all", .glo "_law_arches_right", .glo "_law_missing", .glo "_law_number", .glo "_law_right", .glo "_law_long_right", .glo "law", .free "int", .free "isinstance", .free "len", .free "list", .free "max", .free "range", .free "repr", .free "sorted", .free "str", .free "sum", .free "tuple", .str "LETTERS" "abcdefghijklmnopqrstuvwxyz", .int "MOST_LETTERS" 4]
abbrev RR : PySem.W.OpenRow := PySem.W.OpenLaw.row PySem.Challenge.rw_skipcounts_k81_arches_and_missing_texts
abbrev hk : PySem.W.Hook := He.hookD 4 fa fn
def ob (s : PySem.W.SharedT) : He.AlD := He.obsDG 4 fa fn (HandSHeadRun.getT s)
theorem ob_eq (s : PySem.W.SharedT) : ob s = hk.obs s.abs :=
  He.obsDG_eq (HandSHeadRun.getT_eq s)
def lo0 : List Str := ["SkipError", "InvalidText", "InvalidLetters", "LETTERS", "MOST_LETTERS", "is_string_of", "is_letters_alone", "is_letters", "check_letters", "is_text_over", "check_over", "places_ahead", "arches_of", "arches", "missing", "_law_hash", "_law_random", "_law_cell", "_law_generator", "_law_letters", "_law_size", "_law_text", "_law_near", "_law_is_read", "_law_longer", "_law_reads", "_law_same", "_law_alphabet", "_law_full_text", "_law_has_all"]
def lo1 : List Str := ["_law_arches_right", "_law_missing", "_law_number", "_law_right", "_law_long_right"]
def lo : List Str := lo0 ++ lo1
theorem run (w : World) : HandSHeadRun.RunEq RR (PySem.W.view RR.prog [40]) hk ob 4000 lo w := by
  intro os
  kernel_rfl
end K81

set_option Elab.async false
set_option linter.all false
set_option maxRecDepth 100000
set_option maxHeartbeats 4000000
namespace K81
open PySem PySem.Spec PyProof.Rows L2 Sk
abbrev abc : List Nat := [97, 98, 99, 100, 101, 102, 103, 104, 105, 106, 107, 108, 109, 110, 111, 112, 113, 114, 115, 116, 117, 118, 119, 120, 121, 122]
/-- an alphabet -/
structure IsAl (l : List Nat) : Prop where
  abc : ∀ c ∈ l, c ∈ abc
  one : 1 ≤ l.length
  four : l.length ≤ 4
  up : ∀ i a b, l[i]? = some a → l[i + 1]? = some b → a < b
theorem IsAl.low {l : List Nat} (h : IsAl l) : Low l := fun c hc => by
  have : ∀ x ∈ K81.abc, x < 1114112 := by decide
  exact this c (h.abc c hc)
section
variable {P : Program} {w : World} {K : PySem.W.Frag} {mg : Str → Option Value} {base : Heap}
def sp_is_string_of : Sp := fun vs H Q _ => ∃ l b, vs = [T l, T b] ∧ l.length ≤ 100000 ∧ Q (.bl (decide (∀ c ∈ l, c ∈ b))) H
theorem ok_is_string_of (F : Facts fa fn K mg) : Callee P w K mg base 1 "is_string_of" p_is_string_of sp_is_string_of := by
  refine F.callee 0 0 sc_is_string_of (fun vs H Q E h => ?_) (fun _ _ _ _ _ _ us hl => match us, hl with | [_, _], _ => rfl) (fun f cdv A outer t0 H vs Q E hg hr h => ?_)
  · obtain ⟨l, b, rfl, _⟩ := h
    rfl
  · obtain ⟨l, b, rfl, hz, q⟩ := h
    refine ⟨_, (pss_one (ps_ret (pe_and (pe_callB (k_isi K) (by rfl) (F.free 28) (by decide +kernel) (pa_cons (pv 0) (pa_cons (pe_bltn (v := .ty "str") (by rfl) (F.free 35) (by decide +kernel) rfl) pa_nil))) (pe_one (pe_cmpR op_eqT (k_bm K PySem.F.plainAttrs_str PySem.F.slot_str_strip PySem.F.type_str_strip mt_stripT (pv 0) (pa_cons (pv 1) pa_nil)) (pe_txt []) (nomark _)))))), ?_⟩
    refine ⟨_, rfl, _, _, _, _, _, rfl, .ty _, .base (.str _), kit_ty (r := true) (by decide +kernel), ?_⟩
    refine ⟨true, rfl, ?_⟩
    refine ⟨_, rfl, rfl, _, rfl, l, b, rfl, rfl, by omega, fun r hr => ?_⟩
    refine ⟨r, [], rfl, rfl, ?_⟩
    show Q (.bl (decide (r = []))) H
    have e : decide (r = []) = decide (∀ c ∈ l, c ∈ b) := by
      by_cases h : r = []
      · rw [decide_eq_true h, decide_eq_true (hr.mp h)]
      · rw [decide_eq_false h, decide_eq_false (fun z => h (hr.mpr z))]
    rw [e]
    exact q
def sp_is_letters_alone : Sp := fun vs H Q _ => ∃ l, vs = [T l] ∧ l.length ≤ 100000 ∧ Q (.bl (decide (∀ c ∈ l, c ∈ abc))) H
theorem ok_is_letters_alone (F : Facts fa fn K mg) (c_is_string_of : Callee P w K mg base 1 "is_string_of" p_is_string_of sp_is_string_of) : Callee P w K mg base 2 "is_letters_alone" p_is_letters_alone sp_is_letters_alone := by
  refine F.callee 1 1 sc_is_letters_alone (fun vs H Q E h => ?_) (fun _ _ _ _ _ _ us hl => match us, hl with | [_], _ => rfl) (fun f cdv A outer t0 H vs Q E hg hr h => ?_)
  · obtain ⟨l, rfl, _⟩ := h
    rfl
  · obtain ⟨l, rfl, hz, q⟩ := h
    obtain ⟨t_LETTERS, m_LETTERS⟩ := F.str (x := "LETTERS") 38
    refine ⟨_, (pss_one (ps_ret (pe_cal c_is_string_of hg (hr.mono (by decide)) (pa_cons (pv 0) (pa_cons (pe_gtxt [97, 98, 99, 100, 101, 102, 103, 104, 105, 106, 107, 108, 109, 110, 111, 112, 113, 114, 115, 116, 117, 118, 119, 120, 121, 122] m_LETTERS) pa_nil))))), ?_⟩
    exact ⟨_, rfl, l, abc, rfl, hz, q⟩
def sp_is_letters : Sp := fun vs H Q _ => ∃ l, vs = [T l] ∧ IsAl l ∧ ∀ H', Same H H' → Q (.bl true) H'
theorem ok_is_letters (F : Facts fa fn K mg) (c_is_letters_alone : Callee P w K mg base 2 "is_letters_alone" p_is_letters_alone sp_is_letters_alone) : Callee P w K mg base 3 "is_letters" p_is_letters sp_is_letters := by
  refine F.callee 2 2 sc_is_letters (fun vs H Q E h => ?_) (fun _ _ _ _ _ _ us hl => match us, hl with | [_], _ => rfl) (fun f cdv A outer t0 H vs Q E hg hr h => ?_)
  · obtain ⟨l, rfl, _⟩ := h
    rfl
  · obtain ⟨l, rfl, al, q⟩ := h
    obtain ⟨t_MOST_LETTERS, m_MOST_LETTERS⟩ := F.int (x := "MOST_LETTERS") 39
    refine ⟨_, (pss_cons (ps_if (PW.pt (pw_or (pt_not (pt_val (pe_cal c_is_letters_alone hg (hr.mono (by decide)) (pa_cons (pv 0) pa_nil)))) (pw_or1 (pt_not (pt_chain op_le op_le pe_int (pe_callB call_lenT (by rfl) (F.free 29) (by decide +kernel) (pa_cons (pv 0) pa_nil)) (pe_gint m_MOST_LETTERS)))))) (pss_one (ps_ret pe_bl))
      pss_nil)
      (pss_one (ps_ret (pe_cmpR (k_eq K hr.units) (pe_lc (own := [("at", 1)]) rfl sc_is_letters.nd (pi_range2 (by rfl) (F.free 32) (pa_cons pe_int (pa_cons (pe_callB call_lenT (by rfl) (F.free 29) (by decide +kernel) (pa_cons (pv 0) pa_nil)) pa_nil))) (blkOk_by (by kernel_rfl)) (fun _ _ _ _ _ => (pg_name (i := 1) sc_is_letters.nd rfl (by first | exact Or.inl rfl | exact Or.inr rfl))) (fun _ _ _ _ _ => (pts_one (pt_cmpR op_geT (pe_ix ix_txt (pv 0) (pe_op op_sub (pv 1) pe_int) (fun _ _ => rfl)) (pe_ix ix_txt (pv 0) (pv 1) (fun _ _ => rfl)) (nomark _)))) (fun _ _ _ _ _ => (pv 1))) (pe_lst pa_nil) (nomark _))))), ?_⟩
    have h4 := al.four
    have h1 := al.one
    -- if not is_letters_alone(value) or not 1 <= len(value) <= MOST_LETTERS:
    refine ⟨_, rfl, l, rfl, by omega, true, by rw [decide_eq_true al.abc], iteF ?_⟩
    refine ⟨_, rfl, l, rfl, by omega, _, _, rfl, rfl, true, bt (by omega), iteT ?_⟩
    refine ⟨_, _, rfl, rfl, true, bt (by omega), iteF ?_⟩
    -- return [..] == []
    refine ⟨_, rfl, l, rfl, by omega, 1, (l.length : Int), rfl, ⟨by decide, by decide, by omega, by omega⟩, fun D hD => ?_⟩
    refine lc_pure walk_range (fun _ => none) hD (fun _ _ => trivial) (by omega) (fun i x H1 H2 Qk Nk hi s y hk hn => ?_) (fun H1 s e => ?_)
    · obtain ⟨rfl, rfl⟩ := y
      have hi2 : i + 1 < l.length := by omega
      have e1 : l[i]? = some l[i] := List.getElem?_eq_getElem _
      have e2 : l[i + 1]? = some l[i + 1] := List.getElem?_eq_getElem hi2
      refine ⟨rfl, _, rfl, _, rfl, _, _, rfl, rfl, l, (1 + (i : Int)) - 1, l[i], rfl, rfl, by omega, ?_, ?_⟩
      · rw [show (1 + (i : Int)) - 1 = ((i : Nat) : Int) by omega]
        exact atI_nat e1
      refine ⟨_, rfl, _, rfl, l, 1 + (i : Int), l[i + 1], rfl, rfl, by omega, ?_, ?_⟩
      · rw [show 1 + (i : Int) = ((i + 1 : Nat) : Int) by omega]
        exact atI_nat e2
      refine ⟨_, _, rfl, rfl, false, ?_, iteF (hn _ rfl (Same.refl _))⟩
      have lt := al.up i _ _ e1 e2
      have e3 : ([l[i]] : List Nat) < [l[i + 1]] := by
        exact List.Lex.rel lt
      rw [decide_eq_true e3]
      rfl
    · have e0 : ((List.range (↑l.length - 1 : Int).toNat).filterMap (fun _ : Nat => (none : Option V))) = [] := by simp
      rw [e0] at e
      refine ⟨Nat.zero_le _, fun p np => ?_⟩
      refine ⟨.list [], .list [], .lst (SqL.of (by rw [upd_ne (ne_of_none e np)]; exact e)) .nil, .lst (SqL.of upd_same) .nil, rfl, rfl, ?_⟩
      exact q _ ((s.trans (same_new np)))
end
end K81

set_option Elab.async false
set_option linter.all false
set_option maxRecDepth 100000
set_option maxHeartbeats 4000000
namespace K81
open PySem PySem.Spec PyProof.Rows L2 Sk
/-! ### arches -/
def archF (a : List Nat) : List Nat → List Nat → List (List Nat) × List Nat
  | now, [] => ([], now)
  | now, c :: r => if ∀ x ∈ a, x ∈ now ++ [c] then ((now ++ [c]) :: (archF a [] r).1, (archF a [] r).2) else archF a (now ++ [c]) r
theorem archF_yes {a now r : List Nat} {c : Nat} (h : ∀ x ∈ a, x ∈ now ++ [c]) : archF a now (c :: r) = ((now ++ [c]) :: (archF a [] r).1, (archF a [] r).2) := by
  rw [archF]
  exact if_pos h
theorem archF_no {a now r : List Nat} {c : Nat} (h : ¬ ∀ x ∈ a, x ∈ now ++ [c]) : archF a now (c :: r) = archF a (now ++ [c]) r := by
  rw [archF]
  exact if_neg h
section
variable {P : Program} {w : World} {K : PySem.W.Frag} {mg : Str → Option Value} {base : Heap}
def sp_check_letters : Sp := fun vs H Q _ => ∃ l, vs = [T l] ∧ IsAl l ∧ ∀ H', Same H H' → Q .non H'
theorem ok_check_letters (F : Facts fa fn K mg) (c_is_letters : Callee P w K mg base 3 "is_letters" p_is_letters sp_is_letters) : Callee P w K mg base 4 "check_letters" p_check_letters sp_check_letters := by
  refine F.callee 3 3 sc_check_letters (fun vs H Q E h => ?_) (fun _ _ _ _ _ _ us hl => match us, hl with | [_], _ => rfl) (fun f cdv A outer t0 H vs Q E hg hr h => ?_)
  · obtain ⟨l, rfl, al, q⟩ := h
    rfl
  · obtain ⟨l, rfl, al, q⟩ := h
    refine ⟨_, (pss_one (ps_if (pt_not (pt_val (pe_cal c_is_letters hg (hr.mono (by decide)) (pa_cons (pv 0) pa_nil)))) (pss_one ps_never)
      pss_nil)), ?_⟩
    refine ⟨_, rfl, l, rfl, al, fun H1 s1 => ?_⟩
    exact ⟨true, rfl, iteF (q _ s1)⟩
def sp_is_text_over : Sp := fun vs H Q _ => ∃ a l, vs = [T a, T l] ∧ l.length ≤ 100000 ∧ Q (.bl (decide (∀ c ∈ l, c ∈ a))) H
theorem ok_is_text_over (F : Facts fa fn K mg) (c_is_string_of : Callee P w K mg base 1 "is_string_of" p_is_string_of sp_is_string_of) : Callee P w K mg base 2 "is_text_over" p_is_text_over sp_is_text_over := by
  refine F.callee 4 4 sc_is_text_over (fun vs H Q E h => ?_) (fun _ _ _ _ _ _ us hl => match us, hl with | [_, _], _ => rfl) (fun f cdv A outer t0 H vs Q E hg hr h => ?_)
  · obtain ⟨a, l, rfl, hz, q⟩ := h
    rfl
  · obtain ⟨a, l, rfl, hz, q⟩ := h
    refine ⟨_, (pss_one (ps_ret (pe_cal c_is_string_of hg (hr.mono (by decide)) (pa_cons (pv 1) (pa_cons (pv 0) pa_nil))))), ?_⟩
    exact ⟨_, rfl, _, rfl, l, a, rfl, hz, q⟩
def sp_check_over : Sp := fun vs H Q _ => ∃ a l, vs = [T a, T l] ∧ l.length ≤ 100000 ∧ (∀ c ∈ l, c ∈ a) ∧ Q .non H
theorem ok_check_over (F : Facts fa fn K mg) (c_is_text_over : Callee P w K mg base 2 "is_text_over" p_is_text_over sp_is_text_over) : Callee P w K mg base 3 "check_over" p_check_over sp_check_over := by
  refine F.callee 5 5 sc_check_over (fun vs H Q E h => ?_) (fun _ _ _ _ _ _ us hl => match us, hl with | [_, _], _ => rfl) (fun f cdv A outer t0 H vs Q E hg hr h => ?_)
  · obtain ⟨a, l, rfl, hz, hc, q⟩ := h
    rfl
  · obtain ⟨a, l, rfl, hz, hc, q⟩ := h
    refine ⟨_, (pss_one (ps_if (pt_not (pt_val (pe_cal c_is_text_over hg (hr.mono (by decide)) (pa_cons (pv 0) (pa_cons (pv 1) pa_nil))))) (pss_one ps_never)
      pss_nil)), ?_⟩
    refine ⟨_, rfl, _, rfl, a, l, rfl, hz, _, rfl, ?_⟩
    rw [decide_eq_true hc]
    exact iteF q
/-- the letters of a that are not in now, as the comprehension gives them -/
theorem lack_nil (a now : List Nat) : ((List.range a.length).filterMap (fun i => (a[i]?).bind fun c => if c ∈ now then none else some (T [c]))) = [] ↔ ∀ x ∈ a, x ∈ now := by
  rw [List.filterMap_eq_nil_iff]
  constructor
  · intro h x hx
    obtain ⟨i, hi, e⟩ := List.getElem_of_mem hx
    have := h i (List.mem_range.mpr hi)
    rw [List.getElem?_eq_getElem hi, e] at this
    apply Classical.byContradiction
    intro z
    simp [z] at this
  · intro h i hi
    have hi := List.mem_range.mp hi
    rw [List.getElem?_eq_getElem hi]
    simp [h _ (List.getElem_mem hi)]
def sp_arches_of : Sp := fun vs H Q _ => ∃ a l, vs = [T a, T l] ∧ a.length ≤ 4 ∧ Low a ∧ l.length ≤ 100000 ∧ ∀ H' p r, Same H H' → H r = none → H' p = some (.tup [.ref r, T (archF a [] l).2]) → H' r = some (.lst ((archF a [] l).1.map T)) → Q (.ref p) H'
theorem ok_arches_of (F : Facts fa fn K mg)  : Callee P w K mg base 1 "arches_of" p_arches_of sp_arches_of := by
  refine F.callee 7 7 sc_arches_of (fun vs H Q E h => ?_) (fun _ _ _ _ _ _ us hl => match us, hl with | [_, _], _ => rfl) (fun f cdv A outer t0 H vs Q E hg hr h => ?_)
  · obtain ⟨a, l, rfl, ha, hlow, hz, q⟩ := h
    rfl
  · obtain ⟨a, l, rfl, ha, hlow, hz, q⟩ := h
    refine ⟨_, (pss_cons (ps_asg (pe_tup (pa_cons (pe_lst pa_nil) (pa_cons (pe_txt []) pa_nil))) (k_tup K rfl (pgs_cons (pg_name (i := 2) sc_arches_of.nd rfl (by first | exact Or.inl rfl | exact Or.inr rfl)) (pgs_cons (pg_name (i := 3) sc_arches_of.nd rfl (by first | exact Or.inl rfl | exact Or.inr rfl)) pgs_nil))))
      (pss_cons (ps_for PassesOwn.never rfl (pi_str (pv 1)) (pg_name (i := 4) sc_arches_of.nd rfl (by first | exact Or.inl rfl | exact Or.inr rfl))
      (pss_cons (ps_set (i := 3) sc_arches_of.nd rfl (by first | exact Or.inl rfl | exact Or.inr rfl) (pe_op op_addT (pv 3) (pv 4)))
      (pss_one (ps_if (pt_cmpR (k_eq K hr.units) (pe_lc (own := [("other", 5)]) rfl sc_arches_of.nd (pi_str (pv 0)) (blkOk_by (by kernel_rfl)) (fun _ _ _ _ _ => (pg_name (i := 5) sc_arches_of.nd rfl (by first | exact Or.inl rfl | exact Or.inr rfl))) (fun _ _ _ _ _ => (pts_one (pt_cmpR op_ninT (pv 5) (pv 3) rfl))) (fun _ _ _ _ _ => (pv 5))) (pe_lst pa_nil) (nomark _)) (pss_cons (ps_expr (k_bm K PySem.F.plainAttrs_list PySem.F.slot_list_append PySem.F.type_list_append mt_append (pv 2) (pa_cons (pv 3) pa_nil)))
      (pss_one (ps_set (i := 3) sc_arches_of.nd rfl (by first | exact Or.inl rfl | exact Or.inr rfl) (pe_txt []))))
      pss_nil))))
      (pss_one (ps_ret (pe_tup (pa_cons (pv 2) (pa_cons (pv 3) pa_nil))))))), ?_⟩
    -- found, now = ([], '')
    refine ⟨Nat.zero_le _, fun a1 na1 => ?_⟩
    refine ⟨by show 2 ≤ sizeLine; decide, fun a2 na2 => ?_⟩
    have n21 : a2 ≠ a1 := (ne_of_none upd_same na2).symm
    have s2 : Same H (upd (upd H a1 (.lst [])) a2 (.tup [.ref a1, T []])) := snew (same_new na1) na2
    refine ⟨_, _, rfl, .inl (.inl upd_same), rfl, _, _, rfl, _, _, rfl, rfl, ?_⟩
    -- for letter in text:
    refine ⟨_, rfl, _, rfl, for_it walk_txt (fun i σ H3 => ∃ (now : List Nat) (done : List (List Nat)) (x4 x5 : Option V), σ = [some (T a), some (T l), some (.ref a1), some (T now), x4, x5] ∧ i ≤ l.length ∧ now.length ≤ i ∧ done.length ≤ i ∧ Same H H3 ∧ H3 a1 = some (.lst (done.map T)) ∧ (archF a [] l).1 = done ++ (archF a now (l.drop i)).1 ∧ (archF a [] l).2 = (archF a now (l.drop i)).2) ?start (fun _ _ _ _ _ => trivial) ?turn ?fin⟩
    case start =>
      exact ⟨[], [], none, none, rfl, Nat.zero_le _, Nat.zero_le _, Nat.zero_le _, s2, by rw [upd_ne n21.symm, upd_same]; rfl, rfl, rfl⟩
    case turn =>
      rintro i x σ H3 H4 hi ⟨now, done, x4, x5, rfl, hil, hnow, hdone, s3, e3, f1, f2⟩ ⟨rfl, c, hc, rfl⟩
      have hdrop : l.drop i = c :: l.drop (i + 1) := by
        obtain ⟨h1, h2⟩ := List.getElem?_eq_some_iff.mp hc
        rw [List.drop_eq_getElem_cons h1, h2]
      -- now = now + letter
      refine ⟨_, rfl, _, rfl, _, _, rfl, rfl, by simp; omega, ?_⟩
      -- if [other for other in letters if other not in now] == []:
      refine ⟨_, rfl, _, rfl, fun D hD => ?_⟩
      refine lc_pure walk_txt (fun i => (a[i]?).bind fun c' => if c' ∈ now ++ [c] then none else some (T [c'])) hD (fun _ _ => trivial) (by omega) ?_ (fun H5 s5 e5 => ?_)
      · rintro j y H5 H6 Qk Nk hj s5 ⟨rfl, c', hc', rfl⟩ hk hn
        refine ⟨rfl, _, rfl, _, rfl, c', now ++ [c], rfl, rfl, _, rfl, ?_⟩
        by_cases hm : c' ∈ now ++ [c]
        · rw [show (if true = true then !decide (c' ∈ now ++ [c]) else decide (c' ∈ now ++ [c])) = false by rw [decide_eq_true hm]; rfl]
          exact iteF (hn _ (by simp only [hc', Option.bind_some, if_pos hm]) (Same.refl _))
        · rw [show (if true = true then !decide (c' ∈ now ++ [c]) else decide (c' ∈ now ++ [c])) = true by rw [decide_eq_false hm]; rfl]
          exact iteT ⟨_, rfl, hk _ _ (by simp only [hc', Option.bind_some, if_neg hm]) (Same.refl _)⟩
      generalize hL : ((List.range a.length).filterMap fun i => (a[i]?).bind fun c' => if c' ∈ now ++ [c] then none else some (T [c'])) = L at e5
      refine ⟨Nat.zero_le _, fun a3 na3 => ?_⟩
      have hfl : ∀ x ∈ L, flat2 x = true := by
        intro x hx
        rw [← hL, List.mem_filterMap] at hx
        obtain ⟨i', _, e⟩ := hx
        cases ha' : a[i']? with
        | none => rw [ha'] at e; cases e
        | some c' =>
          rw [ha', Option.bind_some] at e
          split at e
          · cases e
          · injection e with e
            subst e
            exact flat_T (fun z hz' => by rw [List.mem_singleton.mp hz']; exact hlow c' (List.mem_of_getElem? ha'))
      refine eq_nil (SqL.of (by rw [upd_ne (ne_of_none e5 na3)]; exact e5)) hfl (SqL.of upd_same) ⟨_, rfl, ?_⟩
      have hiff := lack_nil a (now ++ [c])
      rw [hL] at hiff
      have s7 : Same H (upd H5 a3 (.lst [])) := snew (s3.trans s5) na3
      have e7 : upd H5 a3 (.lst []) a1 = some (.lst (done.map T)) := (snew s5 na3) _ _ e3
      by_cases hall : ∀ x ∈ a, x ∈ now ++ [c]
      · rw [decide_eq_true (hiff.mpr hall)]
        refine iteT ?_
        -- found.append(now)
        refine ⟨_, rfl, .inl ⟨rfl, _, SqL.of e7⟩, _, rfl, _, _, _, rfl, rfl, e7, ?_, ?_⟩
        · rw [List.length_map]; exact line_lt (by omega)
        refine ⟨[], done ++ [now ++ [c]], _, _, rfl, hi, Nat.zero_le _, by simp; omega, smut s7 na1, ?_, ?_, ?_⟩
        · rw [upd_same, List.map_append]; rfl
        · rw [f1, hdrop, archF_yes hall, List.append_assoc]
          rfl
        · rw [f2, hdrop, archF_yes hall]
      · rw [decide_eq_false (fun z => hall (hiff.mp z))]
        refine iteF ?_
        refine ⟨now ++ [c], done, _, _, rfl, hi, by simp; omega, by omega, s7, e7, ?_, ?_⟩
        · rw [f1, hdrop, archF_no hall]
        · rw [f2, hdrop, archF_no hall]
    case fin =>
      rintro σ H3 ⟨now, done, x4, x5, rfl, hil, hnow, hdone, s3, e3, f1, f2⟩
      rw [List.drop_length] at f1 f2
      have g1 : (archF a [] l).1 = done := by rw [f1]; exact List.append_nil _
      have g2 : (archF a [] l).2 = now := f2
      -- return (found, now)
      refine ⟨_, rfl, _, rfl, by show 2 ≤ sizeLine; decide, fun a4 na4 => ?_⟩
      refine q _ _ a1 (snew s3 na4) na1 ?_ ?_
      · rw [upd_same, g2]
      · rw [upd_ne (ne_of_none e3 na4), g1]
        exact e3
def sp_arches : Sp := fun vs H Q _ => ∃ a l, vs = [T a, T l] ∧ IsAl a ∧ l.length ≤ 100000 ∧ (∀ c ∈ l, c ∈ a) ∧ ∀ H' p r, Same H H' → H r = none → H' p = some (.tup [.ref r, T (archF a [] l).2]) → H' r = some (.lst ((archF a [] l).1.map T)) → Q (.ref p) H'
theorem ok_arches (F : Facts fa fn K mg) (c_check_letters : Callee P w K mg base 4 "check_letters" p_check_letters sp_check_letters) (c_check_over : Callee P w K mg base 3 "check_over" p_check_over sp_check_over) (c_arches_of : Callee P w K mg base 1 "arches_of" p_arches_of sp_arches_of) : Callee P w K mg base 5 "arches" p_arches sp_arches := by
  refine F.callee 8 8 sc_arches (fun vs H Q E h => ?_) (fun _ _ _ _ _ _ us hl => match us, hl with | [_, _], _ => rfl) (fun f cdv A outer t0 H vs Q E hg hr h => ?_)
  · obtain ⟨a, l, rfl, al, hz, hc, q⟩ := h
    rfl
  · obtain ⟨a, l, rfl, al, hz, hc, q⟩ := h
    refine ⟨_, (pss_cons (ps_expr (pe_cal c_check_letters hg (hr.mono (by decide)) (pa_cons (pv 0) pa_nil)))
      (pss_cons (ps_expr (pe_cal c_check_over hg (hr.mono (by decide)) (pa_cons (pv 0) (pa_cons (pv 1) pa_nil))))
      (pss_one (ps_ret (pe_cal c_arches_of hg (hr.mono (by decide)) (pa_cons (pv 0) (pa_cons (pv 1) pa_nil))))))), ?_⟩
    refine ⟨_, rfl, a, rfl, al, fun H1 s1 => ?_⟩
    refine ⟨_, rfl, _, rfl, a, l, rfl, hz, hc, ?_⟩
    exact ⟨_, rfl, _, rfl, a, l, rfl, al.four, al.low, hz, fun H' p r s h0 h1 h2 => q _ _ _ (s1.trans s) (s1.free h0) h1 h2⟩
end
end K81

set_option Elab.async false
set_option linter.all false
set_option maxRecDepth 100000
set_option maxHeartbeats 4000000
namespace K81
open PySem PySem.Spec PyProof.Rows L2 Sk
section
variable {P : Program} {w : World} {K : PySem.W.Frag} {mg : Str → Option Value} {base : Heap}
def sp_places_ahead : Sp := fun vs H Q _ => ∃ l, vs = [T l] ∧ l.length ≤ 100000 ∧ ∀ H' p (ds : List Addr), Same H H' → H p = none → H' p = some (.lst (ds.map V.ref)) → ds.length = l.length + 1 →
  (∀ i d, ds[i]? = some d → ∃ kvs, H' d = some (.dK kvs) ∧ RowAt l i kvs) → Q (.ref p) H'
theorem ok_places_ahead (F : Facts fa fn K mg)  : Callee P w K mg base 1 "places_ahead" p_places_ahead sp_places_ahead := by
  refine F.callee 6 6 sc_places_ahead (fun vs H Q E h => ?_) (fun _ _ _ _ _ _ us hl => match us, hl with | [_], _ => rfl) (fun f cdv A outer t0 H vs Q E hg hr h => ?_)
  · obtain ⟨l, rfl, hz, q⟩ := h
    rfl
  · obtain ⟨l, rfl, hz, q⟩ := h
    refine ⟨_, (pss_cons (ps_set (i := 1) sc_places_ahead.nd rfl (by first | exact Or.inl rfl | exact Or.inr rfl) pe_dnewK)
      (pss_cons (ps_set (i := 2) sc_places_ahead.nd rfl (by first | exact Or.inl rfl | exact Or.inr rfl) (pe_lst (pa_cons (pv 1) pa_nil)))
      (pss_cons (ps_for PassesOwn.never rfl (pi_range3 (by rfl) (F.free 32) (pa_cons (pe_op op_sub (pe_callB call_lenT (by rfl) (F.free 29) (by decide +kernel) (pa_cons (pv 0) pa_nil)) pe_int) (pa_cons (pe_un un_neg pe_int) (pa_cons (pe_un un_neg pe_int) pa_nil)))) (pg_name (i := 3) sc_places_ahead.nd rfl (by first | exact Or.inl rfl | exact Or.inr rfl))
      (pss_cons (ps_set (i := 1) sc_places_ahead.nd rfl (by first | exact Or.inl rfl | exact Or.inr rfl) (pe_lock (pe_dc (own := [("letter", 4)]) rfl sc_places_ahead.nd (pi_keys (pv 1)) (blkOk_by (by kernel_rfl)) (fun _ _ _ _ _ => (pg_name (i := 4) sc_places_ahead.nd rfl (by first | exact Or.inl rfl | exact Or.inr rfl))) (fun _ _ _ _ _ => pts_nil) (fun _ _ _ _ _ => (pv 4)) (fun _ _ _ _ _ => (pe_dget (hu_of hr) (pv 1) (pv 4) (fun _ _ => rfl))))))
      (pss_cons (ps_dput (hu_of hr) (pv 1) (pe_ix ix_txt (pv 0) (pv 3) (fun _ _ => rfl)) (pv 3) rfl)
      (pss_one (ps_expr (k_bm K PySem.F.plainAttrs_list PySem.F.slot_list_append PySem.F.type_list_append mt_append (pv 2) (pa_cons (pv 1) pa_nil)))))))
      (pss_cons (ps_expr (k_bm0 K PySem.F.plainAttrs_list PySem.F.slot_list_reverse PySem.F.type_list_reverse mt_reverse (pv 2)))
      (pss_one (ps_ret (pv 2))))))), ?_⟩
    -- row = {}
    refine fun a1 na1 => ?_
    -- found = [row]
    refine ⟨_, rfl, by show 1 ≤ sizeLine; decide, fun a2 na2 => ?_⟩
    have n21 : a1 ≠ a2 := ne_of_none upd_same na2
    have nH2 : H a2 = none := by rw [upd_ne n21.symm] at na2; exact na2
    have s2 : Same H (upd (upd H a1 (.dK [])) a2 (.lst [.ref a1])) := snew (same_new na1) na2
    -- for at in range(len(text) - 1, -1, -1):
    refine ⟨_, rfl, l, rfl, by omega, _, _, rfl, rfl, _, rfl, _, rfl, (l.length : Int) - 1, -1, -1, l.length, rfl, ?rg, for_it walk_rangeC (fun i σ H3 => ∃ (ds : List Addr) (d : Addr) (x3 x4 : Option V), σ = [some (T l), some (.ref d), some (.ref a2), x3, x4] ∧ i ≤ l.length ∧ ds.length = i + 1 ∧ ds[i]? = some d ∧ Same H H3 ∧ H3 a2 = some (.lst (ds.map V.ref)) ∧ ∀ j e, ds[j]? = some e → ∃ kvs, H3 e = some (.dK kvs) ∧ RowAt l (l.length - j) kvs) ?start (fun _ _ _ _ _ => trivial) ?turn ?fin⟩
    case rg =>
      have := RgC.neg (i := (l.length : Int) - 1) (j := -1) (by omega) (by omega) (by decide) (by decide)
      rw [show ((l.length : Int) - 1 - -1).toNat = l.length by omega] at this
      exact this
    case start =>
      refine ⟨[a1], a1, none, none, rfl, Nat.zero_le _, rfl, rfl, s2, upd_same, fun j e he => ?_⟩
      cases j with
      | succ j => cases he
      | zero =>
        have : a1 = e := Option.some.inj he
        subst this
        exact ⟨[], by rw [upd_ne n21, upd_same], row_end l⟩
    case turn =>
      rintro i x σ H3 H4 hi ⟨ds, d, x3, x4, rfl, hil, hlen, hd, s3, e3, hrow⟩ ⟨rfl, rfl⟩
      obtain ⟨kvs, hk, hR⟩ := hrow i d hd
      have hat : (l.length : Int) - 1 + (i : Nat) * -1 = ((l.length - 1 - i : Nat) : Int) := by omega
      show tSeq _ _ _ ([some (T l), some (.ref d), some (.ref a2), some (.int ((l.length : Int) - 1 + (i : Nat) * -1)), x4]) H4
      rw [hat]
      -- row = {letter: row[letter] for letter in row}
      refine rd_dictmap (r := 1) (j := 4) (fun _ v => v) rfl hk (by show 4 < 5; omega) hR.nd (by have := hR.len; omega) (fun k v o H5 Qk hm h5 _ qk => ?_) (fun D H5 s5 hD e5 => ?_)
      · refine ⟨_, rfl, _, rfl, d, v, rfl, .inl ⟨kvs, k, .inr ⟨o, h5⟩, rfl, ?_⟩, qk⟩
        have gen : ∀ (kvs : List (Key × V)), (kvs.map (·.1)).Nodup → (k, v) ∈ kvs → some v = valV kvs k := by
          intro kvs
          induction kvs with
          | nil => intro _ h; cases h
          | cons p r ih =>
            intro nd h
            rw [List.map_cons, List.nodup_cons] at nd
            rcases List.mem_cons.mp h with e | e
            · subst e
              rw [valV_pos rfl]
            · unfold valV
              rw [List.find?_cons]
              have hne : p.1 ≠ k := fun e2 => nd.1 (by rw [e2]; exact List.mem_map.mpr ⟨_, e, rfl⟩)
              rw [decide_eq_false hne]
              exact ih nd.2 e
        exact gen kvs hR.nd hm
      have e5' : H5 D = some (.dK kvs) := by
        rw [e5]
        congr 2
        exact List.map_id' kvs
      have hlt : l.length - 1 - i < l.length := by omega
      have hx : l[l.length - 1 - i]? = some l[l.length - 1 - i] := List.getElem?_eq_getElem hlt
      -- row[text[at]] = at
      refine ⟨_, rfl, _, rfl, _, rfl, _, rfl, l, ((l.length - 1 - i : Nat) : Int), l[l.length - 1 - i], rfl, rfl, by omega, atI_nat hx, D, _, rfl, DPut.k (k := .inr (tx [l[l.length - 1 - i]])) e5' (line_lt (by have := hR.len; omega)), ?_⟩
      have nD : H D = none := s3.free hD
      have na : a2 ≠ D := ne_of_none e3 hD
      have e6 : upd H5 D (.dK (putK kvs (.inr (tx [l[l.length - 1 - i]])) (.int ((l.length - 1 - i : Nat) : Int)))) a2 = some (.lst (ds.map V.ref)) := by
        rw [upd_ne na]
        exact s5 _ _ e3
      -- found.append(row)
      refine ⟨_, rfl, .inl ⟨rfl, _, SqL.of e6⟩, _, rfl, _, _, _, rfl, rfl, e6, ?_, ?_⟩
      · rw [List.length_map]; exact line_lt (by omega)
      refine ⟨ds ++ [D], D, _, _, rfl, by omega, by rw [List.length_append, hlen]; rfl, ?_, ?_, ?_, fun j e he => ?_⟩
      · rw [List.getElem?_append_right (by omega), hlen]
        simp
      · exact smut (smut (s3.trans s5) nD) nH2
      · rw [upd_same, List.map_append]; rfl
      · rw [List.getElem?_append] at he
        split at he
        · rename_i hj
          obtain ⟨kv2, h7, h8⟩ := hrow j e he
          refine ⟨kv2, ?_, h8⟩
          have n1 : e ≠ a2 := ne_of h7 e3 (by intro z; cases z)
          have n2 : e ≠ D := ne_of_none h7 hD
          rw [upd_ne n1, upd_ne n2]
          exact s5 _ _ h7
        · rename_i hj
          have ej : j = i + 1 := by
            have := (List.getElem?_eq_some_iff.mp he).1
            simp only [List.length_singleton] at this
            omega
          subst ej
          have : D = e := by
            rw [hlen, Nat.sub_self] at he
            exact Option.some.inj he
          subst this
          refine ⟨_, by rw [upd_ne na.symm, upd_same], ?_⟩
          have h9 := row_step (i := l.length - 1 - i) (x := l[l.length - 1 - i]) (kvs := kvs) (by rw [show l.length - 1 - i + 1 = l.length - i by omega]; exact hR) hx
          rw [show l.length - (i + 1) = l.length - 1 - i by omega]
          exact h9
    case fin =>
      rintro σ H3 ⟨ds, d, x3, x4, rfl, hil, hlen, hd, s3, e3, hrow⟩
      -- found.reverse()
      refine ⟨_, rfl, .inl ⟨rfl, _, SqL.of e3⟩, _, _, rfl, rfl, e3, ?_⟩
      -- return found
      refine ⟨_, rfl, q _ a2 ds.reverse (smut s3 nH2) nH2 ?_ ?_ ?_⟩
      · rw [upd_same, List.map_reverse]
      · rw [List.length_reverse, hlen]
      · intro i e he
        have hi : i < ds.length := by
          have := (List.getElem?_eq_some_iff.mp he).1
          rw [List.length_reverse] at this
          exact this
        rw [List.getElem?_reverse hi] at he
        obtain ⟨kv2, h7, h8⟩ := hrow _ e he
        refine ⟨kv2, ?_, ?_⟩
        · rw [upd_ne (ne_of h7 e3 (by intro z; cases z))]
          exact h7
        · rw [show l.length - (ds.length - 1 - i) = i by omega] at h8
          exact h8
end
end K81

set_option Elab.async false
set_option linter.all false
set_option maxRecDepth 100000
set_option maxHeartbeats 4000000
namespace K81
open PySem PySem.Spec PyProof.Rows L2 Sk
/-- the row of counts for words of t letters -/
def rowV (a l : List Nat) (t : Nat) : List V := (List.range (l.length + 1)).map fun i => V.int (mis a l t i)
theorem rowV_len (a l : List Nat) (t : Nat) : (rowV a l t).length = l.length + 1 := by unfold rowV; rw [List.length_map, List.length_range]
theorem rowV_at {a l : List Nat} {t i : Nat} (h : i ≤ l.length) : (rowV a l t)[i]? = some (V.int (mis a l t i)) := by
  unfold rowV
  rw [List.getElem?_map, List.getElem?_range (by omega)]
  rfl
/-- a cell of the next row -/
def cellN (a l : List Nat) (t i c : Nat) : Int := match nx l c i with
  | some k => mis a l t (k + 1)
  | none => (a.length : Int) ^ t
theorem mis_next (a l : List Nat) (t i : Nat) : mis a l (t + 1) i = (a.map (cellN a l t i)).sum := rfl
theorem pow_small {a : List Nat} (h : a.length ≤ 4) (t : Nat) : ((a.length : Int) ^ t).natAbs < 2 ^ (2 * t + 1) := by
  rw [Int.natAbs_pow, Int.natAbs_natCast]
  calc a.length ^ t ≤ 4 ^ t := Nat.pow_le_pow_left h t
    _ = 2 ^ (2 * t) := by rw [Nat.pow_mul]
    _ < 2 ^ (2 * t + 1) := Nat.pow_lt_pow_right (by decide) (by omega)
theorem arch_le (a : List Nat) : ∀ (l now : List Nat), (archF a now l).1.length ≤ l.length
  | [], _ => Nat.zero_le _
  | c :: r, now => by
    by_cases h : ∀ x ∈ a, x ∈ now ++ [c]
    · rw [archF_yes h]
      have := arch_le a r []
      simp only [List.length_cons]
      omega
    · rw [archF_no h]
      have := arch_le a r (now ++ [c])
      simp only [List.length_cons]
      omega
section
variable {P : Program} {w : World} {K : PySem.W.Frag} {mg : Str → Option Value} {base : Heap}
def sp_missing : Sp := fun vs H Q _ => ∃ a l, vs = [T a, T l] ∧ IsAl a ∧ l.length ≤ 10000 ∧ (∀ c ∈ l, c ∈ a) ∧ ∀ H' p, Same H H' → H p = none → H' p = some (.tup [.int ((archF a [] l).1.length + 1 : Nat), .int (mis a l ((archF a [] l).1.length + 1) 0)]) → Q (.ref p) H'
theorem ok_missing (F : Facts fa fn K mg) (c_check_letters : Callee P w K mg base 4 "check_letters" p_check_letters sp_check_letters) (c_check_over : Callee P w K mg base 3 "check_over" p_check_over sp_check_over) (c_arches_of : Callee P w K mg base 1 "arches_of" p_arches_of sp_arches_of) (c_places_ahead : Callee P w K mg base 1 "places_ahead" p_places_ahead sp_places_ahead) : Callee P w K mg base 5 "missing" p_missing sp_missing := by
  refine F.callee 9 9 sc_missing (fun vs H Q E h => ?_) (fun _ _ _ _ _ _ us hl => match us, hl with | [_, _], _ => rfl) (fun f cdv A outer t0 H vs Q E hg hr h => ?_)
  · obtain ⟨a, l, rfl, al, hz, hc, q⟩ := h
    rfl
  · obtain ⟨a, l, rfl, al, hz, hc, q⟩ := h
    refine ⟨_, (pss_cons (ps_expr (pe_cal c_check_letters hg (hr.mono (by decide)) (pa_cons (pv 0) pa_nil)))
      (pss_cons (ps_expr (pe_cal c_check_over hg (hr.mono (by decide)) (pa_cons (pv 0) (pa_cons (pv 1) pa_nil))))
      (pss_cons (ps_par (i := 2) (j := 3) rfl sc_missing.nd rfl rfl (by decide) rfl rfl (pa_cons (pe_op op_add (pe_callB (k_len K) (by rfl) (F.free 29) (by decide +kernel) (pa_cons (pe_ix (k_ixt K) (pe_cal c_arches_of hg (hr.mono (by decide)) (pa_cons (pv 0) (pa_cons (pv 1) pa_nil))) pe_int (fun _ _ => rfl)) pa_nil)) pe_int) (pa_cons (pe_cal c_places_ahead hg (hr.mono (by decide)) (pa_cons (pv 1) pa_nil)) pa_nil)) rfl)
      (pss_cons (ps_asg (pe_tup (pa_cons (pe_op op_rep (pe_lst (pa_cons pe_int pa_nil)) (pe_callB (k_len K) (by rfl) (F.free 29) (by decide +kernel) (pa_cons (pv 3) pa_nil))) (pa_cons pe_int pa_nil))) (k_tup K rfl (pgs_cons (pg_name (i := 4) sc_missing.nd rfl (by first | exact Or.inl rfl | exact Or.inr rfl)) (pgs_cons (pg_name (i := 5) sc_missing.nd rfl (by first | exact Or.inl rfl | exact Or.inr rfl)) pgs_nil))))
      (pss_cons (ps_for PassesOwn.never rfl (pi_range1 (by rfl) (F.free 32) (pa_cons (pv 2) pa_nil)) (pg_name (i := 6) sc_missing.nd rfl (by first | exact Or.inl rfl | exact Or.inr rfl))
      (pss_cons (ps_set (i := 4) sc_missing.nd rfl (by first | exact Or.inl rfl | exact Or.inr rfl) (pe_lc (own := [("step", 7)]) rfl sc_missing.nd (k_pil K (pv 3)) (blkOk_by (by kernel_rfl)) (fun _ _ _ _ _ => (pg_name (i := 7) sc_missing.nd rfl (by first | exact Or.inl rfl | exact Or.inr rfl))) (fun _ _ _ _ _ => pts_nil) (fun _ _ _ _ _ => (pe_callB (k_sum K) (by rfl) (F.free 36) (by decide +kernel) (pa_cons (pe_lc (own := [("letter", 8)]) rfl sc_missing.nd (pi_str (pv 0)) (blkOk_by (by kernel_rfl)) (fun _ _ _ _ _ => (pg_name (i := 8) sc_missing.nd rfl (by first | exact Or.inl rfl | exact Or.inr rfl))) (fun _ _ _ _ _ => pts_nil) (fun _ _ _ _ _ => (pe_ifExp (pt_cmp (pc_din (hu_of hr) (pv 8) (pv 7)) rfl) (pe_ix (k_ixl K) (pv 4) (pe_op op_add (pe_dget (hu_of hr) (pv 7) (pv 8) (fun _ _ => rfl)) pe_int) (fun _ _ => rfl)) (pv 5)))) pa_nil)))))
      (pss_one (ps_set (i := 5) sc_missing.nd rfl (by first | exact Or.inl rfl | exact Or.inr rfl) (pe_op op_mulW (pv 5) (pe_callB call_lenT (by rfl) (F.free 29) (by decide +kernel) (pa_cons (pv 0) pa_nil)))))))
      (pss_one (ps_ret (pe_tup (pa_cons (pv 2) (pa_cons (pe_ix (k_ixl K) (pv 4) pe_int (fun _ _ => rfl)) pa_nil)))))))))), ?_⟩
    have ha4 := al.four
    have hal := arch_le a l []
    refine ⟨_, rfl, a, rfl, al, fun H1 s1 => ?_⟩
    refine ⟨_, rfl, _, rfl, a, l, rfl, by omega, hc, ?_⟩
    -- size, rows = ..
    refine ⟨_, rfl, _, rfl, a, l, rfl, al.four, al.low, by omega, fun H2 p2 r2 s2 n2 h2 h2r => ?_⟩
    refine ⟨p2, _, 0, .ref r2, rfl, rfl, .inl (.inl h2), rfl, r2, _, rfl, SqL.of h2r, _, _, rfl, rfl, _, rfl, l, rfl, by omega, fun H3 p3 ds s3 n3 h3 hdl hrow => ?_⟩
    refine ⟨_, _, rfl, ?_⟩
    rw [List.length_map]
    -- row, whole = ([0] * len(rows), 1)
    refine ⟨by show 1 ≤ sizeLine; decide, fun a1 na1 => ?_⟩
    have h3' : upd H3 a1 (.lst [.int 0]) p3 = some (.lst (ds.map V.ref)) := (same_new na1) _ _ h3
    refine ⟨_, rfl, p3, _, rfl, SqL.of h3', _, _, _, rfl, rfl, upd_same, by omega, by rw [List.length_map, hdl]; omega, by rw [List.length_map, hdl]; show 1 * _ ≤ _; rw [Nat.one_mul]; exact line_ok (by omega), fun a2 na2 => ?_⟩
    refine ⟨by show 2 ≤ sizeLine; decide, fun a3 na3 => ?_⟩
    have sA : Same H3 (upd (upd (upd H3 a1 (.lst [.int 0])) a2 (.lst (List.replicate (((ds.map V.ref).length : Int)).toNat [V.int 0]).flatten)) a3 (.tup [.ref a2, .int 1])) := snew (snew (same_new na1) na2) na3
    have n32 : a2 ≠ a3 := ne_of_none upd_same na3
    refine ⟨_, _, rfl, .inl (.inl upd_same), rfl, _, _, rfl, _, _, rfl, rfl, ?_⟩
    -- for _ in range(size):
    refine ⟨_, rfl, _, rfl, by omega, by omega, for_it walk_range (fun i σ H4 => ∃ (ra : Addr) (x6 x7 x8 : Option V), σ = [some (T a), some (T l), some (.int (((archF a [] l).1.length : Int) + 1)), some (.ref p3), some (.ref ra), some (.int ((a.length : Int) ^ i)), x6, x7, x8] ∧ Same H3 H4 ∧ H4 ra = some (.lst (rowV a l i))) ?start (fun _ _ _ _ _ => trivial) ?turn ?fin⟩
    case start =>
      refine ⟨a2, none, none, none, rfl, sA, ?_⟩
      rw [upd_ne n32, upd_same, Int.toNat_natCast, rep_flat, List.length_map, hdl]
      rfl
    case turn =>
      rintro i x σ H4 H5 hi ⟨ra, x6, x7, x8, rfl, s4, e4⟩ ⟨rfl, rfl⟩
      have hi2 : i ≤ l.length := by omega
      -- row = [..]
      refine ⟨_, rfl, p3, rfl, ⟨_, SqL.of (s4 _ _ h3)⟩, fun D hD => ?_⟩
      refine lc_pure (walk_list (xs := ds.map V.ref)) (fun j => some (V.int (mis a l (i + 1) j))) hD (fun H6 s6 => SqL.of (s6 _ _ (s4 _ _ h3))) (by rw [List.length_map]; omega) (fun j x H6 H7 Qk Nk hj s6 y hk hn => ?_) (fun H6 s6 e6 => ?_)
      · obtain ⟨rfl, hx⟩ := y
        rw [List.length_map] at hj
        rw [List.getElem?_map] at hx
        have hdj : ds[j]? = some ds[j] := List.getElem?_eq_getElem hj
        rw [hdj] at hx
        have hx : V.ref ds[j] = x := Option.some.inj hx
        subst hx
        obtain ⟨kvs, hk1, hR⟩ := hrow j _ hdj
        have s46 : Same H3 H7 := s4.trans s6
        have hk7 : H7 ds[j] = some (.dK kvs) := s46 _ _ hk1
        have hr7 : H7 ra = some (.lst (rowV a l i)) := s6 _ _ e4
        refine ⟨rfl, yes_ (iteT ?_)⟩
        -- sum([..])
        refine ⟨_, rfl, _, rfl, fun D2 hD2 => ?_⟩
        refine lc_pure walk_txt (fun m => (a[m]?).map fun c => V.int (cellN a l i j c)) hD2 (fun _ _ => trivial) (by omega) (fun m x H8 H9 Qk2 Nk2 hm s8 y2 hk2 hn2 => ?_) (fun H8 s8 e8 => ?_)
        · obtain ⟨rfl, c, hcm, rfl⟩ := y2
          refine ⟨rfl, yes_ (iteT ?_)⟩
          have hk9 : H9 ds[j] = some (.dK kvs) := s8 _ _ hk7
          have hr9 : H9 ra = some (.lst (rowV a l i)) := s8 _ _ hr7
          refine ⟨_, rfl, _, rfl, ds[j], valV kvs (.inr (tx [c])), rfl, DGet.k (k := .inr (tx [c])) hk9, _, rfl, ?_⟩
          rw [hR.at_ c]
          cases hnx : nx l c j with
          | some k =>
            have hkl : k < l.length := (List.getElem?_eq_some_iff.mp (nx_some hnx).2.1).1
            refine iteT ⟨_, rfl, _, rfl, _, rfl, ds[j], V.int k, rfl, ?_, (k : Int), 1, rfl, rfl, ra, rowV a l i, ((k + 1 : Nat) : Int), _, rfl, rfl, SqL.of hr9, atI_nat (rowV_at (by omega)), ?_⟩
            · have := DGet.k (k := .inr (tx [c])) hk9
              rw [hR.at_ c, hnx] at this
              exact this
            · refine hk2 _ _ ?_ (Same.refl _)
              rw [hcm]
              show some (V.int (cellN a l i j c)) = _
              unfold cellN
              rw [hnx]
          | none =>
            refine iteF ⟨_, rfl, hk2 _ _ ?_ (Same.refl _)⟩
            rw [hcm]
            show some (V.int (cellN a l i j c)) = _
            unfold cellN
            rw [hnx]
        · rw [fm_get] at e8
          refine ⟨D2, a.map (cellN a l i j), rfl, SqL.of ?_, ?_⟩
          · rw [List.map_map]; exact e8
          · rw [← mis_next]
            exact hk _ _ rfl (s8)
      · rw [List.length_map, hdl, fm_some] at e6
        -- whole = whole * len(letters)
        refine ⟨_, rfl, _, rfl, a, rfl, by omega, _, _, rfl, rfl, wide_mul (pow_small ha4 i) (b := 3) (by rw [Int.natAbs_natCast]; omega) (by omega) (by omega) (by omega), ?_⟩
        exact ⟨D, _, _, _, rfl, s4.trans s6, e6⟩
    case fin =>
      rintro σ H4 ⟨ra, x6, x7, x8, rfl, s4, e4⟩
      -- return (size, row[0])
      have en : (((archF a [] l).1.length : Int) + 1).toNat = (archF a [] l).1.length + 1 := by omega
      rw [en] at e4
      refine ⟨_, rfl, _, rfl, ra, _, 0, _, rfl, rfl, SqL.of e4, atI_nat (j := 0) (rowV_at (Nat.zero_le _)), by show 2 ≤ sizeLine; decide, fun a4 na4 => ?_⟩
      have sT : Same H H4 := s1.trans (s2.trans (s3.trans s4))
      exact q _ _ (snew sT na4) (sT.free na4) upd_same
end
end K81

set_option Elab.async false
set_option linter.all false
set_option maxRecDepth 100000
set_option maxHeartbeats 4000000
namespace K81
open PySem PySem.Spec PyProof.Rows L2 Sk
section
variable {P : Program} {w : World} {K : PySem.W.Frag} {mg : Str → Option Value} {base : Heap}
def sp_l_hash : Sp := fun vs H Q _ => ∃ a b : Int, vs = [.int a, .int b] ∧ a.natAbs < 2 ^ 64 ∧ b.natAbs < 2 ^ 64 ∧ ∀ r : Int, 0 ≤ r → r < 2147483647 → Q (.int r) H
theorem ok_l_hash (F : Facts fa fn K mg)  : Callee P w K mg base 1 "_law_hash" p_l_hash sp_l_hash := by
  refine F.callee 10 10 sc_l_hash (fun vs H Q E h => ?_) (fun _ _ _ _ _ _ us hl => match us, hl with | [_, _], _ => rfl) (fun f cdv A outer t0 H vs Q E hg hr h => ?_)
  · obtain ⟨a, b, rfl, ha, hb, q⟩ := h
    rfl
  · obtain ⟨a, b, rfl, ha, hb, q⟩ := h
    refine ⟨_, (pss_cons (ps_set (i := 2) sc_l_hash.nd rfl (by first | exact Or.inl rfl | exact Or.inr rfl) (pe_op op_modN (pe_callTy call_int1 (by rfl) (F.free 27) (by decide +kernel) (pa_cons (pe_op op_add (pe_op op_add (pe_op op_add (pe_op op_mulW (pv 0) pe_int) (pe_op op_mulW (pe_op op_mulW pe_int (pv 1)) (pv 1))) (pe_op op_mulW pe_int (pv 1))) pe_int) pa_nil)) pe_int))
      (pss_cons (ps_set (i := 2) sc_l_hash.nd rfl (by first | exact Or.inl rfl | exact Or.inr rfl) (pe_op op_modN (pe_callTy call_int1 (by rfl) (F.free 27) (by decide +kernel) (pa_cons (pe_op op_add (pe_op op_add (pe_op op_mulW (pv 2) (pv 2)) (pe_op op_mulW pe_int (pv 1))) pe_int) pa_nil)) pe_int))
      (pss_one (ps_ret (pe_op op_modN (pe_callTy call_int1 (by rfl) (F.free 27) (by decide +kernel) (pa_cons (pe_op op_mulW (pv 2) pe_int) pa_nil)) pe_int))))), ?_⟩
    have k1 : (1140671 : Int).natAbs < 2 ^ 21 := by decide
    have k2 : (27644437 : Int).natAbs < 2 ^ 25 := by decide
    have k3 : (131 : Int).natAbs < 2 ^ 8 := by decide
    refine ⟨_, rfl, _, _, rfl, rfl, wide_mul ha k1 (by decide) (by decide) (by decide), _, rfl, _, _, rfl, rfl, wide_mul k2 hb (by decide) (by decide) (by decide), _, rfl, _, _, rfl, rfl, wide_mul (nab_mul k2 hb) hb (by decide) (by decide) (by decide), _, _, rfl, rfl, _, rfl, _, _, rfl, rfl, wide_mul k3 hb (by decide) (by decide) (by decide), _, _, rfl, rfl, _, _, rfl, rfl, .inl ⟨_, rfl, ?_⟩⟩
    refine ⟨_, _, rfl, rfl, show (2147483629 : Int) ≠ 0 by decide, ?_⟩
    obtain ⟨m0, m1⟩ := fmod_rg (i := a * 1140671 + 27644437 * b * b + 131 * b + 19) (j := 2147483629) (by decide)
    have km : ((a * 1140671 + 27644437 * b * b + 131 * b + 19).fmod 2147483629).natAbs < 2 ^ 31 := by omega
    have k4 : (62089 : Int).natAbs < 2 ^ 16 := by decide
    refine ⟨_, rfl, _, rfl, _, _, rfl, rfl, wide_mul km km (by decide) (by decide) (by decide), _, rfl, _, _, rfl, rfl, wide_mul k4 hb (by decide) (by decide) (by decide), _, _, rfl, rfl, _, _, rfl, rfl, .inl ⟨_, rfl, ?_⟩⟩
    refine ⟨_, _, rfl, rfl, show (2147483587 : Int) ≠ 0 by decide, ?_⟩
    obtain ⟨p, hp⟩ : ∃ p : Int, p = ((a * 1140671 + 27644437 * b * b + 131 * b + 19).fmod 2147483629 * (a * 1140671 + 27644437 * b * b + 131 * b + 19).fmod 2147483629 + 62089 * b + 32416187).fmod 2147483587 := ⟨_, rfl⟩
    obtain ⟨p0, p1⟩ := fmod_rg (i := (a * 1140671 + 27644437 * b * b + 131 * b + 19).fmod 2147483629 * (a * 1140671 + 27644437 * b * b + 131 * b + 19).fmod 2147483629 + 62089 * b + 32416187) (j := 2147483587) (by decide)
    rw [← hp] at p0 p1
    have kp : p.natAbs < 2 ^ 31 := by omega
    rw [hp] at kp
    have k5 : (48271 : Int).natAbs < 2 ^ 16 := by decide
    refine ⟨_, rfl, _, _, rfl, rfl, wide_mul kp k5 (by decide) (by decide) (by decide), .inl ⟨_, rfl, ?_⟩⟩
    refine ⟨_, _, rfl, rfl, show (2147483647 : Int) ≠ 0 by decide, ?_⟩
    exact q _ (fmod_rg (by decide)).1 (fmod_rg (by decide)).2
def sp_l_random : Sp := fun vs H Q _ => ∃ (g : Addr) (b : Int) (n : Nat), vs = [.ref g, .int b] ∧ 0 < b ∧ b < 2 ^ 119 ∧ Gen (n + 5) H g ∧ ∀ (r : Int) H', 0 ≤ r → r < b → But g H H' → Gen n H' g → Q (.int r) H'
theorem ok_l_random (F : Facts fa fn K mg) (c_l_hash : Callee P w K mg base 1 "_law_hash" p_l_hash sp_l_hash) : Callee P w K mg base 2 "_law_random" p_l_random sp_l_random := by
  refine F.callee 11 11 sc_l_random (fun vs H Q E h => ?_) (fun _ _ _ _ _ _ us hl => match us, hl with | [_, _], _ => rfl) (fun f cdv A outer t0 H vs Q E hg hr h => ?_)
  · obtain ⟨g, b, n, rfl, hb0, hb1, hG, q⟩ := h
    rfl
  · obtain ⟨g, b, n, rfl, hb0, hb1, hG, q⟩ := h
    refine ⟨_, (pss_cons (ps_if (pt_cmpR op_gt (pe_ix (k_ixl K) (pv 0) pe_int (fun _ _ => rfl)) pe_int (nomark _)) (pss_cons (ps_set (i := 2) sc_l_random.nd rfl (by first | exact Or.inl rfl | exact Or.inr rfl) (pe_op op_modN (pe_callTy call_int1 (by rfl) (F.free 27) (by decide +kernel) (pa_cons (pe_ix (k_ixl K) (pv 0) pe_int (fun _ _ => rfl)) pa_nil)) (pv 1)))
      (pss_cons (ps_asg (pe_op op_fdivW (pe_ix (k_ixl K) (pv 0) pe_int (fun _ _ => rfl)) (pv 1)) (pg_sub (pv 0) pe_int set_list))
      (pss_one (ps_ret (pv 2)))))
      pss_nil)
      (pss_cons (ps_set (i := 2) sc_l_random.nd rfl (by first | exact Or.inl rfl | exact Or.inr rfl) pe_int)
      (pss_cons (ps_for PassesOwn.never rfl (pi_range1 (by rfl) (F.free 32) (pa_cons (pe_op op_add pe_int (pe_op op_fdivW (pe_bits (pv 1)) pe_int)) pa_nil)) (pg_name (i := 3) sc_l_random.nd rfl (by first | exact Or.inl rfl | exact Or.inr rfl))
      (pss_cons (ps_asg (pe_op op_add (pe_ix (k_ixl K) (pv 0) pe_int (fun _ _ => rfl)) pe_int) (pg_sub (pv 0) pe_int set_list))
      (pss_one (ps_set (i := 2) sc_l_random.nd rfl (by first | exact Or.inl rfl | exact Or.inr rfl) (pe_op op_add (pe_op op_mulW (pv 2) pe_int) (pe_cal c_l_hash hg (hr.mono (by decide)) (pa_cons (pe_ix (k_ixl K) (pv 0) pe_int (fun _ _ => rfl)) (pa_cons (pe_ix (k_ixl K) (pv 0) pe_int (fun _ _ => rfl)) pa_nil))))))))
      (pss_one (ps_ret (pe_op op_modN (pe_callTy call_int1 (by rfl) (F.free 27) (by decide +kernel) (pa_cons (pv 2) pa_nil)) (pv 1))))))), ?_⟩
    obtain ⟨x, y, z, eg, x0, x1, y0, y1, z0, z1⟩ := hG
    refine ⟨_, rfl, g, _, 0, _, rfl, rfl, SqL.of eg, atI_nat (j := 0) rfl, _, _, rfl, rfl, _, rfl, ?_⟩
    refine ite2 (fun h => ?_) (fun h => ?_)
    · -- _law_drawn = int(_law_generator_here[0]) % _law_bound
      refine ⟨_, rfl, g, _, 0, _, rfl, rfl, SqL.of eg, atI_nat (j := 0) rfl, .inl ⟨_, rfl, ?_⟩⟩
      refine ⟨_, rfl, _, _, rfl, rfl, by omega, ?_⟩
      -- _law_generator_here[0] = _law_generator_here[0] // _law_bound
      refine ⟨_, rfl, g, _, 0, _, rfl, rfl, SqL.of eg, atI_nat (j := 0) rfl, _, rfl, _, _, rfl, rfl, wide_div (b := 119) hb0 (abs_lt (by omega) hb1) (by decide) (by decide), _, rfl, g, _, 0, 0, rfl, rfl, eg, rfl, ?_⟩
      obtain ⟨r0, r1⟩ := fmod_rg (i := x) hb0
      refine ⟨_, rfl, q _ _ r0 r1 (But.gen (But.refl g H)) ⟨x / b, y, z, upd_same, Int.ediv_nonneg x0 (by omega), Int.lt_of_le_of_lt (Int.ediv_le_self b x0) x1, y0, y1, z0, by omega⟩⟩
    · -- for _law_turn in range(1 + _law_bound.bit_length() // 30):
      have hbits : Builtin.Int.intBits b ≤ 119 := bits_le hb0 hb1
      refine ⟨_, rfl, _, rfl, _, _, rfl, rfl, wide_div (b := 6) (by decide) (by decide) (by decide) (by decide), _, _, rfl, rfl, _, rfl, by omega, by omega, for_it walk_range (fun i σ H1 => ∃ (d zi : Int) (x3 : Option V), σ = [some (.ref g), some (.int b), some (.int d), x3] ∧ 0 ≤ d ∧ d < 2 ^ (31 * i) ∧ But g H H1 ∧ H1 g = some (.lst [.int x, .int y, .int zi]) ∧ zi = z + i) ?start (fun _ _ _ _ _ => trivial) ?turn ?fin⟩
      case start => exact ⟨0, z, none, rfl, by decide, by decide, But.refl _ _, eg, by simp⟩
      case turn =>
        rintro i v σ H1 H2 hi ⟨d, zi, x3, rfl, d0, d1, bt1, e1, rfl⟩ ⟨rfl, rfl⟩
        have hi5 : i < 5 := by omega
        -- _law_generator_here[2] = _law_generator_here[2] + 1
        refine ⟨_, rfl, g, _, 2, _, rfl, rfl, SqL.of e1, atI_nat (j := 2) rfl, _, _, rfl, rfl, _, rfl, g, _, 2, 2, rfl, rfl, e1, rfl, ?_⟩
        have e2 : upd H2 g (.lst [.int x, .int y, .int (z + i + 1)]) g = some (.lst [.int x, .int y, .int (z + i + 1)]) := upd_same
        have kd : d.natAbs < 2 ^ (31 * i) := abs_lt d0 d1
        have kd2 : d.natAbs < 2 ^ (31 * i + 1) := Nat.lt_of_lt_of_le kd (Nat.pow_le_pow_right (by decide) (by omega))
        -- _law_drawn = ..
        refine ⟨_, rfl, _, _, rfl, rfl, wide_mul kd2 (show (2147483587 : Int).natAbs < 2 ^ 31 by decide) (by omega) (by decide) (by omega), _, rfl, g, _, 1, _, rfl, rfl, SqL.of e2, atI_nat (j := 1) rfl, _, rfl, g, _, 2, _, rfl, rfl, SqL.of e2, atI_nat (j := 2) rfl, y, z + i + 1, rfl, by omega, by omega, fun r r0 r1 => ?_⟩
        refine ⟨_, _, rfl, rfl, ?_⟩
        refine ⟨d * 2147483587 + r, z + i + 1, _, rfl, ?_, ?_, But.gen bt1, e2, by omega⟩
        · have := Int.mul_nonneg d0 (show (0 : Int) ≤ 2147483587 by decide)
          omega
        · rw [show 31 * (i + 1) = 31 * i + 31 by omega, Int.pow_add]
          generalize (2 : Int) ^ (31 * i) = p at d1
          have h2 : (2 : Int) ^ 31 = 2147483648 := by decide
          rw [h2]
          omega
      case fin =>
        rintro σ H1 ⟨d, zi, x3, rfl, d0, d1, bt1, e1, rfl⟩
        -- return int(_law_drawn) % _law_bound
        refine ⟨_, rfl, .inl ⟨_, rfl, ?_⟩⟩
        refine ⟨_, rfl, _, _, rfl, rfl, by omega, ?_⟩
        obtain ⟨r0, r1⟩ := fmod_rg (i := d) hb0
        exact q _ _ r0 r1 bt1 ⟨x, y, _, e1, x0, x1, y0, y1, by omega, by omega⟩
def sp_l_cell (K : PySem.W.Frag) : Sp := fun vs H Q _ => ∃ (s : Addr) (ns : List Int) (i : Nat), vs = [.ref s, .int i] ∧ SqL K H s (ns.map V.int) ∧ ∀ (z : Int) H', Same H H' → Q (.int z) H'
theorem ok_l_cell (F : Facts fa fn K mg)  : Callee P w K mg base 1 "_law_cell" p_l_cell (sp_l_cell K) := by
  refine F.callee 12 12 sc_l_cell (fun vs H Q E h => ?_) (fun _ _ _ _ _ _ us hl => match us, hl with | [_, _], _ => rfl) (fun f cdv A outer t0 H vs Q E hg hr h => ?_)
  · obtain ⟨s, ns, i, rfl, hS, q⟩ := h
    rfl
  · obtain ⟨s, ns, i, rfl, hS, q⟩ := h
    refine ⟨_, (pss_cons (ps_if (pt_cmpR op_lt (pv 1) (pe_callB (k_len K) (by rfl) (F.free 29) (by decide +kernel) (pa_cons (pv 0) pa_nil)) (nomark _)) (pss_one (ps_ret (pe_ix (k_ixl K) (pv 0) (pv 1) (fun _ _ => rfl))))
      pss_nil)
      (pss_one (ps_ret (pe_op op_modN (pe_callB (k_sum K) (by rfl) (F.free 36) (by decide +kernel) (pa_cons (pe_slice (k_sll K) (pv 0) po_none (po_some pe_int)) pa_nil)) pe_int)))), ?_⟩
    refine ⟨_, rfl, _, rfl, s, _, rfl, hS, _, _, rfl, rfl, _, rfl, ?_⟩
    refine ite2 (fun h => ?_) (fun h => ?_)
    · have h := of_decide_eq_true h
      rw [List.length_map] at h
      have hi : i < ns.length := by omega
      refine ⟨_, rfl, _, rfl, s, _, _, _, rfl, rfl, hS, atI_nat (j := i) (by rw [List.getElem?_map, List.getElem?_eq_getElem hi]; rfl), ?_⟩
      exact q _ _ (Same.refl _)
    · refine ⟨_, rfl, _, rfl, s, _, rfl, hS, fun a1 na1 => ?_⟩
      have e : cutV (ns.map V.int) none (some 1) = (ns.take 1).map V.int := by
        unfold cutV
        rw [HT.sIx_none, show HT.sIx (ns.map V.int).length (ns.map V.int).length (some 1) = min 1 (ns.map V.int).length from HT.sIx_nat _ _ 1, List.length_map]
        cases ns with
        | nil => rfl
        | cons x r =>
          rw [show min 1 (x :: r).length = 1 by rw [List.length_cons]; omega]
          rfl
      refine ⟨a1, ns.take 1, rfl, SqL.of (by rw [e]; exact upd_same), _, _, rfl, rfl, show (1000003 : Int) ≠ 0 by decide, ?_⟩
      exact q _ _ (same_new na1)
def sp_l_generator (K : PySem.W.Frag) : Sp := fun vs H Q _ => ∃ (s : Addr) (ns : List Int) (i : Nat), vs = [.ref s, .int i] ∧ SqL K H s (ns.map V.int) ∧ i ≤ 10 ∧ ∀ (g : Addr) H', Same H H' → H g = none → Gen (2 ^ 39) H' g → Q (.ref g) H'
theorem ok_l_generator (F : Facts fa fn K mg) (c_l_cell : Callee P w K mg base 1 "_law_cell" p_l_cell (sp_l_cell K)) : Callee P w K mg base 2 "_law_generator" p_l_generator (sp_l_generator K) := by
  refine F.callee 13 13 sc_l_generator (fun vs H Q E h => ?_) (fun _ _ _ _ _ _ us hl => match us, hl with | [_, _], _ => rfl) (fun f cdv A outer t0 H vs Q E hg hr h => ?_)
  · obtain ⟨s, ns, i, rfl, hS, hi, q⟩ := h
    rfl
  · obtain ⟨s, ns, i, rfl, hS, hi, q⟩ := h
    refine ⟨_, (pss_cons (ps_set (i := 2) sc_l_generator.nd rfl (by first | exact Or.inl rfl | exact Or.inr rfl) (pe_cal c_l_cell hg (hr.mono (by decide)) (pa_cons (pv 0) (pa_cons (pv 1) pa_nil))))
      (pss_one (ps_ret (pe_lst (pa_cons (pe_op op_modN (pe_callTy call_int1 (by rfl) (F.free 27) (by decide +kernel) (pa_cons (pe_callB (call_max2 rfl) (by rfl) (F.free 31) (by decide +kernel) (pa_cons (pe_op op_sub (pv 2) (pe_op op_powB pe_int pe_int)) (pa_cons pe_int pa_nil))) pa_nil)) (pe_op op_powB (pe_op op_powB pe_int pe_int) pe_int)) (pa_cons (pe_op op_modN (pe_callTy call_int1 (by rfl) (F.free 27) (by decide +kernel) (pa_cons (pv 2) pa_nil)) pe_int) (pa_cons (pe_op op_mulW pe_int (pv 1)) pa_nil))))))), ?_⟩
    refine ⟨_, rfl, _, rfl, s, ns, i, rfl, hS, fun z H1 s1 => ?_⟩
    refine ⟨_, rfl, _, _, rfl, rfl, by decide, by decide +kernel, _, _, rfl, rfl, _, _, rfl, .inl ⟨_, rfl, ?_⟩⟩
    refine ⟨_, _, rfl, rfl, by decide, by decide +kernel, _, _, rfl, rfl, by decide, by decide +kernel, _, _, rfl, rfl, show (((10 : Int) ^ (60 : Int).toNat) ^ (10 : Int).toNat) ≠ 0 by decide +kernel, _, rfl, .inl ⟨_, rfl, ?_⟩⟩
    refine ⟨_, _, rfl, rfl, show (2147483647 : Int) ≠ 0 by decide, _, rfl, _, _, rfl, rfl, wide_mul (a := 10) (b := 4) (by decide) (by rw [Int.natAbs_natCast]; omega) (by decide) (by decide) (by decide), by show 3 ≤ sizeLine; decide, fun g ng => ?_⟩
    have e6 : (((10 : Int) ^ (60 : Int).toNat) ^ (10 : Int).toNat) = 10 ^ 600 := by decide +kernel
    obtain ⟨a0, a1⟩ := fmod_rg (i := if (0 : Int) > z - 10 ^ (18 : Int).toNat then 0 else z - 10 ^ (18 : Int).toNat) (j := ((10 : Int) ^ (60 : Int).toNat) ^ (10 : Int).toNat) (by decide +kernel)
    obtain ⟨b0, b1⟩ := fmod_rg (i := z) (j := 2147483647) (by decide)
    rw [e6] at a1
    exact q g _ (snew s1 ng) (s1.free ng) ⟨_, _, _, upd_same, a0, a1, b0, b1, by omega, by omega⟩
end

end K81

set_option Elab.async false
set_option linter.all false
set_option maxRecDepth 100000
set_option maxHeartbeats 4000000
namespace K81
open PySem PySem.Spec PyProof.Rows L2 Sk
section
variable {P : Program} {w : World} {K : PySem.W.Frag} {mg : Str → Option Value} {base : Heap}
def sp_l_size : Sp := fun vs H Q _ => ∃ (g : Addr) (lo hi : Int) (n : Nat), vs = [.ref g, .int lo, .int hi] ∧ lo ≤ hi ∧ hi - lo < 1000000 ∧ Gen (n + 5) H g ∧ ∀ (r : Int) H', lo ≤ r → r ≤ hi → But g H H' → Gen n H' g → Q (.int r) H'
theorem ok_l_size (F : Facts fa fn K mg) (c_l_random : Callee P w K mg base 2 "_law_random" p_l_random sp_l_random) : Callee P w K mg base 3 "_law_size" p_l_size sp_l_size := by
  refine F.callee 14 14 sc_l_size (fun vs H Q E h => ?_) (fun _ _ _ _ _ _ us hl => match us, hl with | [_, _, _], _ => rfl) (fun f cdv A outer t0 H vs Q E hg hr h => ?_)
  · obtain ⟨g, lo, hi, n, rfl, hlh, hsm, hG, q⟩ := h
    rfl
  · obtain ⟨g, lo, hi, n, rfl, hlh, hsm, hG, q⟩ := h
    refine ⟨_, (pss_one (ps_ret (pe_op op_add (pv 1) (pe_cal c_l_random hg (hr.mono (by decide)) (pa_cons (pv 0) (pa_cons (pe_op op_add (pe_op op_sub (pv 2) (pv 1)) pe_int) pa_nil)))))), ?_⟩
    refine ⟨_, rfl, _, rfl, _, rfl, _, rfl, _, _, rfl, rfl, _, _, rfl, rfl, g, hi - lo + 1, n, rfl, by omega, b119 (by omega), hG, fun r H1 r0 r1 b1 g1 => ?_⟩
    exact ⟨_, _, rfl, rfl, q _ _ (by omega) (by omega) b1 g1⟩
theorem flat_single (ls : List Nat) : (ls.map fun c => [c]).flatten = ls := by
  induction ls with
  | nil => rfl
  | cons c r ih => rw [List.map_cons, List.flatten_cons, ih]; rfl
theorem sum_single (ls : List Nat) : ((ls.map fun c => [c]).map (·.length)).sum = ls.length := by
  induction ls with
  | nil => rfl
  | cons c r ih =>
    rw [List.map_cons, List.map_cons, List.sum_cons, ih]
    show 0 + 1 + r.length = r.length + 1
    omega
def sp_l_text : Sp := fun vs H Q _ => ∃ (g : Addr) (a : List Nat) (lo hi n : Nat), vs = [.ref g, T a, .int lo, .int hi] ∧ a ≠ [] ∧ a.length ≤ 1000 ∧ lo ≤ hi ∧ hi ≤ 1000 ∧ Gen (n + 5 * (hi + 3)) H g ∧
  ∀ (t : List Nat) H', (∀ c ∈ t, c ∈ a) → lo ≤ t.length → t.length ≤ hi → But g H H' → Gen n H' g → Q (T t) H'
theorem ok_l_text (F : Facts fa fn K mg) (c_l_size : Callee P w K mg base 3 "_law_size" p_l_size sp_l_size) (c_l_random : Callee P w K mg base 2 "_law_random" p_l_random sp_l_random) : Callee P w K mg base 4 "_law_text" p_l_text sp_l_text := by
  refine F.callee 15 15 sc_l_text (fun vs H Q E h => ?_) (fun _ _ _ _ _ _ us hl => match us, hl with | [_, _, _, _], _ => rfl) (fun f cdv A outer t0 H vs Q E hg hr h => ?_)
  · obtain ⟨g, a, lo, hi, n, rfl, hne, ha, hlh, hhi, hG, q⟩ := h
    rfl
  · obtain ⟨g, a, lo, hi, n, rfl, hne, ha, hlh, hhi, hG, q⟩ := h
    refine ⟨_, (pss_cons (ps_set (i := 4) sc_l_text.nd rfl (by first | exact Or.inl rfl | exact Or.inr rfl) (pe_cal c_l_size hg (hr.mono (by decide)) (pa_cons (pv 0) (pa_cons (pv 2) (pa_cons (pv 3) pa_nil)))))
      (pss_cons (ps_set (i := 5) sc_l_text.nd rfl (by first | exact Or.inl rfl | exact Or.inr rfl) (k_bm K PySem.F.plainAttrs_str PySem.F.slot_str_join PySem.F.type_str_join (k_join K) (pe_txt []) (pa_cons (pe_lc (own := [("_law_turn", 6)]) rfl sc_l_text.nd (pi_range1 (by rfl) (F.free 32) (pa_cons (pv 4) pa_nil)) (blkOk_by (by kernel_rfl)) (fun _ _ _ _ _ => (pg_name (i := 6) sc_l_text.nd rfl (by first | exact Or.inl rfl | exact Or.inr rfl))) (fun _ _ _ _ _ => pts_nil) (fun _ _ _ _ _ => (pe_ix ix_txt (pv 1) (pe_cal c_l_random hg (hr.mono (by decide)) (pa_cons (pv 0) (pa_cons (pe_callB call_lenT (by rfl) (F.free 29) (by decide +kernel) (pa_cons (pv 1) pa_nil)) pa_nil))) (fun _ _ => rfl)))) pa_nil)))
      (pss_cons (ps_if (PW.pt (pw_and (pt_cmpR op_neT (pv 5) (pe_txt []) (nomark _)) (pw_and1 (pt_cmpR op_eq (pe_cal c_l_random hg (hr.mono (by decide)) (pa_cons (pv 0) (pa_cons pe_int pa_nil))) pe_int (nomark _))))) (pss_one (ps_ret (pe_slice sl_txt (pe_op op_mulT (pe_slice sl_txt (pv 5) po_none (po_some (pe_cal c_l_size hg (hr.mono (by decide)) (pa_cons (pv 0) (pa_cons pe_int (pa_cons pe_int pa_nil)))))) (pv 3)) po_none (po_some (pe_callB call_lenT (by rfl) (F.free 29) (by decide +kernel) (pa_cons (pv 5) pa_nil))))))
      pss_nil)
      (pss_one (ps_ret (pv 5)))))), ?_⟩
    have ha0 : 0 < a.length := List.length_pos_iff.mpr hne
    -- _law_many = ..
    refine ⟨_, rfl, _, rfl, _, rfl, g, lo, hi, n + 5 * (hi + 2), rfl, by omega, by omega, hG.less (by omega), fun m H1 m0 m1 b1 g1 => ?_⟩
    obtain ⟨m, rfl⟩ : ∃ k : Nat, m = (k : Int) := ⟨m.toNat, by omega⟩
    -- _law_text_here = ''.join([..])
    refine ⟨rfl, _, rfl, _, rfl, by omega, by omega, fun D hD => ?_⟩
    have nDg : D ≠ g := g1.ne hD
    rw [Int.toNat_natCast]
    refine lc_it walk_range (fun i H2 => But g H1 H2 ∧ Gen (n + 5 * (hi + 2) - 5 * i) H2 g ∧ ∃ ls : List Nat, ls.length = i ∧ (∀ c ∈ ls, c ∈ a) ∧ H2 D = some (.lst (ls.map fun c => T [c]))) ?start (fun _ _ _ _ => trivial) ?turn ?fin
    case start => exact ⟨But.of (same_new hD), g1.same (same_new hD), [], rfl, fun c hc => (by cases hc), upd_same⟩
    case turn =>
      rintro i x H2 H3 hi' ⟨b2, g2, ls, hl, hc, e2⟩ ⟨rfl, rfl⟩
      refine ⟨rfl, yes_ (iteT ?_)⟩
      refine ⟨_, rfl, _, rfl, _, rfl, a, rfl, by omega, g, (a.length : Int), n + 5 * (hi + 2) - 5 * (i + 1), rfl, by omega, b119 (by omega), g2.less (by omega), fun r H4 r0 r1 b4 g4 => ?_⟩
      obtain ⟨r, rfl⟩ : ∃ k : Nat, r = (k : Int) := ⟨r.toNat, by omega⟩
      have hr : r < a.length := by omega
      refine ⟨a, (r : Int), a[r], rfl, rfl, by omega, atI_nat (List.getElem?_eq_getElem hr), ?_⟩
      refine ⟨_, b4 _ _ nDg e2, ?_, ?_, ?_, ls ++ [a[r]], by rw [List.length_append, hl]; rfl, fun c hc' => ?_, ?_⟩
      · rw [List.length_map]; exact line_lt (by omega)
      · exact But.mut (b2.trans b4) hD
      · obtain ⟨x1, x2, x3, ex, rx⟩ := g4
        exact ⟨x1, x2, x3, by rw [upd_ne nDg.symm]; exact ex, rx⟩
      · rcases List.mem_append.mp hc' with z | z
        · exact hc c z
        · rw [List.mem_singleton.mp z]; exact List.getElem_mem hr
      · rw [upd_same, List.map_append]; rfl
    case fin =>
      rintro H2 ⟨b2, g2, ls, hl, hc, e2⟩
      have eT : (ls.map fun c => T [c]) = (ls.map fun c => [c]).map T := by rw [List.map_map]; rfl
      rw [eT] at e2
      refine ⟨_, D, _, rfl, rfl, SqL.of e2, by rw [sum_single, List.length_map]; simp; omega, ?_⟩
      rw [joinL_nil, flat_single]
      have hml : m = ls.length := hl.symm
      have bb : But g H H2 := b1.trans b2
      -- if text != '' and random(..) == 0:
      refine ⟨_, rfl, ls, [], rfl, rfl, _, rfl, ?_⟩
      show (if (!decide (ls = [])) = true then _ else _)
      by_cases hls : ls = []
      · rw [decide_eq_true hls]
        refine iteF ?_
        refine iteF ?_
        exact ⟨_, rfl, q _ _ hc (by omega) (by omega) bb (g2.less (by omega))⟩
      · rw [decide_eq_false hls]
        refine iteT ?_
        refine ⟨_, rfl, g, 4, n + 5 * (hi + 2) - 5 * m - 5, rfl, by decide, by decide, g2.less (by omega), fun r H4 r0 r1 b4 g4 => ?_⟩
        refine ⟨rfl, _, rfl, ite2 (fun h => ?_) (fun h => ?_)⟩
        · -- return (text[:size(..)] * most)[:len(text)]
          refine ⟨_, rfl, _, rfl, g, 1, 3, n, rfl, by decide, by decide, g4.less (by omega), fun k H5 k0 k1 b5 g5 => ?_⟩
          obtain ⟨k, rfl⟩ : ∃ z : Nat, k = (z : Int) := ⟨k.toNat, by omega⟩
          refine ⟨(k : Int), rfl, ls, rfl, by omega, ?_⟩
          rw [cut_to]
          have h3 : (ls.take k).length ≤ 3 := by rw [List.length_take]; omega
          refine ⟨_, rfl, ls.take k, hi, rfl, rfl, by omega, ?_, _, rfl, ls, rfl, by omega, (ls.length : Int), rfl, _, rfl, ?_, ?_⟩
          · have := Nat.mul_le_mul_right hi h3
            omega
          · rw [List.length_flatten, List.map_replicate, List.sum_replicate_nat]
            have := Nat.mul_le_mul_left hi h3
            omega
          · rw [cut_to]
            have hl0 : 0 < ls.length := List.length_pos_iff.mpr hls
            have hk1 : 1 ≤ (ls.take k).length := by rw [List.length_take]; omega
            have hfl : (List.replicate hi (ls.take k)).flatten.length = hi * (ls.take k).length := by
              rw [List.length_flatten, List.map_replicate, List.sum_replicate_nat]
            have hge : ls.length ≤ (List.replicate hi (ls.take k)).flatten.length := by
              rw [hfl]
              have := Nat.mul_le_mul_left hi hk1
              omega
            refine q _ _ (fun c hc' => ?_) ?_ ?_ (bb.trans (b4.trans b5)) (g5.less (by omega))
            · have h1 := List.mem_of_mem_take hc'
              obtain ⟨z, hz1, hz2⟩ := List.mem_flatten.mp h1
              rw [List.eq_of_mem_replicate hz1] at hz2
              exact hc c (List.mem_of_mem_take hz2)
            · rw [List.length_take]; omega
            · rw [List.length_take]; omega
        · exact ⟨_, rfl, q _ _ hc (by omega) (by omega) (bb.trans b4) (g4.less (by omega))⟩
end

end K81

set_option Elab.async false
set_option linter.all false
set_option maxRecDepth 100000
set_option maxHeartbeats 4000000
namespace K81
open PySem PySem.Spec PyProof.Rows L2 Sk
section
variable {P : Program} {w : World} {K : PySem.W.Frag} {mg : Str → Option Value} {base : Heap}
def sp_l_is_read : Sp := fun vs H Q _ => ∃ (wd l : List Nat), vs = [T wd, T l] ∧ wd.length ≤ 100000 ∧ l.length ≤ 100000 ∧ Q (.bl (rd wd l)) H
theorem ok_l_is_read (F : Facts fa fn K mg)  : Callee P w K mg base 1 "_law_is_read" p_l_is_read sp_l_is_read := by
  refine F.callee 16 16 sc_l_is_read (fun vs H Q E h => ?_) (fun _ _ _ _ _ _ us hl => match us, hl with | [_, _], _ => rfl) (fun f cdv A outer t0 H vs Q E hg hr h => ?_)
  · obtain ⟨wd, l, rfl, hw, hl, q⟩ := h
    rfl
  · obtain ⟨wd, l, rfl, hw, hl, q⟩ := h
    refine ⟨_, (pss_cons (ps_set (i := 2) sc_l_is_read.nd rfl (by first | exact Or.inl rfl | exact Or.inr rfl) pe_int)
      (pss_cons (ps_for PassesOwn.never rfl (pi_str (pv 1)) (pg_name (i := 3) sc_l_is_read.nd rfl (by first | exact Or.inl rfl | exact Or.inr rfl))
      (pss_one (ps_if (pt_cmpR op_eqT (pe_slice sl_txt (pv 0) (po_some (pv 2)) (po_some (pe_op op_add (pv 2) pe_int))) (pv 3) (nomark _)) (pss_one (ps_set (i := 2) sc_l_is_read.nd rfl (by first | exact Or.inl rfl | exact Or.inr rfl) (pe_op op_add (pv 2) pe_int)))
      pss_nil)))
      (pss_one (ps_ret (pe_cmpR op_eq (pv 2) (pe_callB call_lenT (by rfl) (F.free 29) (by decide +kernel) (pa_cons (pv 0) pa_nil)) (nomark _)))))), ?_⟩
    -- for _law_letter in _law_text_here:
    refine ⟨_, rfl, _, rfl, for_it walk_txt (fun i σ H1 => ∃ (j : Nat) (x3 : Option V), σ = [some (T wd), some (T l), some (.int j), x3] ∧ H1 = H ∧ j ≤ wd.length ∧ rd wd l = rd (wd.drop j) (l.drop i)) ?start (fun _ _ _ _ _ => trivial) ?turn ?fin⟩
    case start => exact ⟨0, none, rfl, rfl, Nat.zero_le _, rfl⟩
    case turn =>
      rintro i x σ H1 H2 hi ⟨j, x3, rfl, rfl, hj, e⟩ ⟨rfl, c, hc, rfl⟩
      have hdrop : l.drop i = c :: l.drop (i + 1) := by
        obtain ⟨h1, h2⟩ := List.getElem?_eq_some_iff.mp hc
        rw [List.drop_eq_getElem_cons h1, h2]
      have hsl : cutL wd (some (j : Int)) (some ((j : Int) + 1)) = (wd.drop j).take 1 := by
        have := cut_mid wd j (j + 1)
        rw [Nat.add_sub_cancel_left] at this
        exact this
      refine ⟨_, rfl, _, rfl, _, rfl, _, rfl, _, _, rfl, rfl, _, rfl, wd, rfl, by omega, _, rfl, _, [c], rfl, rfl, _, rfl, ?_⟩
      rw [hsl]
      show (if decide (_ = [c]) = true then _ else _)
      by_cases hjl : j < wd.length
      · rw [List.drop_eq_getElem_cons hjl] at e ⊢
        rw [hdrop, rd] at e
        by_cases hcc : wd[j] = c
        · rw [if_pos hcc] at e
          rw [decide_eq_true (show List.take 1 (wd[j] :: wd.drop (j + 1)) = [c] by rw [hcc]; rfl)]
          refine iteT ?_
          refine ⟨_, rfl, _, _, rfl, rfl, j + 1, _, rfl, rfl, hjl, e⟩
        · rw [if_neg hcc, ← List.drop_eq_getElem_cons hjl] at e
          rw [decide_eq_false (show ¬ List.take 1 (wd[j] :: wd.drop (j + 1)) = [c] by
            intro z
            injection z with z
            exact hcc z)]
          exact iteF ⟨j, _, rfl, rfl, hj, e⟩
      · have e0 : wd.drop j = [] := List.drop_eq_nil_of_le (by omega)
        rw [e0] at e ⊢
        rw [decide_eq_false (show ¬ List.take 1 ([] : List Nat) = [c] by intro z; cases z)]
        refine iteF ⟨j, _, rfl, rfl, hj, ?_⟩
        rw [e, e0]
        rw [rd, rd]
    case fin =>
      rintro σ H1 ⟨j, x3, rfl, rfl, hj, e⟩
      refine ⟨_, rfl, _, rfl, wd, rfl, by omega, rfl, ?_⟩
      rw [List.drop_length] at e
      have e2 : decide (V.int (j : Int) = V.int (wd.length : Int)) = rd wd l := by
        rw [e]
        by_cases hjl : j < wd.length
        · rw [List.drop_eq_getElem_cons hjl, rd, decide_eq_false]
          intro z
          injection z with z
          omega
        · have : j = wd.length := by omega
          rw [List.drop_eq_nil_of_le (by omega), rd, decide_eq_true]
          rw [this]
      show Q (.bl (decide (V.int (j : Int) = V.int (wd.length : Int)))) H1
      rw [e2]
      exact q
def sp_l_same (K : PySem.W.Frag) : Sp := fun vs H Q _ => ∃ (x y : V) (d : PyData), vs = [x, y] ∧ Dp K H x d ∧ Dp K H y d ∧ d.showable = true ∧ d.hasDict = false ∧ d.depth ≤ 60 ∧ d.shown.length ≤ sizeLine ∧ Q (.bl true) H
theorem ok_l_same (F : Facts fa fn K mg)  : Callee P w K mg base 1 "_law_same" p_l_same (sp_l_same K) := by
  refine F.callee 17 17 sc_l_same (fun vs H Q E h => ?_) (fun _ _ _ _ _ _ us hl => match us, hl with | [_, _], _ => rfl) (fun f cdv A outer t0 H vs Q E hg hr h => ?_)
  · obtain ⟨x, y, d, rfl, dx, dy, h1, h2, h3, h4, q⟩ := h
    rfl
  · obtain ⟨x, y, d, rfl, dx, dy, h1, h2, h3, h4, q⟩ := h
    refine ⟨_, (pss_one (ps_ret (pe_cmpR op_eqT (pe_callB (k_repr K hg hr.units) (by rfl) (F.free 33) (by decide +kernel) (pa_cons (pv 0) pa_nil)) (pe_callB (k_repr K hg hr.units) (by rfl) (F.free 33) (by decide +kernel) (pa_cons (pv 1) pa_nil)) (nomark _)))), ?_⟩
    obtain ⟨z, ez⟩ : ∃ z : List Nat, d.shown = tx z := ⟨TL.tl d.shown, (tx_tl _).symm⟩
    refine ⟨_, rfl, x, d, rfl, dx, h1, h2, h3, h4, _, rfl, y, d, rfl, dy, h1, h2, h3, h4, z, z, by rw [ez], by rw [ez], ?_⟩
    show Q (.bl (decide (z = z))) H
    rw [decide_eq_true rfl]
    exact q
end

section
variable {P : Program} {w : World} {K : PySem.W.Frag} {mg : Str → Option Value} {base : Heap}
def sp_l_has_all : Sp := fun vs H Q _ => ∃ (a t : List Nat), vs = [T a, T t] ∧ a.length ≤ 4 ∧ Low a ∧ ∀ H', Same H H' → Q (.bl (decide (∀ x ∈ a, x ∈ t))) H'
theorem ok_l_has_all (F : Facts fa fn K mg)  : Callee P w K mg base 1 "_law_has_all" p_l_has_all sp_l_has_all := by
  refine F.callee 20 20 sc_l_has_all (fun vs H Q E h => ?_) (fun _ _ _ _ _ _ us hl => match us, hl with | [_, _], _ => rfl) (fun f cdv A outer t0 H vs Q E hg hr h => ?_)
  · obtain ⟨a, t, rfl, ha, hlow, q⟩ := h
    rfl
  · obtain ⟨a, t, rfl, ha, hlow, q⟩ := h
    refine ⟨_, (pss_one (ps_ret (pe_cmpR (k_eq K hr.units) (pe_lc (own := [("_law_letter", 2)]) rfl sc_l_has_all.nd (pi_str (pv 0)) (blkOk_by (by kernel_rfl)) (fun _ _ _ _ _ => (pg_name (i := 2) sc_l_has_all.nd rfl (by first | exact Or.inl rfl | exact Or.inr rfl))) (fun _ _ _ _ _ => (pts_one (pt_cmpR op_ninT (pv 2) (pv 1) rfl))) (fun _ _ _ _ _ => (pv 2))) (pe_lst pa_nil) (nomark _)))), ?_⟩
    refine ⟨_, rfl, _, rfl, fun D hD => ?_⟩
    refine lc_pure walk_txt (fun i => (a[i]?).bind fun c => if c ∈ t then none else some (T [c])) hD (fun _ _ => trivial) (by omega) ?_ (fun H1 s1 e1 => ?_)
    · rintro j y H5 H6 Qk Nk hj s5 ⟨rfl, c, hc, rfl⟩ hk hn
      refine ⟨rfl, _, rfl, _, rfl, c, t, rfl, rfl, _, rfl, ?_⟩
      by_cases hm : c ∈ t
      · rw [show (if true = true then !decide (c ∈ t) else decide (c ∈ t)) = false by rw [decide_eq_true hm]; rfl]
        exact iteF (hn _ (by simp only [hc, Option.bind_some, if_pos hm]) (Same.refl _))
      · rw [show (if true = true then !decide (c ∈ t) else decide (c ∈ t)) = true by rw [decide_eq_false hm]; rfl]
        exact iteT ⟨_, rfl, hk _ _ (by simp only [hc, Option.bind_some, if_neg hm]) (Same.refl _)⟩
    have hiff := lack_nil a t
    generalize hL : ((List.range a.length).filterMap fun i => (a[i]?).bind fun c => if c ∈ t then none else some (T [c])) = L at e1 hiff
    have hfl : ∀ x ∈ L, flat2 x = true := by
      intro x hx
      rw [← hL, List.mem_filterMap] at hx
      obtain ⟨i', _, e⟩ := hx
      cases ha' : a[i']? with
      | none => rw [ha'] at e; cases e
      | some c' =>
        rw [ha', Option.bind_some] at e
        split at e
        · cases e
        · injection e with e
          subst e
          exact flat_T (fun z hz' => by rw [List.mem_singleton.mp hz']; exact hlow c' (List.mem_of_getElem? ha'))
    refine ⟨Nat.zero_le _, fun a3 na3 => ?_⟩
    refine eq_nil (SqL.of (by rw [upd_ne (ne_of_none e1 na3)]; exact e1)) hfl (SqL.of upd_same) ?_
    have e9 : decide (L = []) = decide (∀ x ∈ a, x ∈ t) := by
      by_cases h : L = []
      · rw [decide_eq_true h, decide_eq_true (hiff.mp h)]
      · rw [decide_eq_false h, decide_eq_false (fun z => h (hiff.mpr z))]
    rw [e9]
    exact q _ (snew s1 na3)
end
end K81

set_option Elab.async false
set_option linter.all false
set_option maxRecDepth 100000
set_option maxHeartbeats 4000000
namespace K81
open PySem PySem.Spec PyProof.Rows L2 Sk
theorem wds_len (a : List Nat) (n : Nat) : (wds a n).length = a.length ^ n := by rw [wds_wdf, wdf_len]
theorem wds_word (a : List Nat) : ∀ n, ∀ x ∈ wds a n, x.length = n ∧ ∀ c ∈ x, c ∈ a
  | 0, x, h => by
    have : x = [] := List.mem_singleton.mp h
    subst this
    exact ⟨rfl, fun c hc => by cases hc⟩
  | n + 1, x, h => by
    obtain ⟨y, hy, h2⟩ := List.mem_flatMap.mp h
    obtain ⟨c, hc, e⟩ := List.mem_map.mp h2
    obtain ⟨i1, i2⟩ := wds_word a n y hy
    subst e
    refine ⟨by rw [List.length_append, i1]; rfl, fun d hd => ?_⟩
    rcases List.mem_append.mp hd with z | z
    · exact i2 d z
    · rw [List.mem_singleton.mp z]; exact hc
/-- the words grown from the first j of a list -/
def grow (a : List Nat) (ws : List (List Nat)) : List (List Nat) := ws.flatMap fun x => a.map fun c => x ++ [c]
theorem grow_len (a : List Nat) (ws : List (List Nat)) : (grow a ws).length = ws.length * a.length := by
  unfold grow
  rw [List.length_flatMap]
  simp only [List.length_map]
  rw [List.map_const', List.sum_replicate_nat]
theorem fm_if {α β : Type} (a : List α) (p : α → Bool) (g : α → β) : (List.range a.length).filterMap (fun j => (a[j]?).bind fun x => if p x = true then some (g x) else none) = (a.filter p).map g := by
  induction a with
  | nil => rfl
  | cons x r ih =>
    rw [List.length_cons, List.range_succ_eq_map, List.filterMap_cons, List.filterMap_map, List.filter_cons]
    simp only [List.getElem?_cons_zero, Option.bind_some]
    have e : List.filterMap ((fun j => ((x :: r)[j]?).bind fun x => if p x = true then some (g x) else none) ∘ Nat.succ) (List.range r.length) = (r.filter p).map g := by
      rw [← ih]
      congr 1
    rw [e]
    by_cases h : p x = true
    · rw [if_pos h, if_pos h]
      rfl
    · rw [if_neg h, if_neg h]
section
variable {P : Program} {w : World} {K : PySem.W.Frag} {mg : Str → Option Value} {base : Heap}
def sp_l_missing : Sp := fun vs H Q _ => ∃ (a l : List Nat) (n : Nat), vs = [T a, .int n, T l] ∧ a.length ≤ 4 ∧ 1 ≤ a.length ∧ n ≤ 100 ∧ a.length ^ n ≤ 100000 ∧ l.length ≤ 100000 ∧
  ∀ H' p, Same H H' → H p = none → H' p = some (.lst (((wds a n).filter fun x => !rd x l).map T)) → Q (.ref p) H'
theorem ok_l_missing (F : Facts fa fn K mg) (c_l_is_read : Callee P w K mg base 1 "_law_is_read" p_l_is_read sp_l_is_read) : Callee P w K mg base 2 "_law_missing" p_l_missing sp_l_missing := by
  refine F.callee 22 22 sc_l_missing (fun vs H Q E h => ?_) (fun _ _ _ _ _ _ us hl => match us, hl with | [_, _, _], _ => rfl) (fun f cdv A outer t0 H vs Q E hg hr h => ?_)
  · obtain ⟨a, l, n, rfl, ha, ha1, hn, hp, hl, q⟩ := h
    rfl
  · obtain ⟨a, l, n, rfl, ha, ha1, hn, hp, hl, q⟩ := h
    refine ⟨_, (pss_cons (ps_set (i := 3) sc_l_missing.nd rfl (by first | exact Or.inl rfl | exact Or.inr rfl) (pe_lst (pa_cons (pe_txt []) pa_nil)))
      (pss_cons (ps_for PassesOwn.never rfl (pi_range1 (by rfl) (F.free 32) (pa_cons (pv 1) pa_nil)) (pg_name (i := 4) sc_l_missing.nd rfl (by first | exact Or.inl rfl | exact Or.inr rfl))
      (pss_cons (ps_set (i := 5) sc_l_missing.nd rfl (by first | exact Or.inl rfl | exact Or.inr rfl) (pe_lst pa_nil))
      (pss_cons (ps_for PassesOwn.never rfl (k_pil K (pv 3)) (pg_name (i := 6) sc_l_missing.nd rfl (by first | exact Or.inl rfl | exact Or.inr rfl))
      (pss_one (ps_set (i := 5) sc_l_missing.nd rfl (by first | exact Or.inl rfl | exact Or.inr rfl) (pe_op op_cat (pv 5) (pe_lc (own := [("_law_letter", 7)]) rfl sc_l_missing.nd (pi_str (pv 0)) (blkOk_by (by kernel_rfl)) (fun _ _ _ _ _ => (pg_name (i := 7) sc_l_missing.nd rfl (by first | exact Or.inl rfl | exact Or.inr rfl))) (fun _ _ _ _ _ => pts_nil) (fun _ _ _ _ _ => (pe_op op_addT (pv 6) (pv 7))))))))
      (pss_one (ps_set (i := 3) sc_l_missing.nd rfl (by first | exact Or.inl rfl | exact Or.inr rfl) (pv 5))))))
      (pss_one (ps_ret (pe_lc (own := [("_law_word", 6)]) rfl sc_l_missing.nd (k_pil K (pv 3)) (blkOk_by (by kernel_rfl)) (fun _ _ _ _ _ => (pg_name (i := 6) sc_l_missing.nd rfl (by first | exact Or.inl rfl | exact Or.inr rfl))) (fun _ _ _ _ _ => (pts_one (pt_not (pt_val (pe_cal c_l_is_read hg (hr.mono (by decide)) (pa_cons (pv 6) (pa_cons (pv 2) pa_nil))))))) (fun _ _ _ _ _ => (pv 6))))))), ?_⟩
    -- _law_words = ['']
    refine ⟨by show 1 ≤ sizeLine; decide, fun a1 na1 => ?_⟩
    have pows : ∀ i, i ≤ n → a.length ^ i ≤ 100000 := fun i hi => Nat.le_trans (Nat.pow_le_pow_right ha1 hi) hp
    -- for _law_turn in range(_law_size_here):
    refine ⟨_, rfl, _, rfl, by omega, by omega, for_it walk_range (fun i σ H1 => ∃ (pw : Addr) (x4 x5 x6 x7 : Option V), σ = [some (T a), some (.int n), some (T l), some (.ref pw), x4, x5, x6, x7] ∧ Same H H1 ∧ H pw = none ∧ H1 pw = some (.lst ((wds a i).map T))) ?start (fun _ _ _ _ _ => trivial) ?turn ?fin⟩
    case start => exact ⟨a1, none, none, none, none, rfl, same_new na1, na1, upd_same⟩
    case turn =>
      rintro i v σ H1 H2 hi ⟨pw, x4, x5, x6, x7, rfl, s1, npw, e1⟩ ⟨rfl, rfl⟩
      rw [Int.toNat_natCast] at hi
      have hwl := wds_len a i
      have hpi := pows i (by omega)
      have hpi1 := pows (i + 1) (by omega)
      rw [Nat.pow_succ, ← hwl] at hpi1
      -- _law_longer_here = []
      refine ⟨Nat.zero_le _, fun a2 na2 => ?_⟩
      have nH2 : H a2 = none := s1.free na2
      -- for _law_word in _law_words:
      refine ⟨_, rfl, pw, rfl, ⟨_, SqL.of ((same_new na2) _ _ e1)⟩, for_it (walk_list (xs := (wds a i).map T)) (fun j σ H3 => ∃ (pl : Addr) (y4 y6 y7 : Option V), σ = [some (T a), some (.int n), some (T l), some (.ref pw), y4, some (.ref pl), y6, y7] ∧ Same H H3 ∧ H3 pw = some (.lst ((wds a i).map T)) ∧ H pl = none ∧ H3 pl = some (.lst ((grow a ((wds a i).take j)).map T))) ?start2 ?G2 ?turn2 ?fin2⟩
      case start2 => exact ⟨a2, _, _, _, rfl, snew s1 na2, (same_new na2) _ _ e1, nH2, upd_same⟩
      case G2 =>
        rintro j σ H3 _ ⟨pl, y4, y6, y7, rfl, s3, e3, n3, e4⟩
        exact SqL.of e3
      case turn2 =>
        rintro j x σ H3 H4 hj ⟨pl, y4, y6, y7, rfl, s3, e3, n3, e4⟩ ⟨rfl, hx⟩
        rw [List.length_map] at hj
        have hwj : (wds a i)[j]? = some (wds a i)[j] := List.getElem?_eq_getElem hj
        rw [List.getElem?_map, hwj] at hx
        have hx : T (wds a i)[j] = x := Option.some.inj hx
        subst hx
        obtain ⟨hxl, hxa⟩ := wds_word a i _ (List.getElem_mem hj)
        -- longer = longer + [..]
        refine ⟨_, rfl, _, rfl, _, rfl, fun D hD => ?_⟩
        refine lc_pure walk_txt (fun m => (a[m]?).map fun c => T ((wds a i)[j] ++ [c])) hD (fun _ _ => trivial) (by omega) (fun m y H5 H6 Qk Nk hm s5 hy hk hn => ?_) (fun H5 s5 e5 => ?_)
        · obtain ⟨rfl, c, hc, rfl⟩ := hy
          refine ⟨rfl, yes_ (iteT ?_)⟩
          refine ⟨_, rfl, _, rfl, _, _, rfl, rfl, by rw [hxl]; simp; omega, hk _ _ (by rw [hc]; rfl) (Same.refl _)⟩
        · rw [fm_get] at e5
          have hg := grow_len a ((wds a i).take j)
          have hle : (grow a ((wds a i).take j)).length + a.length ≤ 100000 := by
            rw [hg, List.length_take, Nat.min_eq_left (by omega), ← Nat.succ_mul]
            exact Nat.le_trans (Nat.mul_le_mul_right _ hj) hpi1
          refine ⟨pl, D, _, _, rfl, rfl, s5 _ _ e4, e5, ?_, fun a3 na3 => ?_⟩
          · rw [List.length_map, List.length_map]; exact line_ok (by omega)
          refine ⟨a3, _, _, _, rfl, snew (s3.trans s5) na3, (snew s5 na3) _ _ e3, (s3.trans s5).free na3, ?_⟩
          rw [upd_same, List.take_add_one, hwj]
          unfold grow
          rw [Option.toList_some, List.flatMap_append, List.map_append]
          congr 3
          show _ = List.map T ([(wds a i)[j]].flatMap fun x => a.map fun c => x ++ [c])
          rw [List.flatMap_cons, List.flatMap_nil, List.append_nil, List.map_map]
          rfl
      case fin2 =>
        rintro σ H3 ⟨pl, y4, y6, y7, rfl, s3, e3, n3, e4⟩
        rw [List.length_map, List.take_length] at e4
        exact ⟨_, rfl, pl, _, _, _, _, rfl, s3, n3, e4⟩
    case fin =>
      rintro σ H1 ⟨pw, x4, x5, x6, x7, rfl, s1, npw, e1⟩
      rw [Int.toNat_natCast] at e1
      have hwl := wds_len a n
      -- return [..]
      refine ⟨_, rfl, pw, rfl, ⟨_, SqL.of e1⟩, fun D hD => ?_⟩
      refine lc_pure (walk_list (xs := (wds a n).map T)) (fun m => ((wds a n)[m]?).bind fun x => if (!rd x l) = true then some (T x) else none) hD (fun H2 s2 => SqL.of (s2 _ _ e1)) (by rw [List.length_map]; omega) (fun m y H5 H6 Qk Nk hm s5 hy hk hn => ?_) (fun H5 s5 e5 => ?_)
      · obtain ⟨rfl, hx⟩ := hy
        rw [List.length_map] at hm
        have hwm : (wds a n)[m]? = some (wds a n)[m] := List.getElem?_eq_getElem hm
        rw [List.getElem?_map, hwm] at hx
        have hx : T (wds a n)[m] = y := Option.some.inj hx
        subst hx
        obtain ⟨hxl, hxa⟩ := wds_word a n _ (List.getElem_mem hm)
        refine ⟨rfl, _, rfl, _, rfl, _, l, rfl, by omega, hl, _, rfl, ?_⟩
        cases hrd : rd (wds a n)[m] l with
        | true => exact iteF (hn _ (by simp [hwm, hrd]) (Same.refl _))
        | false => exact iteT ⟨_, rfl, hk _ _ (by simp [hwm, hrd]) (Same.refl _)⟩
      · rw [List.length_map, fm_if] at e5
        exact q _ D (s1.trans s5) (s1.free hD) e5
end
end K81

set_option Elab.async false
set_option linter.all false
set_option maxRecDepth 100000
set_option maxHeartbeats 4000000
namespace K81
open PySem PySem.Spec PyProof.Rows L2 Sk
/-- what find tells -/
def fnd (l : List Nat) (c i : Nat) : Int := match nx l c i with
  | some k => (k : Int)
  | none => -1
theorem fnd_of {l : List Nat} {c i : Nat} {r : Int} (h : FirstAt l c i r) : r = fnd l c i := by
  unfold fnd
  rcases first_nx h with ⟨h1, h2⟩ | ⟨k, h1, h2⟩
  · rw [h1, h2]
  · rw [h1, h2]
section
variable {P : Program} {w : World} {K : PySem.W.Frag} {mg : Str → Option Value} {base : Heap}
def sp_l_number : Sp := fun vs H Q _ => ∃ (a l : List Nat) (n : Nat), vs = [T a, .int n, T l] ∧ a.length ≤ 4 ∧ n ≤ 10000 ∧ l.length ≤ 10000 ∧ ∀ H', Same H H' → Q (.int (mis a l n 0)) H'
theorem ok_l_number (F : Facts fa fn K mg)  : Callee P w K mg base 1 "_law_number" p_l_number sp_l_number := by
  refine F.callee 23 23 sc_l_number (fun vs H Q E h => ?_) (fun _ _ _ _ _ _ us hl => match us, hl with | [_, _, _], _ => rfl) (fun f cdv A outer t0 H vs Q E hg hr h => ?_)
  · obtain ⟨a, l, n, rfl, ha4, hn, hz, q⟩ := h
    rfl
  · obtain ⟨a, l, n, rfl, ha4, hn, hz, q⟩ := h
    refine ⟨_, (pss_cons (ps_asg (pe_tup (pa_cons (pe_op op_rep (pe_lst (pa_cons pe_int pa_nil)) (pe_op op_add (pe_callB call_lenT (by rfl) (F.free 29) (by decide +kernel) (pa_cons (pv 2) pa_nil)) pe_int)) (pa_cons pe_int pa_nil))) (k_tup K rfl (pgs_cons (pg_name (i := 3) sc_l_number.nd rfl (by first | exact Or.inl rfl | exact Or.inr rfl)) (pgs_cons (pg_name (i := 4) sc_l_number.nd rfl (by first | exact Or.inl rfl | exact Or.inr rfl)) pgs_nil))))
      (pss_cons (ps_for PassesOwn.never rfl (pi_range1 (by rfl) (F.free 32) (pa_cons (pv 1) pa_nil)) (pg_name (i := 5) sc_l_number.nd rfl (by first | exact Or.inl rfl | exact Or.inr rfl))
      (pss_cons (ps_set (i := 6) sc_l_number.nd rfl (by first | exact Or.inl rfl | exact Or.inr rfl) (pe_lst pa_nil))
      (pss_cons (ps_for PassesOwn.never rfl (pi_range1 (by rfl) (F.free 32) (pa_cons (pe_op op_add (pe_callB call_lenT (by rfl) (F.free 29) (by decide +kernel) (pa_cons (pv 2) pa_nil)) pe_int) pa_nil)) (pg_name (i := 7) sc_l_number.nd rfl (by first | exact Or.inl rfl | exact Or.inr rfl))
      (pss_cons (ps_setLc (i := 8) (own := [("_law_letter", 9)]) rfl sc_l_number.nd rfl rfl (sw_true rfl rfl rfl (by decide +kernel)) (pi_str (pv 0)) (blkOk_by (by kernel_rfl)) (fun _ _ _ _ _ => (pg_name (i := 9) sc_l_number.nd rfl (by first | exact Or.inl rfl | exact Or.inr rfl))) (fun _ _ _ _ _ => pts_nil) (fun _ _ _ _ _ => (k_bm K PySem.F.plainAttrs_str PySem.F.slot_str_find PySem.F.type_str_find mt_findT (pv 2) (pa_cons (pv 9) (pa_cons (pv 7) pa_nil)))))
      (pss_one (ps_expr (k_bm K PySem.F.plainAttrs_list PySem.F.slot_list_append PySem.F.type_list_append mt_append (pv 6) (pa_cons (pe_callB (k_sum K) (by rfl) (F.free 36) (by decide +kernel) (pa_cons (pe_lc (own := [("_law_place", 10)]) rfl sc_l_number.nd (k_pil K (pv 8)) (blkOk_by (by kernel_rfl)) (fun _ _ _ _ _ => (pg_name (i := 10) sc_l_number.nd rfl (by first | exact Or.inl rfl | exact Or.inr rfl))) (fun _ _ _ _ _ => pts_nil) (fun _ _ _ _ _ => (pe_ifExp (pt_cmpR op_lt (pv 10) pe_int (nomark _)) (pv 4) (pe_ix (k_ixl K) (pv 3) (pe_op op_add (pv 10) pe_int) (fun _ _ => rfl))))) pa_nil)) pa_nil))))))
      (pss_one (ps_asg (pe_tup (pa_cons (pv 6) (pa_cons (pe_op op_mulW (pv 4) (pe_callB call_lenT (by rfl) (F.free 29) (by decide +kernel) (pa_cons (pv 0) pa_nil))) pa_nil))) (k_tup K rfl (pgs_cons (pg_name (i := 3) sc_l_number.nd rfl (by first | exact Or.inl rfl | exact Or.inr rfl)) (pgs_cons (pg_name (i := 4) sc_l_number.nd rfl (by first | exact Or.inl rfl | exact Or.inr rfl)) pgs_nil))))))))
      (pss_one (ps_ret (pe_ix (k_ixl K) (pv 3) pe_int (fun _ _ => rfl)))))), ?_⟩
    -- _law_row, _law_whole = ([0] * (len(text) + 1), 1)
    refine ⟨by show 1 ≤ sizeLine; decide, fun a1 na1 => ?_⟩
    refine ⟨_, rfl, l, rfl, by omega, _, _, rfl, rfl, _, _, _, rfl, rfl, upd_same, by omega, by omega, by show 1 * _ ≤ _; rw [Nat.one_mul]; exact line_ok (by omega), fun a2 na2 => ?_⟩
    refine ⟨by show 2 ≤ sizeLine; decide, fun a3 na3 => ?_⟩
    have sA : Same H (upd (upd (upd H a1 (.lst [.int 0])) a2 (.lst (List.replicate ((l.length : Int) + 1).toNat [V.int 0]).flatten)) a3 (.tup [.ref a2, .int 1])) := snew (snew (same_new na1) na2) na3
    have n32 : a2 ≠ a3 := ne_of_none upd_same na3
    refine ⟨_, _, rfl, .inl (.inl upd_same), rfl, _, _, rfl, _, _, rfl, rfl, ?_⟩
    -- for _law_turn in range(size):
    refine ⟨_, rfl, _, rfl, by omega, by omega, for_it walk_range (fun i σ H4 => ∃ (ra : Addr) (x5 x6 x7 x8 x9 x10 : Option V), σ = [some (T a), some (.int n), some (T l), some (.ref ra), some (.int ((a.length : Int) ^ i)), x5, x6, x7, x8, x9, x10] ∧ Same H H4 ∧ H4 ra = some (.lst (rowV a l i))) ?start (fun _ _ _ _ _ => trivial) ?turn ?fin⟩
    case start =>
      refine ⟨a2, none, none, none, none, none, none, rfl, sA, ?_⟩
      rw [upd_ne n32, upd_same, rep_flat, show ((l.length : Int) + 1).toNat = l.length + 1 by omega]
      rfl
    case turn =>
      rintro i x σ H4 H5 hi ⟨ra, x5, x6, x7, x8, x9, x10, rfl, s4, e4⟩ ⟨rfl, rfl⟩
      rw [Int.toNat_natCast] at hi
      -- _law_later = []
      refine ⟨Nat.zero_le _, fun b1 nb1 => ?_⟩
      have nHb : H b1 = none := s4.free nb1
      -- for _law_at in range(len(text) + 1):
      refine ⟨_, rfl, l, rfl, by omega, _, _, rfl, rfl, _, rfl, by omega, by omega, for_it walk_range (fun j σ H6 => ∃ (y7 y8 y9 y10 : Option V), σ = [some (T a), some (.int n), some (T l), some (.ref ra), some (.int ((a.length : Int) ^ i)), some (.int (0 + (i : Int))), some (.ref b1), y7, y8, y9, y10] ∧ Same H5 H6 ∧ H6 b1 = some (.lst ((List.range j).map fun m => V.int (mis a l (i + 1) m)))) ?start2 (fun _ _ _ _ _ => trivial) ?turn2 ?fin2⟩
      case start2 => exact ⟨_, _, _, _, rfl, same_new nb1, upd_same⟩
      case turn2 =>
        rintro j x σ H6 H7 hj ⟨y7, y8, y9, y10, rfl, s6, e6⟩ ⟨rfl, rfl⟩
        have hj2 : j ≤ l.length := by omega
        -- _law_places = [text.find(letter, at) for letter in letters]
        refine ⟨_, rfl, _, rfl, fun D hD => ?_⟩
        refine lc_pure walk_txt (fun m => (a[m]?).map fun c => V.int (fnd l c j)) hD (fun _ _ => trivial) (by omega) (fun m y H8 H9 Qk Nk hm s8 hy hk hn' => ?_) (fun H8 s8 e8 => ?_)
        · obtain ⟨rfl, c, hc, rfl⟩ := hy
          refine ⟨rfl, yes_ (iteT ?_)⟩
          refine ⟨_, rfl, rfl, _, rfl, _, rfl, l, c, j, rfl, by show [T [c], V.int (0 + (j : Int))] = _; rw [Int.zero_add], fun r hr => ?_⟩
          exact hk _ _ (by rw [hc, fnd_of hr]; rfl) (Same.refl _)
        rw [fm_get] at e8
        have e6' := s8 _ _ e6
        have e4' : H8 ra = some (.lst (rowV a l i)) := s8 _ _ (s6 _ _ e4)
        -- _law_later.append(sum([..]))
        refine ⟨_, rfl, .inl ⟨rfl, _, SqL.of e6'⟩, _, rfl, D, rfl, ⟨_, SqL.of e8⟩, fun D2 hD2 => ?_⟩
        refine lc_pure (walk_list (xs := a.map fun c => V.int (fnd l c j))) (fun m => (a[m]?).map fun c => V.int (cellN a l i j c)) hD2 (fun H9 s9 => SqL.of (s9 _ _ e8)) (by rw [List.length_map]; omega) (fun m y H9 H10 Qk Nk hm s9 hy hk hn' => ?_) (fun H9 s9 e9 => ?_)
        · obtain ⟨rfl, hx⟩ := hy
          rw [List.length_map] at hm
          have ham : a[m]? = some a[m] := List.getElem?_eq_getElem hm
          rw [List.getElem?_map, ham] at hx
          have hx : V.int (fnd l a[m] j) = y := Option.some.inj hx
          subst hx
          refine ⟨rfl, yes_ (iteT ?_)⟩
          have e4'' : H10 ra = some (.lst (rowV a l i)) := s9 _ _ e4'
          refine ⟨_, rfl, _, _, rfl, rfl, _, rfl, ?_⟩
          cases hnx : nx l a[m] j with
          | some k =>
            have hkl : k < l.length := (List.getElem?_eq_some_iff.mp (nx_some hnx).2.1).1
            have ef : fnd l a[m] j = (k : Int) := by unfold fnd; rw [hnx]
            rw [ef, decide_eq_false (show ¬ ((k : Int) < 0) by omega)]
            refine iteF ⟨_, rfl, _, rfl, _, _, rfl, rfl, ra, rowV a l i, ((k + 1 : Nat) : Int), _, rfl, rfl, SqL.of e4'', atI_nat (rowV_at (by omega)), hk _ _ ?_ (Same.refl _)⟩
            rw [ham]
            show some (V.int (cellN a l i j a[m])) = _
            unfold cellN
            rw [hnx]
          | none =>
            have ef : fnd l a[m] j = -1 := by unfold fnd; rw [hnx]
            rw [ef, decide_eq_true (show (-1 : Int) < 0 by decide)]
            refine iteT ⟨_, rfl, hk _ _ ?_ (Same.refl _)⟩
            rw [ham]
            show some (V.int (cellN a l i j a[m])) = _
            unfold cellN
            rw [hnx]
        · rw [List.length_map, fm_get] at e9
          have e6'' := s9 _ _ e6'
          refine ⟨D2, a.map (cellN a l i j), rfl, SqL.of (by rw [List.map_map]; exact e9), b1, _, _, rfl, rfl, e6'', ?_, ?_⟩
          · rw [List.length_map, List.length_range]; exact line_lt (by omega)
          refine ⟨_, _, _, _, rfl, smut (s6.trans (s8.trans s9)) nb1, ?_⟩
          rw [upd_same, List.range_succ, List.map_append]
          rfl
      case fin2 =>
        rintro σ H6 ⟨y7, y8, y9, y10, rfl, s6, e6⟩
        rw [show ((l.length : Int) + 1).toNat = l.length + 1 by omega] at e6
        -- _law_row, _law_whole = (later, whole * len(letters))
        refine ⟨_, rfl, _, rfl, _, rfl, a, rfl, by omega, _, _, rfl, rfl, wide_mul (pow_small ha4 i) (b := 3) (by rw [Int.natAbs_natCast]; omega) (by omega) (by omega) (by omega), by show 2 ≤ sizeLine; decide, fun a4 na4 => ?_⟩
        refine ⟨_, _, rfl, .inl (.inl upd_same), rfl, _, _, rfl, _, _, rfl, rfl, ?_⟩
        exact ⟨b1, _, _, _, _, _, _, rfl, snew (s4.trans s6) na4, by rw [upd_ne (ne_of_none e6 na4)]; exact e6⟩
    case fin =>
      rintro σ H4 ⟨ra, x5, x6, x7, x8, x9, x10, rfl, s4, e4⟩
      rw [Int.toNat_natCast] at e4
      exact ⟨_, rfl, ra, _, 0, _, rfl, rfl, SqL.of e4, atI_nat (j := 0) (rowV_at (Nat.zero_le _)), q _ s4⟩
end
end K81

set_option Elab.async false
set_option linter.all false
set_option maxRecDepth 100000
set_option maxHeartbeats 4000000
namespace K81
open PySem PySem.Spec PyProof.Rows L2 Sk
section
variable {P : Program} {w : World} {K : PySem.W.Frag} {mg : Str → Option Value} {base : Heap}
def sp_l_alphabet : Sp := fun vs H Q _ => ∃ (g : Addr) (n : Nat), vs = [.ref g] ∧ Gen (n + 30) H g ∧ ∀ (a : List Nat) H', K81.IsAl a → But g H H' → Gen n H' g → Q (T a) H'
theorem ok_l_alphabet (F : Facts fa fn K mg) (c_l_size : Callee P w K mg base 3 "_law_size" p_l_size sp_l_size) (c_l_random : Callee P w K mg base 2 "_law_random" p_l_random sp_l_random) : Callee P w K mg base 4 "_law_alphabet" p_l_alphabet sp_l_alphabet := by
  refine F.callee 18 18 sc_l_alphabet (fun vs H Q E h => ?_) (fun _ _ _ _ _ _ us hl => match us, hl with | [_], _ => rfl) (fun f cdv A outer t0 H vs Q E hg hr h => ?_)
  · obtain ⟨g, n, rfl, hG, q⟩ := h
    rfl
  · obtain ⟨g, n, rfl, hG, q⟩ := h
    refine ⟨_, (pss_cons (ps_set (i := 1) sc_l_alphabet.nd rfl (by first | exact Or.inl rfl | exact Or.inr rfl) (pe_callTy (call_listT rfl) (by rfl) (F.free 30) (by decide +kernel) (pa_cons (pe_txt [97, 98, 99, 100, 101, 102, 103, 104, 105, 106, 107, 108, 109, 110, 111, 112, 113, 114, 115, 116, 117, 118, 119, 120, 121, 122]) pa_nil)))
      (pss_cons (ps_set (i := 2) sc_l_alphabet.nd rfl (by first | exact Or.inl rfl | exact Or.inr rfl) (pe_cal c_l_size hg (hr.mono (by decide)) (pa_cons (pv 0) (pa_cons pe_int (pa_cons pe_int pa_nil)))))
      (pss_one (ps_ret (k_bm K PySem.F.plainAttrs_str PySem.F.slot_str_join PySem.F.type_str_join (k_join K) (pe_txt []) (pa_cons (pe_callB (k_sort K) (by rfl) (F.free 34) (by decide +kernel) (pa_cons (pe_lc (own := [("_law_turn", 3)]) rfl sc_l_alphabet.nd (pi_range1 (by rfl) (F.free 32) (pa_cons (pv 2) pa_nil)) (blkOk_by (by kernel_rfl)) (fun _ _ _ _ _ => (pg_name (i := 3) sc_l_alphabet.nd rfl (by first | exact Or.inl rfl | exact Or.inr rfl))) (fun _ _ _ _ _ => pts_nil) (fun _ _ _ _ _ => (k_bm K PySem.F.plainAttrs_list PySem.F.slot_list_pop PySem.F.type_list_pop mt_popAt (pv 1) (pa_cons (pe_cal c_l_random hg (hr.mono (by decide)) (pa_cons (pv 0) (pa_cons (pe_callB (k_len K) (by rfl) (F.free 29) (by decide +kernel) (pa_cons (pv 1) pa_nil)) pa_nil))) pa_nil)))) pa_nil)) pa_nil)))))), ?_⟩
    -- _law_left = list('abc..')
    refine ⟨_, rfl, by decide, fun p np => ?_⟩
    have npg : p ≠ g := hG.ne np
    -- _law_many = _law_size(g, 1, 4)
    refine ⟨_, rfl, g, 1, 4, n + 25, rfl, by decide, by decide, hG.same (same_new np), fun m H1 m0 m1 b1 g1 => ?_⟩
    obtain ⟨m, rfl⟩ : ∃ k : Nat, m = (k : Int) := ⟨m.toNat, by omega⟩
    have e1 : H1 p = some (.lst (abcL.map fun c => T [c])) := b1 _ _ npg upd_same
    have bt1 : But g H H1 := (But.of (same_new np)).trans b1
    refine ⟨rfl, _, rfl, _, rfl, by omega, by omega, fun D hD => ?_⟩
    have nDg : D ≠ g := g1.ne hD
    have nDp : p ≠ D := ne_of_none e1 hD
    have nHD : H D = none := bt1.free nDg hD
    rw [Int.toNat_natCast]
    refine lc_it walk_range (fun i H2 => But g H H2 ∧ Gen (n + 25 - 5 * i) H2 g ∧ ∃ ls rem : List Nat, ls.length = i ∧ (ls ++ rem).Perm abcL ∧ H2 p = some (.lst (rem.map fun c => T [c])) ∧ H2 D = some (.lst (ls.map fun c => T [c]))) ?start (fun _ _ _ _ => trivial) ?turn ?fin
    case start => exact ⟨bt1.mut nHD, g1.same (same_new hD), [], abcL, rfl, List.Perm.refl _, by rw [upd_ne nDp]; exact e1, upd_same⟩
    case turn =>
      rintro i x H2 H3 hi ⟨b2, g2, ls, rem, hl, hp, ep, eD⟩ ⟨rfl, rfl⟩
      have hlen : rem.length = 26 - i := by
        have := hp.length_eq
        rw [List.length_append, hl] at this
        have h26 : abcL.length = 26 := rfl
        omega
      refine ⟨rfl, yes_ (iteT ?_)⟩
      refine ⟨_, rfl, .inl ⟨rfl, _, SqL.of ep⟩, _, rfl, _, rfl, p, _, rfl, SqL.of ep, g, _, n + 25 - 5 * (i + 1), rfl, by rw [List.length_map]; omega, b119 (by rw [List.length_map]; omega), g2.less (by omega), fun r H4 r0 r1 b4 g4 => ?_⟩
      rw [List.length_map] at r1
      obtain ⟨r, rfl⟩ : ∃ k : Nat, r = (k : Int) := ⟨r.toNat, by omega⟩
      have hr : r < rem.length := by omega
      have ep4 := b4 _ _ npg ep
      have eD4 := b4 _ _ nDg eD
      refine ⟨p, _, (r : Int), r, T [rem[r]], rfl, rfl, ep4, by omega, by omega, ?_, ?_, ?_⟩
      · rw [List.length_map]; exact seq_nat hr
      · rw [List.getElem?_map, List.getElem?_eq_getElem hr]; rfl
      rw [map_erase]
      refine ⟨_, by rw [upd_ne nDp.symm]; exact eD4, ?_, ?_, ?_, ls ++ [rem[r]], rem.eraseIdx r, by rw [List.length_append, hl]; rfl, ?_, ?_, ?_⟩
      · rw [List.length_map]; exact line_lt (by omega)
      · exact ((b2.trans b4).mut np).mut nHD
      · obtain ⟨x1, x2, x3, ex, rx⟩ := g4
        exact ⟨x1, x2, x3, by rw [upd_ne nDg.symm, upd_ne npg.symm]; exact ex, rx⟩
      · have h1 : (ls ++ [rem[r]] ++ rem.eraseIdx r).Perm (ls ++ rem) := by
          rw [List.append_assoc]
          exact (erase_perm rem r hr).append_left ls
        exact h1.trans hp
      · rw [upd_ne nDp, upd_same]
      · rw [upd_same, List.map_append]; rfl
    case fin =>
      rintro H2 ⟨b2, g2, ls, rem, hl, hp, ep, eD⟩
      have eT : (ls.map fun c => T [c]) = (ls.map fun c => [c]).map T := by rw [List.map_map]; rfl
      rw [eT] at eD
      -- sorted(..)
      refine ⟨D, _, rfl, SqL.of eD, by rw [List.length_map]; omega, fun ms a4 hpm hso na4 => ?_⟩
      obtain ⟨hal, hml⟩ := sorted_al hp hpm hso (by omega)
      have hms : (ms.map (·.length)).sum + ms.length * 0 ≤ 1000000 := by
        have := List.length_flatten (L := ms)
        show (ms.map List.length).sum + _ ≤ _
        omega
      refine ⟨_, a4, ms, rfl, rfl, SqL.of upd_same, hms, ?_⟩
      rw [joinL_nil]
      exact q _ _ ⟨hal.abc, hal.one, by omega, hal.up⟩ (b2.new na4) (g2.same (same_new na4) |>.less (by omega))
def sp_l_full_text : Sp := fun vs H Q _ => ∃ (g : Addr) (a : List Nat) (m n : Nat), vs = [.ref g, T a, .int m] ∧ a ≠ [] ∧ a.length ≤ 4 ∧ 1 ≤ m ∧ m ≤ 100 ∧ Gen (n + 30 * m + 40) H g ∧
  ∀ (t : List Nat) H', (∀ c ∈ t, c ∈ a) → t.length ≤ 6 * m + 3 → But g H H' → Gen n H' g → Q (T t) H'
theorem ok_l_full_text (F : Facts fa fn K mg) (c_l_random : Callee P w K mg base 2 "_law_random" p_l_random sp_l_random) (c_l_text : Callee P w K mg base 4 "_law_text" p_l_text sp_l_text) : Callee P w K mg base 5 "_law_full_text" p_l_full_text sp_l_full_text := by
  refine F.callee 19 19 sc_l_full_text (fun vs H Q E h => ?_) (fun _ _ _ _ _ _ us hl => match us, hl with | [_, _, _], _ => rfl) (fun f cdv A outer t0 H vs Q E hg hr h => ?_)
  · obtain ⟨g, a, m, n, rfl, hne, ha, hm1, hm, hG, q⟩ := h
    rfl
  · obtain ⟨g, a, m, n, rfl, hne, ha, hm1, hm, hG, q⟩ := h
    refine ⟨_, (pss_cons (ps_set (i := 3) sc_l_full_text.nd rfl (by first | exact Or.inl rfl | exact Or.inr rfl) (pe_txt []))
      (pss_cons (ps_for PassesOwn.never rfl (pi_range1 (by rfl) (F.free 32) (pa_cons (pe_op op_add (pe_cal c_l_random hg (hr.mono (by decide)) (pa_cons (pv 0) (pa_cons (pv 2) pa_nil))) pe_int) pa_nil)) (pg_name (i := 4) sc_l_full_text.nd rfl (by first | exact Or.inl rfl | exact Or.inr rfl))
      (pss_cons (ps_set (i := 5) sc_l_full_text.nd rfl (by first | exact Or.inl rfl | exact Or.inr rfl) (pe_cal c_l_random hg (hr.mono (by decide)) (pa_cons (pv 0) (pa_cons pe_int pa_nil))))
      (pss_cons (ps_set (i := 6) sc_l_full_text.nd rfl (by first | exact Or.inl rfl | exact Or.inr rfl) (pe_ix (k_ixl K) (pe_lst (pa_cons (pv 1) (pa_cons (pe_revT (pv 1)) (pa_cons (pe_op op_addT (pe_slice sl_txt (pv 1) (po_some pe_int) po_none) (pe_slice sl_txt (pv 1) po_none (po_some pe_int))) pa_nil)))) (pv 5) (fun _ _ => rfl)))
      (pss_one (ps_set (i := 3) sc_l_full_text.nd rfl (by first | exact Or.inl rfl | exact Or.inr rfl) (pe_op op_addT (pe_op op_addT (pv 3) (pv 6)) (pe_cal c_l_text hg (hr.mono (by decide)) (pa_cons (pv 0) (pa_cons (pv 1) (pa_cons pe_int (pa_cons pe_int pa_nil)))))))))))
      (pss_one (ps_ret (pe_op op_addT (pv 3) (pe_cal c_l_text hg (hr.mono (by decide)) (pa_cons (pv 0) (pa_cons (pv 1) (pa_cons pe_int (pa_cons pe_int pa_nil)))))))))), ?_⟩
    -- for _law_turn in range(random(g, most) + 1):
    refine ⟨_, rfl, _, rfl, g, (m : Int), n + 30 * m + 35, rfl, by omega, b119 (by omega), hG, fun r H1 r0 r1 b1 g1 => ?_⟩
    refine ⟨_, _, rfl, rfl, _, rfl, by omega, by omega, for_it walk_range (fun i σ H2 => ∃ (t : List Nat) (x4 x5 x6 : Option V), σ = [some (.ref g), some (T a), some (.int m), some (T t), x4, x5, x6] ∧ (∀ c ∈ t, c ∈ a) ∧ t.length ≤ 6 * i ∧ But g H H2 ∧ Gen (n + 30 * m + 35 - 30 * i) H2 g) ?start (fun _ _ _ _ _ => trivial) ?turn ?fin⟩
    case start => exact ⟨[], none, none, none, rfl, fun c hc => (by cases hc), Nat.zero_le _, b1, g1⟩
    case turn =>
      rintro i x σ H2 H3 hi ⟨t, x4, x5, x6, rfl, ht, htl, b2, g2⟩ ⟨rfl, rfl⟩
      have him : i < m := by omega
      -- _law_way = random(g, 3)
      refine ⟨_, rfl, g, 3, n + 30 * m + 35 - 30 * i - 5, rfl, by decide, by decide, g2.less (by omega), fun wy H4 w0 w1 b4 g4 => ?_⟩
      -- _law_part = [..][way]
      refine ⟨_, rfl, _, rfl, a, rfl, by omega, _, rfl, _, rfl, a, rfl, by omega, _, rfl, _, rfl, a, rfl, by omega, _, _, rfl, rfl, ?_, by show 3 ≤ sizeLine; decide, fun a5 na5 => ?_⟩
      · unfold cutL
        rw [List.length_take, List.length_drop, List.length_take, List.length_drop]
        omega
      have hc1 : cutL a (some 1) none = a.drop 1 := cut_from a 1
      have hc2 : cutL a none (some 1) = a.take 1 := cut_to a 1
      rw [hc1, hc2]
      have hpart : ∃ pt : List Nat, atI [T a, T a.reverse, T (a.drop 1 ++ a.take 1)] wy = some (T pt) ∧ (∀ c ∈ pt, c ∈ a) ∧ pt.length ≤ 4 := by
        have h3 : wy = 0 ∨ wy = 1 ∨ wy = 2 := by omega
        rcases h3 with e | e | e
        · subst e
          exact ⟨a, rfl, fun c hc => hc, ha⟩
        · subst e
          exact ⟨a.reverse, rfl, fun c hc => List.mem_reverse.mp hc, by rw [List.length_reverse]; exact ha⟩
        · subst e
          refine ⟨_, rfl, fun c hc => ?_, ?_⟩
          · rcases List.mem_append.mp hc with z | z
            · exact List.mem_of_mem_drop z
            · exact List.mem_of_mem_take z
          · rw [List.length_append, List.length_drop, List.length_take]
            omega
      obtain ⟨pt, hat, hpt, hpl⟩ := hpart
      refine ⟨_, rfl, a5, _, wy, _, rfl, rfl, SqL.of upd_same, hat, ?_⟩
      -- text = text + part + _law_text(g, letters, 0, 2)
      refine ⟨_, rfl, _, rfl, _, _, rfl, rfl, by omega, _, rfl, _, rfl, g, a, 0, 2, n + 30 * m + 35 - 30 * (i + 1), rfl, hne, by omega, by omega, by omega, (g4.same (same_new na5)).less (by omega), fun u H5 hu u0 u1 b5 g5 => ?_⟩
      refine ⟨_, _, rfl, rfl, by rw [List.length_append]; omega, ?_⟩
      refine ⟨_, _, _, _, rfl, fun c hc => ?_, ?_, b2.trans (b4.trans ((But.of (same_new na5)).trans b5)), g5⟩
      · rcases List.mem_append.mp hc with z | z
        · rcases List.mem_append.mp z with z | z
          · exact ht c z
          · exact hpt c z
        · exact hu c z
      · rw [List.length_append, List.length_append]; omega
    case fin =>
      rintro σ H2 ⟨t, x4, x5, x6, rfl, ht, htl, b2, g2⟩
      -- return text + _law_text(g, letters, 0, 3)
      refine ⟨_, rfl, _, rfl, _, rfl, g, a, 0, 3, n, rfl, hne, by omega, by omega, by omega, g2.less (by omega), fun u H5 hu u0 u1 b5 g5 => ?_⟩
      refine ⟨_, _, rfl, rfl, by omega, ?_⟩
      refine q _ _ (fun c hc => ?_) (by rw [List.length_append]; omega) (b2.trans b5) g5
      rcases List.mem_append.mp hc with z | z
      · exact ht c z
      · exact hu c z
end
end K81

set_option Elab.async false
set_option linter.all false
set_option maxRecDepth 100000
set_option maxHeartbeats 4000000
namespace K81
open PySem PySem.Spec PyProof.Rows L2 Sk
/-! ### plain facts of arches and of words that are read -/
theorem archF_join (a : List Nat) : ∀ l now : List Nat, (archF a now l).1.flatten ++ (archF a now l).2 = now ++ l
  | [], now => by
    show [].flatten ++ now = now ++ []
    simp
  | c :: r, now => by
    by_cases h : ∀ x ∈ a, x ∈ now ++ [c]
    · rw [archF_yes h]
      show ((now ++ [c]) :: (archF a [] r).1).flatten ++ (archF a [] r).2 = _
      rw [List.flatten_cons, List.append_assoc, archF_join a r []]
      simp
    · rw [archF_no h, archF_join a r]
      simp
/-- an arch: has all, and has not without its last -/
structure Arch (a w : List Nat) : Prop where
  all : ∀ x ∈ a, x ∈ w
  last : ∃ d c, w = d ++ [c] ∧ ¬ ∀ x ∈ a, x ∈ d
theorem archF_ok (a : List Nat) (ha : a ≠ []) : ∀ l now : List Nat, (¬ ∀ x ∈ a, x ∈ now) → (∀ w ∈ (archF a now l).1, Arch a w) ∧ ¬ ∀ x ∈ a, x ∈ (archF a now l).2
  | [], now, h => ⟨fun w hw => (by cases hw), h⟩
  | c :: r, now, h => by
    by_cases hy : ∀ x ∈ a, x ∈ now ++ [c]
    · rw [archF_yes hy]
      obtain ⟨i1, i2⟩ := archF_ok a ha r [] (by
        obtain ⟨x, hx⟩ := List.exists_mem_of_ne_nil a ha
        intro z
        cases z x hx)
      refine ⟨fun w hw => ?_, i2⟩
      rcases List.mem_cons.mp hw with e | e
      · subst e
        exact ⟨hy, now, c, rfl, h⟩
      · exact i1 w e
    · rw [archF_no hy]
      exact archF_ok a ha r _ hy
theorem lack0 {a : List Nat} (ha : a ≠ []) : ¬ ∀ x ∈ a, x ∈ ([] : List Nat) := by
  obtain ⟨x, hx⟩ := List.exists_mem_of_ne_nil a ha
  intro z
  cases z x hx
theorem rd_iff : ∀ (l w : List Nat), rd w l = true ↔ w.Sublist l
  | [], [] => by unfold rd; simp
  | [], c :: w => by unfold rd; simp
  | x :: l, [] => by unfold rd; simp
  | x :: l, c :: w => by
    rw [rd]
    by_cases e : c = x
    · subst e
      rw [if_pos rfl, rd_iff l w, List.cons_sublist_cons]
    · rw [if_neg e, rd_iff l (c :: w), List.sublist_cons_iff]
      constructor
      · exact .inl
      · rintro (z | ⟨r, z, _⟩)
        · exact z
        · injection z with z
          exact absurd z e
theorem arch_sub (a : List Nat) : ∀ (Ls : List (List Nat)) (w : List Nat), (∀ A ∈ Ls, ∀ x ∈ a, x ∈ A) → (∀ c ∈ w, c ∈ a) → w.length ≤ Ls.length → w.Sublist Ls.flatten
  | Ls, [], _, _, _ => List.nil_sublist _
  | [], c :: w, _, _, h => by
    rw [List.length_cons, List.length_nil] at h
    omega
  | A :: Ls, c :: w, hA, hw, h => by
    rw [List.flatten_cons]
    have h1 : [c].Sublist A := List.singleton_sublist.mpr (hA A List.mem_cons_self c (hw c List.mem_cons_self))
    exact h1.append (arch_sub a Ls w (fun B hB => hA B (List.mem_cons_of_mem _ hB)) (fun d hd => hw d (List.mem_cons_of_mem _ hd)) (by simpa using h))
theorem rd_short {a l w : List Nat} (ha : a ≠ []) (hw : ∀ c ∈ w, c ∈ a) (h : w.length ≤ (archF a [] l).1.length) : rd w l = true := by
  rw [rd_iff]
  have h1 := arch_sub a (archF a [] l).1 w (fun A hA => ((archF_ok a ha l [] (lack0 ha)).1 A hA).all) hw h
  have h2 := archF_join a l []
  rw [List.nil_append] at h2
  rw [← h2]
  exact h1.trans (List.sublist_append_left _ _)
theorem rd_skip {c : Nat} {w : List Nat} : ∀ {d l : List Nat}, c ∉ d → rd (c :: w) (d ++ c :: l) = rd w l
  | [], l, _ => by
    rw [List.nil_append, rd, if_pos rfl]
  | x :: d, l, h => by
    rw [List.cons_append, rd, if_neg (fun e => h (by rw [e]; exact List.mem_cons_self))]
    exact rd_skip fun z => h (List.mem_cons_of_mem _ z)
theorem rd_one {c : Nat} : ∀ {r : List Nat}, c ∉ r → rd [c] r = false
  | [], _ => by unfold rd; rfl
  | x :: r, h => by
    rw [rd, if_neg (fun e => h (by rw [e]; exact List.mem_cons_self))]
    exact rd_one fun z => h (List.mem_cons_of_mem _ z)
theorem lost (a : List Nat) (r : List Nat) (hr : ¬ ∀ x ∈ a, x ∈ r) : ∀ Ls : List (List Nat), (∀ A ∈ Ls, Arch a A) → ∃ w, w.length = Ls.length + 1 ∧ (∀ c ∈ w, c ∈ a) ∧ rd w (Ls.flatten ++ r) = false
  | [], _ => by
    obtain ⟨c, hc⟩ := Classical.not_forall.mp hr
    rw [Classical.not_imp] at hc
    refine ⟨[c], rfl, fun d hd => ?_, ?_⟩
    · rw [List.mem_singleton.mp hd]; exact hc.1
    · exact rd_one hc.2
  | A :: Ls, h => by
    obtain ⟨w, w1, w2, w3⟩ := lost a r hr Ls fun B hB => h B (List.mem_cons_of_mem _ hB)
    obtain ⟨hall, d, c, rfl, hd⟩ := h A List.mem_cons_self
    obtain ⟨x, hx⟩ := Classical.not_forall.mp hd
    rw [Classical.not_imp] at hx
    have hxc : x = c := by
      rcases List.mem_append.mp (hall x hx.1) with z | z
      · exact absurd z hx.2
      · exact List.mem_singleton.mp z
    subst hxc
    refine ⟨x :: w, by rw [List.length_cons, w1, List.length_cons], fun e he => ?_, ?_⟩
    · rcases List.mem_cons.mp he with z | z
      · rw [z]; exact hx.1
      · exact w2 e z
    · rw [List.flatten_cons, List.append_assoc, List.append_assoc]
      show rd (x :: w) (d ++ x :: (Ls.flatten ++ r)) = false
      rw [rd_skip hx.2]
      exact w3
theorem mem_wdf (a : List Nat) : ∀ (w : List Nat) (n : Nat), w.length = n → (∀ c ∈ w, c ∈ a) → w ∈ wdf a n
  | [], n, h, _ => by
    subst h
    exact List.mem_singleton.mpr rfl
  | c :: w, n, h, hw => by
    subst h
    show c :: w ∈ a.flatMap fun c => (wdf a w.length).map fun w => c :: w
    exact List.mem_flatMap.mpr ⟨c, hw c List.mem_cons_self, List.mem_map.mpr ⟨w, mem_wdf a w _ rfl (fun d hd => hw d (List.mem_cons_of_mem _ hd)), rfl⟩⟩
theorem miss_len (a l : List Nat) (n : Nat) : ((((wds a n).filter fun w => !rd w l).length : Nat) : Int) = mis a l n 0 := by
  rw [wds_wdf]
  exact mis_count a l n 0
theorem miss_nil {a l : List Nat} (ha : a ≠ []) : ((wds a (archF a [] l).1.length).filter fun w => !rd w l) = [] := by
  rw [List.filter_eq_nil_iff]
  intro w hw
  obtain ⟨h1, h2⟩ := wds_word a _ w hw
  rw [rd_short ha h2 (by omega)]
  decide
theorem mis_zero {a l : List Nat} (ha : a ≠ []) : mis a l (archF a [] l).1.length 0 = 0 := by
  rw [← miss_len, miss_nil ha]
  rfl
theorem miss_ne {a l : List Nat} (ha : a ≠ []) : ((wds a ((archF a [] l).1.length + 1)).filter fun w => !rd w l) ≠ [] := by
  obtain ⟨hk1, hk2⟩ := archF_ok a ha l [] (lack0 ha)
  obtain ⟨w, w1, w2, w3⟩ := lost a (archF a [] l).2 hk2 (archF a [] l).1 hk1
  have h2 := archF_join a l []
  rw [List.nil_append] at h2
  rw [h2] at w3
  intro z
  have : w ∈ ((wds a ((archF a [] l).1.length + 1)).filter fun w => !rd w l) := by
    rw [List.mem_filter, wds_wdf, w3]
    exact ⟨mem_wdf a w _ w1 w2, rfl⟩
  rw [z] at this
  cases this
theorem mis_pos {a l : List Nat} (ha : a ≠ []) : 0 < mis a l ((archF a [] l).1.length + 1) 0 := by
  have := List.length_pos_iff.mpr (miss_ne (l := l) ha)
  rw [← miss_len]
  omega
theorem arch_small (a : List Nat) (ha : a ≠ []) (l : List Nat) : (archF a [] l).1.length * a.length ≤ l.length * a.length ∧ (archF a [] l).1.length ≤ l.length := by
  have h2 := archF_join a l []
  rw [List.nil_append] at h2
  have h3 : ∀ Ls : List (List Nat), (∀ A ∈ Ls, Arch a A) → Ls.length ≤ Ls.flatten.length := by
    intro Ls
    induction Ls with
    | nil => intro _; exact Nat.zero_le _
    | cons A r ih =>
      intro h
      have := ih fun B hB => h B (List.mem_cons_of_mem _ hB)
      obtain ⟨hall, d, c, rfl, hd⟩ := h A List.mem_cons_self
      rw [List.flatten_cons, List.length_append, List.length_append, List.length_cons, List.length_singleton]
      omega
  have h4 := h3 _ (archF_ok a ha l [] (lack0 ha)).1
  have h5 : (archF a [] l).1.length ≤ l.length := by
    have h6 := congrArg List.length h2
    rw [List.length_append] at h6
    omega
  exact ⟨Nat.mul_le_mul_right _ h5, h5⟩
theorem lit1 : archF [97, 98] [] [97, 98, 98, 97, 98, 97, 97] = ([[97, 98], [98, 97], [98, 97]], [97]) := by decide +kernel
theorem lit2 : mis [97, 98] [97, 98, 98, 97, 98, 97, 97] 4 0 = 5 := by decide +kernel
theorem lit3 : archF [97] [] [97, 97, 97] = ([[97], [97], [97]], []) := by decide +kernel
theorem lit4 : mis [97] [97, 97, 97] 4 0 = 1 := by decide +kernel
theorem lit5 : (archF [97, 98] [] (List.replicate 150 [97, 98]).flatten).1.length = 150 := by decide +kernel
end K81

set_option Elab.async false
set_option linter.all false
set_option maxRecDepth 100000
set_option maxHeartbeats 4000000
namespace K81
open PySem PySem.Spec PyProof.Rows L2 Sk
theorem fm_none {α β : Type} (L : List α) (f : α → Option β) (h : ∀ x ∈ L, f x = none) : L.filterMap f = [] := List.filterMap_eq_nil_iff.mpr h
theorem ne_nil0 {K : PySem.W.Frag} {H : Hp} {Q : VK} {a b : Addr} (h : SqL K H a []) (hb : SqL K H b []) (q : Q (.bl false) H) : rNeD K (.ref a) (.ref b) H Q := ne_nil h (fun x hx => by cases hx) hb (by rw [decide_eq_true rfl]; exact q)
section
variable {P : Program} {w : World} {K : PySem.W.Frag} {mg : Str → Option Value} {base : Heap}
def sp_l_arches_right : Sp := fun vs H Q _ => ∃ a l, vs = [T a, T l] ∧ IsAl a ∧ l.length ≤ 10000 ∧ (∀ c ∈ l, c ∈ a) ∧ ∀ H', Same H H' → Q (.int ((archF a [] l).1.length : Nat)) H'
theorem ok_l_arches_right (F : Facts fa fn K mg) (c_arches : Callee P w K mg base 5 "arches" p_arches sp_arches) (c_l_has_all : Callee P w K mg base 1 "_law_has_all" p_l_has_all sp_l_has_all) : Callee P w K mg base 6 "_law_arches_right" p_l_arches_right sp_l_arches_right := by
  refine F.callee 21 21 sc_l_arches_right (fun vs H Q E h => ?_) (fun _ _ _ _ _ _ us hl => match us, hl with | [_, _], _ => rfl) (fun f cdv A outer t0 H vs Q E hg hr h => ?_)
  · obtain ⟨a, l, rfl, al, hl, hc, q⟩ := h
    rfl
  · obtain ⟨a, l, rfl, al, hl, hc, q⟩ := h
    refine ⟨_, (pss_cons (ps_set (i := 2) sc_l_arches_right.nd rfl (by first | exact Or.inl rfl | exact Or.inr rfl) (pe_cal c_arches hg (hr.mono (by decide)) (pa_cons (pv 0) (pa_cons (pv 1) pa_nil))))
      (pss_cons (ps_if (PW.pt (pw_or (pt_not (pt_val (pe_callB (k_isi K) (by rfl) (F.free 28) (by decide +kernel) (pa_cons (pv 2) (pa_cons (pe_bltn (v := .ty "tuple") (by rfl) (F.free 37) (by decide +kernel) rfl) pa_nil))))) (pw_or (pt_cmpR op_ne (pe_callB (k_lent K) (by rfl) (F.free 29) (by decide +kernel) (pa_cons (pv 2) pa_nil)) pe_int (nomark _)) (pw_or1 (pt_not (pt_val (pe_callB (k_isi K) (by rfl) (F.free 28) (by decide +kernel) (pa_cons (pe_ix (k_ixt K) (pv 2) pe_int (fun _ _ => rfl)) (pa_cons (pe_bltn (v := .ty "list") (by rfl) (F.free 30) (by decide +kernel) rfl) pa_nil))))))))) (pss_one (ps_ret pe_non))
      pss_nil)
      (pss_cons (ps_if (PW.pt (pw_or (pt_cmpR (k_ne K hr.units) (pe_lc (own := [("_law_arch", 4)]) rfl sc_l_arches_right.nd (k_pil K (pe_ix (k_ixt K) (pv 2) pe_int (fun _ _ => rfl))) (blkOk_by (by kernel_rfl)) (fun _ _ _ _ _ => (pg_name (i := 4) sc_l_arches_right.nd rfl (by first | exact Or.inl rfl | exact Or.inr rfl))) (fun _ _ _ _ _ => (pts_one (pt_not (pt_val (pe_callB (k_isi K) (by rfl) (F.free 28) (by decide +kernel) (pa_cons (pv 4) (pa_cons (pe_bltn (v := .ty "str") (by rfl) (F.free 35) (by decide +kernel) rfl) pa_nil))))))) (fun _ _ _ _ _ => (pv 4))) (pe_lst pa_nil) (nomark _)) (pw_or1 (pt_cmpR op_neT (pe_op op_addT (k_bm K PySem.F.plainAttrs_str PySem.F.slot_str_join PySem.F.type_str_join (k_join K) (pe_txt []) (pa_cons (pe_ix (k_ixt K) (pv 2) pe_int (fun _ _ => rfl)) pa_nil)) (pe_ix (k_ixt K) (pv 2) pe_int (fun _ _ => rfl))) (pv 1) (nomark _))))) (pss_one (ps_ret pe_non))
      pss_nil)
      (pss_cons (ps_if (pt_cmpR (k_ne K hr.units) (pe_lc (own := [("_law_arch", 4)]) rfl sc_l_arches_right.nd (k_pil K (pe_ix (k_ixt K) (pv 2) pe_int (fun _ _ => rfl))) (blkOk_by (by kernel_rfl)) (fun _ _ _ _ _ => (pg_name (i := 4) sc_l_arches_right.nd rfl (by first | exact Or.inl rfl | exact Or.inr rfl))) (fun _ _ _ _ _ => (pts_one (pt_not (pt_val (pe_cal c_l_has_all hg (hr.mono (by decide)) (pa_cons (pv 0) (pa_cons (pv 4) pa_nil))))))) (fun _ _ _ _ _ => (pv 4))) (pe_lst pa_nil) (nomark _)) (pss_one (ps_ret pe_non))
      pss_nil)
      (pss_cons (ps_if (pt_cmpR (k_ne K hr.units) (pe_lc (own := [("_law_arch", 4)]) rfl sc_l_arches_right.nd (k_pil K (pe_ix (k_ixt K) (pv 2) pe_int (fun _ _ => rfl))) (blkOk_by (by kernel_rfl)) (fun _ _ _ _ _ => (pg_name (i := 4) sc_l_arches_right.nd rfl (by first | exact Or.inl rfl | exact Or.inr rfl))) (fun _ _ _ _ _ => (pts_one (pt_val (pe_cal c_l_has_all hg (hr.mono (by decide)) (pa_cons (pv 0) (pa_cons (pe_slice sl_txt (pv 4) po_none (po_some (pe_op op_sub (pe_callB call_lenT (by rfl) (F.free 29) (by decide +kernel) (pa_cons (pv 4) pa_nil)) pe_int))) pa_nil)))))) (fun _ _ _ _ _ => (pv 4))) (pe_lst pa_nil) (nomark _)) (pss_one (ps_ret pe_non))
      pss_nil)
      (pss_cons (ps_if (pt_val (pe_cal c_l_has_all hg (hr.mono (by decide)) (pa_cons (pv 0) (pa_cons (pe_ix (k_ixt K) (pv 2) pe_int (fun _ _ => rfl)) pa_nil)))) (pss_one (ps_ret pe_non))
      pss_nil)
      (pss_cons (ps_set (i := 3) sc_l_arches_right.nd rfl (by first | exact Or.inl rfl | exact Or.inr rfl) (pe_callB (k_len K) (by rfl) (F.free 29) (by decide +kernel) (pa_cons (pe_ix (k_ixt K) (pv 2) pe_int (fun _ _ => rfl)) pa_nil)))
      (pss_cons (ps_expr (k_bm K PySem.F.plainAttrs_list PySem.F.slot_list_append PySem.F.type_list_append mt_append (pe_ix (k_ixt K) (pv 2) pe_int (fun _ _ => rfl)) (pa_cons (pe_txt [115, 112, 111, 105, 108, 116]) pa_nil)))
      (pss_one (ps_ret (pe_ifExp (pt_cmpR op_eq (pe_callB (k_len K) (by rfl) (F.free 29) (by decide +kernel) (pa_cons (pe_ix (k_ixt K) (pe_cal c_arches hg (hr.mono (by decide)) (pa_cons (pv 0) (pa_cons (pv 1) pa_nil))) pe_int (fun _ _ => rfl)) pa_nil)) (pv 3) (nomark _)) (pv 3) pe_non))))))))))), ?_⟩
    have hne : a ≠ [] := by
      intro z
      have := al.one
      rw [z] at this
      cases this
    have hlow := al.low
    obtain ⟨hk1, hk2⟩ := archF_ok a hne l [] (lack0 hne)
    have hjoin : (archF a [] l).1.flatten ++ (archF a [] l).2 = l := archF_join a l []
    have hsm := (arch_small a hne l).2
    -- told = arches(letters, text)
    refine ⟨_, rfl, _, rfl, a, l, rfl, al, by omega, hc, fun H1 p r s1 nr ep er => ?_⟩
    generalize hLs : (archF a [] l).1 = Ls at *
    generalize hre : (archF a [] l).2 = re at *
    have hlL : ∀ A ∈ Ls, Low A ∧ A.length ≤ 10000 := by
      intro A hA
      have h1 : ∀ c ∈ A, c ∈ l := fun c hc' => by
        rw [← hjoin]
        exact List.mem_append_left _ (List.mem_flatten.mpr ⟨A, hA, hc'⟩)
      refine ⟨fun c hc' => hlow c (hc c (h1 c hc')), ?_⟩
      have h2 := congrArg List.length hjoin
      rw [List.length_append] at h2
      have h3 : A.length ≤ Ls.flatten.length := (List.sublist_flatten_of_mem hA).length_le
      omega
    have hfl : Ls.flatten.length ≤ 10000 := by
      have h2 := congrArg List.length hjoin
      rw [List.length_append] at h2
      omega
    have hsum : (Ls.map (·.length)).sum + Ls.length * 0 ≤ 1000000 := by
      have := List.length_flatten (L := Ls)
      show (Ls.map List.length).sum + _ ≤ _
      omega
    have hrl : re.length ≤ 10000 := by
      have h2 := congrArg List.length hjoin
      rw [List.length_append] at h2
      omega
    -- if not isinstance(told, tuple) or len(told) != 2 or not isinstance(told[0], list):
    refine ⟨_, rfl, _, _, _, _, _, rfl, .ty _, .base (.tup ep), kit_ty (r := true) (by decide +kernel), _, rfl, iteF ?_⟩
    refine ⟨_, rfl, p, _, rfl, SqT.of ep, rfl, false, rfl, iteF ?_⟩
    refine ⟨_, rfl, p, _, 0, _, rfl, rfl, SqT.of ep, atI_nat (j := 0) rfl, _, _, _, _, _, rfl, .ty _, .base (.lst er), kit_ty (r := true) (by decide +kernel), _, rfl, iteF ?_⟩
    -- if [arch for arch in told[0] if not isinstance(arch, str)] != [] or ..
    refine ⟨_, rfl, p, _, 0, _, rfl, rfl, SqT.of ep, atI_nat (j := 0) rfl, r, rfl, ⟨_, SqL.of er⟩, fun D hD => ?_⟩
    refine lc_pure (walk_list (xs := Ls.map T)) (fun _ => none) hD (fun H2 s2 => SqL.of (s2 _ _ er)) (by rw [List.length_map]; omega) (fun m y H5 H6 Qk Nk hm s5 hy hk hn => ?_) (fun H2 s2 e2 => ?_)
    · obtain ⟨rfl, hx⟩ := hy
      obtain ⟨A, hA, rfl⟩ := List.mem_map.mp (List.mem_of_getElem? hx)
      exact ⟨rfl, _, rfl, _, _, _, _, _, rfl, .ty _, .base (.str _), kit_ty (r := true) (by decide +kernel), _, rfl, iteF (hn _ rfl (Same.refl _))⟩
    rw [fm_none _ _ fun _ _ => rfl] at e2
    refine ⟨Nat.zero_le _, fun a3 na3 => ?_⟩
    have s3 : Same H1 (upd H2 a3 (.lst [])) := snew s2 na3
    have ep3 := s3 _ _ ep
    have er3 := s3 _ _ er
    refine ne_nil0 (SqL.of (by rw [upd_ne (ne_of_none e2 na3)]; exact e2)) (SqL.of upd_same) ⟨_, rfl, iteF ?_⟩
    -- "".join(told[0]) + told[1] != text
    refine ⟨rfl, _, rfl, p, _, 0, _, rfl, rfl, SqT.of ep3, atI_nat (j := 0) rfl, [], r, Ls, rfl, rfl, SqL.of er3, hsum, ?_⟩
    refine ⟨_, rfl, p, _, 1, _, rfl, rfl, SqT.of ep3, atI_nat (j := 1) rfl, _, _, rfl, rfl, by rw [joinL_nil]; omega, ?_⟩
    rw [joinL_nil, hjoin]
    refine ⟨_, rfl, l, l, rfl, rfl, _, rfl, ?_⟩
    rw [decide_eq_true rfl]
    refine iteF ?_
    -- if [arch for arch in told[0] if not has_all(letters, arch)] != []:
    refine ⟨_, rfl, p, _, 0, _, rfl, rfl, SqT.of ep3, atI_nat (j := 0) rfl, r, rfl, ⟨_, SqL.of er3⟩, fun D4 hD4 => ?_⟩
    refine lc_pure (walk_list (xs := Ls.map T)) (fun _ => none) hD4 (fun H2 s2 => SqL.of (s2 _ _ er3)) (by rw [List.length_map]; omega) (fun m y H5 H6 Qk Nk hm s5 hy hk hn => ?_) (fun H4 s4 e4 => ?_)
    · obtain ⟨rfl, hx⟩ := hy
      obtain ⟨A, hA, rfl⟩ := List.mem_map.mp (List.mem_of_getElem? hx)
      refine ⟨rfl, _, rfl, _, rfl, a, A, rfl, al.four, hlow, fun H7 s7 => ?_⟩
      rw [decide_eq_true (hk1 A hA).all]
      exact ⟨_, rfl, iteF (hn _ rfl s7)⟩
    rw [fm_none _ _ fun _ _ => rfl] at e4
    refine ⟨Nat.zero_le _, fun a5 na5 => ?_⟩
    have s5 : Same (upd H2 a3 (.lst [])) (upd H4 a5 (.lst [])) := snew s4 na5
    have ep5 := s5 _ _ ep3
    have er5 := s5 _ _ er3
    refine ne_nil0 (SqL.of (by rw [upd_ne (ne_of_none e4 na5)]; exact e4)) (SqL.of upd_same) ⟨_, rfl, iteF ?_⟩
    -- if [arch for arch in told[0] if has_all(letters, arch[:len(arch) - 1])] != []:
    refine ⟨_, rfl, p, _, 0, _, rfl, rfl, SqT.of ep5, atI_nat (j := 0) rfl, r, rfl, ⟨_, SqL.of er5⟩, fun D6 hD6 => ?_⟩
    refine lc_pure (walk_list (xs := Ls.map T)) (fun _ => none) hD6 (fun H2 s2 => SqL.of (s2 _ _ er5)) (by rw [List.length_map]; omega) (fun m y H5 H6 Qk Nk hm s5 hy hk hn => ?_) (fun H6 s6 e6 => ?_)
    · obtain ⟨rfl, hx⟩ := hy
      obtain ⟨A, hA, rfl⟩ := List.mem_map.mp (List.mem_of_getElem? hx)
      obtain ⟨d, c, rfl, hd⟩ := (hk1 _ hA).last
      have hAl := (hlL _ hA).2
      refine ⟨rfl, _, rfl, _, rfl, _, rfl, d ++ [c], rfl, by omega, _, _, rfl, rfl, _, rfl, d ++ [c], rfl, by omega, a, d, ?_, al.four, hlow, fun H7 s7 => ?_⟩
      rw [show cutL (d ++ [c]) none (some (((d ++ [c]).length : Int) - 1)) = d from ?_]
      · have e : (((d ++ [c]).length : Int) - 1) = ((d.length : Nat) : Int) := by
          rw [List.length_append, List.length_singleton]
          omega
        rw [e, cut_to, List.take_left]
      rw [decide_eq_false hd]
      exact ⟨_, rfl, iteF (hn _ rfl s7)⟩
    rw [fm_none _ _ fun _ _ => rfl] at e6
    refine ⟨Nat.zero_le _, fun a7 na7 => ?_⟩
    have s7 : Same (upd H4 a5 (.lst [])) (upd H6 a7 (.lst [])) := snew s6 na7
    have ep7 := s7 _ _ ep5
    have er7 := s7 _ _ er5
    refine ne_nil0 (SqL.of (by rw [upd_ne (ne_of_none e6 na7)]; exact e6)) (SqL.of upd_same) ⟨_, rfl, iteF ?_⟩
    -- if has_all(letters, told[1]):
    refine ⟨_, rfl, _, rfl, p, _, 1, _, rfl, rfl, SqT.of ep7, atI_nat (j := 1) rfl, a, re, rfl, al.four, hlow, fun H8 s8 => ?_⟩
    rw [decide_eq_false hk2]
    refine ⟨_, rfl, iteF ?_⟩
    have ep8 := s8 _ _ ep7
    have er8 := s8 _ _ er7
    -- many = len(told[0])
    refine ⟨_, rfl, p, _, 0, _, rfl, rfl, SqT.of ep8, atI_nat (j := 0) rfl, r, _, rfl, SqL.of er8, ?_⟩
    rw [List.length_map]
    -- told[0].append("spoilt")
    refine ⟨_, rfl, p, _, 0, _, rfl, rfl, SqT.of ep8, atI_nat (j := 0) rfl, .inl ⟨rfl, _, SqL.of er8⟩, _, _, _, rfl, rfl, er8, by rw [List.length_map]; exact line_lt (by omega), ?_⟩
    have s9 : Same H (upd H8 r (.lst (Ls.map T ++ [T [115, 112, 111, 105, 108, 116]]))) := smut (s1.trans (s3.trans (s5.trans (s7.trans s8)))) nr
    -- return many if len(arches(letters, text)[0]) == many else None
    refine ⟨_, rfl, _, rfl, a, l, rfl, al, by omega, hc, fun H10 p2 r2 s10 nr2 ep2 er2 => ?_⟩
    rw [hLs] at er2
    refine ⟨p2, _, 0, _, rfl, rfl, SqT.of ep2, atI_nat (j := 0) rfl, r2, _, rfl, SqL.of er2, _, rfl, rfl, _, rfl, ?_⟩
    rw [List.length_map, decide_eq_true rfl]
    exact iteT ⟨_, rfl, q _ (s9.trans s10)⟩
end
end K81

set_option Elab.async false
set_option linter.all false
set_option maxRecDepth 100000
set_option maxHeartbeats 4000000
set_option exponentiation.threshold 5000
namespace K81
open PySem PySem.Spec PyProof.Rows L2 Sk
theorem mis_small {a l : List Nat} {n : Nat} (ha : a.length ≤ 4) (hn : n ≤ 400) : (mis a l n 0).natAbs < 2 ^ 1800 := by
  have h1 := mis_nonneg a l n 0
  have h2 := mis_lt a l n 0
  have h3 : a.length ^ n ≤ 4 ^ n := Nat.pow_le_pow_left ha n
  have h4 : 4 ^ n ≤ 4 ^ 400 := Nat.pow_le_pow_right (by decide) hn
  have h5 : (4 : Nat) ^ 400 < 2 ^ 1800 := by decide +kernel
  rw [← Int.natCast_pow] at h2
  omega
theorem k_small {k : Nat} (h : k ≤ 10000) : ((k : Int) + 1).natAbs < 2 ^ 1800 := by
  have h5 : (20000 : Nat) < 2 ^ 1800 := by decide +kernel
  omega
theorem join2 {D : List Nat → Hp → Prop} {c A B : Prop} [Decidable c] (P : List Nat → Hp → Prop) (h : ∀ u H, D u H → P u H) (h1 : (∀ u H, D u H → P u H) → c → A) (h2 : (∀ u H, D u H → P u H) → ¬ c → B) : if c then A else B :=
  ite2 (h1 h) (h2 h)
theorem join_yn {G : Prop} (c : Prop) (Y N : Prop) (hy : c → Y) (hn : ¬ c → N) (h : (c → Y) → (¬ c → N) → G) : G := h hy hn
theorem eq_nil0 {K : PySem.W.Frag} {H : Hp} {Q : VK} {a b : Addr} (h : SqL K H a []) (hb : SqL K H b []) (q : Q (.bl true) H) : rEqD K (.ref a) (.ref b) H Q := eq_nil h (fun x hx => by cases hx) hb (by rw [decide_eq_true rfl]; exact q)
theorem vint_ne {i j : Int} (h : i ≠ j) : ¬ V.int i = V.int j := fun z => h (by injection z)
section
variable {P : Program} {w : World} {K : PySem.W.Frag} {mg : Str → Option Value} {base : Heap}
def sp_l_right : Sp := fun vs H Q _ => ∃ (g : Addr) (n : Nat), vs = [.ref g] ∧ Gen (n + 200) H g ∧ ∀ H', But g H H' → Gen n H' g → Q (.bl true) H'
theorem ok_l_right (F : Facts fa fn K mg) (c_l_alphabet : Callee P w K mg base 4 "_law_alphabet" p_l_alphabet sp_l_alphabet) (c_l_full_text : Callee P w K mg base 5 "_law_full_text" p_l_full_text sp_l_full_text) (c_l_random : Callee P w K mg base 2 "_law_random" p_l_random sp_l_random) (c_l_text : Callee P w K mg base 4 "_law_text" p_l_text sp_l_text) (c_l_arches_right : Callee P w K mg base 6 "_law_arches_right" p_l_arches_right sp_l_arches_right) (c_missing : Callee P w K mg base 5 "missing" p_missing sp_missing) (c_l_number : Callee P w K mg base 1 "_law_number" p_l_number sp_l_number) (c_l_same : Callee P w K mg base 1 "_law_same" p_l_same (sp_l_same K)) (c_l_missing : Callee P w K mg base 2 "_law_missing" p_l_missing sp_l_missing) : Callee P w K mg base 7 "_law_right" p_l_right sp_l_right := by
  refine F.callee 24 24 sc_l_right (fun vs H Q E h => ?_) (fun _ _ _ _ _ _ us hl => match us, hl with | [_], _ => rfl) (fun f cdv A outer t0 H vs Q E hg hr h => ?_)
  · obtain ⟨g, n, rfl, hG, q⟩ := h
    rfl
  · obtain ⟨g, n, rfl, hG, q⟩ := h
    refine ⟨_, (pss_cons (ps_set (i := 1) sc_l_right.nd rfl (by first | exact Or.inl rfl | exact Or.inr rfl) (pe_cal c_l_alphabet hg (hr.mono (by decide)) (pa_cons (pv 0) pa_nil)))
      (pss_cons (ps_set (i := 2) sc_l_right.nd rfl (by first | exact Or.inl rfl | exact Or.inr rfl) (pe_cal c_l_full_text hg (hr.mono (by decide)) (pa_cons (pv 0) (pa_cons (pv 1) (pa_cons pe_int pa_nil)))))
      (pss_cons (ps_if (pt_cmpR op_eq (pe_cal c_l_random hg (hr.mono (by decide)) (pa_cons (pv 0) (pa_cons pe_int pa_nil))) pe_int (nomark _)) (pss_one (ps_set (i := 2) sc_l_right.nd rfl (by first | exact Or.inl rfl | exact Or.inr rfl) (pe_cal c_l_text hg (hr.mono (by decide)) (pa_cons (pv 0) (pa_cons (pv 1) (pa_cons pe_int (pa_cons pe_int pa_nil)))))))
      pss_nil)
      (pss_cons (ps_set (i := 3) sc_l_right.nd rfl (by first | exact Or.inl rfl | exact Or.inr rfl) (pe_cal c_l_arches_right hg (hr.mono (by decide)) (pa_cons (pv 1) (pa_cons (pv 2) pa_nil))))
      (pss_cons (ps_if (pt_cmpR op_isN (pv 3) pe_non (nomark _)) (pss_one (ps_ret pe_bl))
      pss_nil)
      (pss_cons (ps_set (i := 4) sc_l_right.nd rfl (by first | exact Or.inl rfl | exact Or.inr rfl) (pe_cal c_missing hg (hr.mono (by decide)) (pa_cons (pv 1) (pa_cons (pv 2) pa_nil))))
      (pss_cons (ps_if (pt_not (pt_val (pe_cal c_l_same hg (hr.mono (by decide)) (pa_cons (pv 4) (pa_cons (pe_tup (pa_cons (pe_op op_add (pv 3) pe_int) (pa_cons (pe_cal c_l_number hg (hr.mono (by decide)) (pa_cons (pv 1) (pa_cons (pe_op op_add (pv 3) pe_int) (pa_cons (pv 2) pa_nil)))) pa_nil))) pa_nil))))) (pss_one (ps_ret pe_bl))
      pss_nil)
      (pss_cons (ps_if (PW.pt (pw_or (PW.pt (pw_and (pt_cmpR op_eq (pe_callB call_lenT (by rfl) (F.free 29) (by decide +kernel) (pa_cons (pv 1) pa_nil)) pe_int (nomark _)) (pw_and1 (pt_cmpR op_gt (pv 3) pe_int (nomark _))))) (pw_or1 (pt_cmpR op_gt (pv 3) pe_int (nomark _))))) (pss_one (ps_ret (pe_cmpR op_gt (pe_ix (k_ixt K) (pv 4) pe_int (fun _ _ => rfl)) pe_int (nomark _))))
      pss_nil)
      (pss_cons (ps_set (i := 5) sc_l_right.nd rfl (by first | exact Or.inl rfl | exact Or.inr rfl) (pe_cal c_l_missing hg (hr.mono (by decide)) (pa_cons (pv 1) (pa_cons (pe_op op_add (pv 3) pe_int) (pa_cons (pv 2) pa_nil)))))
      (pss_one (ps_ret (pe_and (pe_cmpR op_eq (pe_callB (k_len K) (by rfl) (F.free 29) (by decide +kernel) (pa_cons (pv 5) pa_nil)) (pe_ix (k_ixt K) (pv 4) pe_int (fun _ _ => rfl)) (nomark _)) (pe_and (pe_cmpR (k_ne K hr.units) (pv 5) (pe_lst pa_nil) (nomark _)) (pe_one (pe_cmpR (k_eq K hr.units) (pe_cal c_l_missing hg (hr.mono (by decide)) (pa_cons (pv 1) (pa_cons (pv 3) (pa_cons (pv 2) pa_nil)))) (pe_lst pa_nil) (nomark _)))))))))))))))), ?_⟩
    -- letters = alphabet(g)
    refine ⟨_, rfl, g, n + 170, rfl, hG, fun a H1 al b1 g1 => ?_⟩
    have hne : a ≠ [] := by
      intro z
      have := al.one
      rw [z] at this
      cases this
    have ha4 := al.four
    -- text = full_text(g, letters, 2)
    refine ⟨_, rfl, _, rfl, g, a, 2, n + 70, rfl, hne, al.four, by decide, by decide, g1, fun l H2 hl hll b2 g2 => ?_⟩
    -- if random(g, 3) == 0:
    refine ⟨_, rfl, g, 3, n + 65, rfl, by decide, by decide, g2, fun z H3 z0 z1 b3 g3 => ?_⟩
    refine ⟨rfl, _, rfl, ?_⟩
    apply join2 (D := fun u H5 => (∀ c ∈ u, c ∈ a) ∧ u.length ≤ 15 ∧ But g H H5 ∧ Gen n H5 g)
    case h1 =>
      intro k _
      refine ⟨_, rfl, _, rfl, g, a, 0, 7, n, rfl, hne, by omega, by omega, by omega, g3.less (by omega), fun u H5 hu u0 u1 b5 g5 => ?_⟩
      exact k u H5 ⟨hu, by omega, b1.trans (b2.trans (b3.trans b5)), g5⟩
    case h2 =>
      intro k _
      exact k l H3 ⟨hl, hll, b1.trans (b2.trans b3), g3.less (by omega)⟩
    rintro u H5 ⟨hu, hul, b5, g5⟩
    -- many = arches_right(letters, text)
    refine ⟨_, rfl, _, rfl, a, u, rfl, al, by omega, hu, fun H6 s6 => ?_⟩
    have hsm := (arch_small a hne u).2
    have hz := mis_zero (l := u) hne
    have hp := mis_pos (l := u) hne
    have hnil := miss_nil (l := u) hne
    have hlen := miss_len a u ((archF a [] u).1.length + 1)
    have hnn := miss_ne (l := u) hne
    generalize hk : (archF a [] u).1.length = k at *
    -- if many is None:
    refine ⟨_, rfl, rfl, _, rfl, iteF ?_⟩
    -- told = missing(letters, text)
    refine ⟨_, rfl, _, rfl, a, u, rfl, al, by omega, hu, fun H7 p s7 n7 e7 => ?_⟩
    rw [hk] at e7
    -- if not same(told, (many + 1, number(letters, many + 1, text))):
    refine ⟨_, rfl, _, rfl, _, _, rfl, rfl, _, rfl, _, rfl, _, _, rfl, rfl, _, rfl, a, u, k + 1, rfl, by omega, by omega, by omega, fun H8 s8 => ?_⟩
    refine ⟨by show 2 ≤ sizeLine; decide, fun a1 na1 => ?_⟩
    have e8 : upd H8 a1 (.tup [.int ((k : Int) + 1), .int (mis a u (k + 1) 0)]) p = some (.tup [.int ((k : Int) + 1), .int (mis a u (k + 1) 0)]) := (snew s8 na1) _ _ e7
    obtain ⟨w1, w2, w3, w4⟩ := two_show (k_small (k := k) (by omega)) (mis_small (l := u) (n := k + 1) ha4 (by omega))
    refine ⟨.ref p, .ref a1, _, rfl, .tup (SqT.of e8) (.cons (.int _) (.cons (.int _) .nil)), .tup (SqT.of upd_same) (.cons (.int _) (.cons (.int _) .nil)), w1, w2, w3, w4, _, rfl, iteF ?_⟩
    have b9 : But g H (upd H8 a1 (.tup [.int ((k : Int) + 1), .int (mis a u (k + 1) 0)])) := b5.trans (But.of (snew (s6.trans (s7.trans s8)) na1))
    have g9 : Gen n (upd H8 a1 (.tup [.int ((k : Int) + 1), .int (mis a u (k + 1) 0)])) g := g5.same (snew (s6.trans (s7.trans s8)) na1)
    generalize upd H8 a1 (.tup [.int ((k : Int) + 1), .int (mis a u (k + 1) 0)]) = H9 at *
    -- if len(letters) == 4 and many > 2 or many > 5:
    apply join_yn ((a.length = 4 ∧ 2 < k) ∨ 5 < k)
    case h =>
      intro y no
      refine ⟨_, rfl, a, rfl, by omega, rfl, _, rfl, ?_⟩
      by_cases h4 : a.length = 4
      · rw [decide_eq_true (show V.int (a.length : Int) = V.int 4 by rw [h4]; rfl)]
        refine iteT ⟨_, rfl, _, _, rfl, rfl, _, rfl, ?_⟩
        by_cases h2 : 2 < k
        · rw [decide_eq_true (show (k : Int) > 2 by omega)]
          exact iteT (y (.inl ⟨h4, h2⟩))
        · rw [decide_eq_false (show ¬ (k : Int) > 2 by omega)]
          refine iteF ⟨_, rfl, _, _, rfl, rfl, _, rfl, ?_⟩
          rw [decide_eq_false (show ¬ (k : Int) > 5 by omega)]
          exact no (by omega)
      · rw [decide_eq_false (vint_ne (show ¬ (a.length : Int) = 4 by omega))]
        refine iteF ⟨_, rfl, _, _, rfl, rfl, _, rfl, ?_⟩
        by_cases h5 : 5 < k
        · rw [decide_eq_true (show (k : Int) > 5 by omega)]
          exact y (.inr h5)
        · rw [decide_eq_false (show ¬ (k : Int) > 5 by omega)]
          exact no (by omega)
    case hy =>
      intro _
      refine iteT ⟨_, rfl, p, _, 1, _, rfl, rfl, SqT.of e8, atI_nat (j := 1) rfl, _, _, rfl, rfl, ?_⟩
      show Q (.bl (decide _)) H9
      rw [decide_eq_true (show mis a u (k + 1) 0 > 0 from hp)]
      exact q _ b9 g9
    case hn =>
      intro hsmall
      refine iteF ?_
      have hk5 : k ≤ 5 := by omega
      have hpow : a.length ^ (k + 1) ≤ 100000 := by
        by_cases h4 : a.length = 4
        · rw [h4]
          exact Nat.le_trans (Nat.pow_le_pow_right (by decide) (show k + 1 ≤ 3 by omega)) (by decide)
        · exact Nat.le_trans (Nat.pow_le_pow_left (show a.length ≤ 3 by omega) _) (Nat.le_trans (Nat.pow_le_pow_right (by decide) (show k + 1 ≤ 6 by omega)) (by decide))
      have hpow0 : a.length ^ k ≤ 100000 := Nat.le_trans (Nat.pow_le_pow_right al.one (Nat.le_succ k)) hpow
      -- due = _law_missing(letters, many + 1, text)
      refine ⟨_, rfl, _, rfl, _, _, rfl, rfl, _, rfl, a, u, k + 1, rfl, ha4, al.one, by omega, hpow, by omega, fun H10 p2 s10 n10 e10 => ?_⟩
      -- return len(due) == told[1] and due != [] and _law_missing(letters, many, text) == []
      refine ⟨_, rfl, p2, _, rfl, SqL.of e10, _, rfl, p, _, 1, _, rfl, rfl, SqT.of (s10 _ _ e8), atI_nat (j := 1) rfl, rfl, true, ?_, ?_⟩
      · rw [decide_eq_true]
        rw [List.length_map, hlen]
      -- due != []
      refine iteT ⟨_, rfl, Nat.zero_le _, fun a3 na3 => ?_⟩
      have hlowF : ∀ x ∈ (((wds a (k + 1)).filter fun w => !rd w u).map T), flat2 x = true := by
        intro x hx
        obtain ⟨y, hy, rfl⟩ := List.mem_map.mp hx
        exact flat_T fun c hc => al.low c ((wds_word a _ y (List.mem_filter.mp hy).1).2 c hc)
      refine ne_nil (SqL.of ((same_new na3) _ _ e10)) hlowF (SqL.of upd_same) ⟨true, ?_, iteT ?_⟩
      · rw [decide_eq_false (fun z => hnn (List.map_eq_nil_iff.mp z))]; rfl
      -- _law_missing(letters, many, text) == []
      refine ⟨_, rfl, _, rfl, _, rfl, a, u, k, rfl, ha4, al.one, by omega, hpow0, by omega, fun H11 p4 s11 n11 e11 => ?_⟩
      rw [hnil, List.map_nil] at e11
      refine ⟨Nat.zero_le _, fun a5 na5 => ?_⟩
      have s12 : Same H9 (upd H11 a5 (.lst [])) := snew ((snew s10 na3).trans s11) na5
      refine eq_nil0 (SqL.of (by rw [upd_ne (ne_of_none e11 na5)]; exact e11)) (SqL.of upd_same) ?_
      exact q _ (b9.trans (But.of s12)) (g9.same s12)
end
end K81

set_option Elab.async false
set_option linter.all false
set_option maxRecDepth 100000
set_option maxHeartbeats 4000000
namespace K81
open PySem PySem.Spec PyProof.Rows L2 Sk
section
variable {P : Program} {w : World} {K : PySem.W.Frag} {mg : Str → Option Value} {base : Heap}
def sp_l_long_right : Sp := fun vs H Q _ => ∃ (g : Addr) (n : Nat), vs = [.ref g] ∧ Gen (n + 5000) H g ∧ ∀ H', But g H H' → Gen n H' g → Q (.bl true) H'
theorem ok_l_long_right (F : Facts fa fn K mg) (c_l_alphabet : Callee P w K mg base 4 "_law_alphabet" p_l_alphabet sp_l_alphabet) (c_l_full_text : Callee P w K mg base 5 "_law_full_text" p_l_full_text sp_l_full_text) (c_l_arches_right : Callee P w K mg base 6 "_law_arches_right" p_l_arches_right sp_l_arches_right) (c_missing : Callee P w K mg base 5 "missing" p_missing sp_missing) (c_l_number : Callee P w K mg base 1 "_law_number" p_l_number sp_l_number) (c_l_same : Callee P w K mg base 1 "_law_same" p_l_same (sp_l_same K)) (c_l_text : Callee P w K mg base 4 "_law_text" p_l_text sp_l_text) (c_l_is_read : Callee P w K mg base 1 "_law_is_read" p_l_is_read sp_l_is_read) : Callee P w K mg base 7 "_law_long_right" p_l_long_right sp_l_long_right := by
  refine F.callee 25 25 sc_l_long_right (fun vs H Q E h => ?_) (fun _ _ _ _ _ _ us hl => match us, hl with | [_], _ => rfl) (fun f cdv A outer t0 H vs Q E hg hr h => ?_)
  · obtain ⟨g, n, rfl, hG, q⟩ := h
    rfl
  · obtain ⟨g, n, rfl, hG, q⟩ := h
    refine ⟨_, (pss_cons (ps_set (i := 1) sc_l_long_right.nd rfl (by first | exact Or.inl rfl | exact Or.inr rfl) (pe_cal c_l_alphabet hg (hr.mono (by decide)) (pa_cons (pv 0) pa_nil)))
      (pss_cons (ps_set (i := 2) sc_l_long_right.nd rfl (by first | exact Or.inl rfl | exact Or.inr rfl) (pe_op op_addT (pe_cal c_l_full_text hg (hr.mono (by decide)) (pa_cons (pv 0) (pa_cons (pv 1) (pa_cons pe_int pa_nil)))) (pe_cal c_l_full_text hg (hr.mono (by decide)) (pa_cons (pv 0) (pa_cons (pv 1) (pa_cons pe_int pa_nil))))))
      (pss_cons (ps_set (i := 3) sc_l_long_right.nd rfl (by first | exact Or.inl rfl | exact Or.inr rfl) (pe_cal c_l_arches_right hg (hr.mono (by decide)) (pa_cons (pv 1) (pa_cons (pv 2) pa_nil))))
      (pss_cons (ps_if (PW.pt (pw_or (pt_cmpR op_isN (pv 3) pe_non (nomark _)) (pw_or1 (pt_not (pt_val (pe_cal c_l_same hg (hr.mono (by decide)) (pa_cons (pe_cal c_missing hg (hr.mono (by decide)) (pa_cons (pv 1) (pa_cons (pv 2) pa_nil))) (pa_cons (pe_tup (pa_cons (pe_op op_add (pv 3) pe_int) (pa_cons (pe_cal c_l_number hg (hr.mono (by decide)) (pa_cons (pv 1) (pa_cons (pe_op op_add (pv 3) pe_int) (pa_cons (pv 2) pa_nil)))) pa_nil))) pa_nil)))))))) (pss_one (ps_ret pe_bl))
      pss_nil)
      (pss_cons (ps_set (i := 4) sc_l_long_right.nd rfl (by first | exact Or.inl rfl | exact Or.inr rfl) (k_bm K PySem.F.plainAttrs_str PySem.F.slot_str_join PySem.F.type_str_join (k_join K) (pe_txt []) (pa_cons (pe_lc (own := [("_law_turn", 5)]) rfl sc_l_long_right.nd (pi_range1 (by rfl) (F.free 32) (pa_cons (pv 3) pa_nil)) (blkOk_by (by kernel_rfl)) (fun _ _ _ _ _ => (pg_name (i := 5) sc_l_long_right.nd rfl (by first | exact Or.inl rfl | exact Or.inr rfl))) (fun _ _ _ _ _ => pts_nil) (fun _ _ _ _ _ => (pe_cal c_l_text hg (hr.mono (by decide)) (pa_cons (pv 0) (pa_cons (pv 1) (pa_cons pe_int (pa_cons pe_int pa_nil))))))) pa_nil)))
      (pss_one (ps_ret (pe_and (pe_cal c_l_is_read hg (hr.mono (by decide)) (pa_cons (pv 4) (pa_cons (pv 2) pa_nil))) (pe_one (pe_cmpR op_eq (pe_cal c_l_number hg (hr.mono (by decide)) (pa_cons (pv 1) (pa_cons (pv 3) (pa_cons (pv 2) pa_nil)))) pe_int (nomark _))))))))))), ?_⟩
    -- letters = alphabet(g)
    refine ⟨_, rfl, g, n + 4970, rfl, hG, fun a H1 al b1 g1 => ?_⟩
    have hne : a ≠ [] := by
      intro z
      have := al.one
      rw [z] at this
      cases this
    have ha4 := al.four
    -- text = full_text(g, letters, 9) + full_text(g, letters, 3)
    refine ⟨_, rfl, _, rfl, g, a, 9, n + 4660, rfl, hne, al.four, by decide, by decide, g1, fun l1 H2 hl1 hll1 b2 g2 => ?_⟩
    refine ⟨_, rfl, _, rfl, g, a, 3, n + 4530, rfl, hne, al.four, by decide, by decide, g2, fun l2 H3 hl2 hll2 b3 g3 => ?_⟩
    refine ⟨_, _, rfl, rfl, by omega, ?_⟩
    have hu : ∀ c ∈ l1 ++ l2, c ∈ a := fun c hc => (List.mem_append.mp hc).elim (hl1 c) (hl2 c)
    have hul : (l1 ++ l2).length ≤ 78 := by rw [List.length_append]; omega
    have b5 : But g H H3 := b1.trans (b2.trans b3)
    generalize l1 ++ l2 = u at *
    -- many = arches_right(letters, text)
    refine ⟨_, rfl, _, rfl, a, u, rfl, al, by omega, hu, fun H6 s6 => ?_⟩
    have hsm := (arch_small a hne u).2
    have hz := mis_zero (l := u) hne
    have hrd : ∀ w : List Nat, (∀ c ∈ w, c ∈ a) → w.length ≤ (archF a [] u).1.length → rd w u = true := fun w h1 h2 => rd_short hne h1 h2
    generalize hk : (archF a [] u).1.length = k at *
    -- if many is None or not same(missing(letters, text), (many + 1, number(letters, many + 1, text))):
    refine ⟨_, rfl, rfl, _, rfl, iteF ?_⟩
    refine ⟨_, rfl, _, rfl, a, u, rfl, al, by omega, hu, fun H7 p s7 n7 e7 => ?_⟩
    rw [hk] at e7
    refine ⟨_, rfl, _, _, rfl, rfl, _, rfl, _, rfl, _, _, rfl, rfl, _, rfl, a, u, k + 1, rfl, by omega, by omega, by omega, fun H8 s8 => ?_⟩
    refine ⟨by show 2 ≤ sizeLine; decide, fun a1 na1 => ?_⟩
    have e8 : upd H8 a1 (.tup [.int ((k : Int) + 1), .int (mis a u (k + 1) 0)]) p = some (.tup [.int ((k : Int) + 1), .int (mis a u (k + 1) 0)]) := (snew s8 na1) _ _ e7
    obtain ⟨w1, w2, w3, w4⟩ := two_show (k_small (k := k) (by omega)) (mis_small (l := u) (n := k + 1) ha4 (by omega))
    refine ⟨.ref p, .ref a1, _, rfl, .tup (SqT.of e8) (.cons (.int _) (.cons (.int _) .nil)), .tup (SqT.of upd_same) (.cons (.int _) (.cons (.int _) .nil)), w1, w2, w3, w4, _, rfl, iteF ?_⟩
    have b9 : But g H (upd H8 a1 (.tup [.int ((k : Int) + 1), .int (mis a u (k + 1) 0)])) := b5.trans (But.of (snew (s6.trans (s7.trans s8)) na1))
    have g9 : Gen (n + 4530) (upd H8 a1 (.tup [.int ((k : Int) + 1), .int (mis a u (k + 1) 0)])) g := g3.same (snew (s6.trans (s7.trans s8)) na1)
    generalize upd H8 a1 (.tup [.int ((k : Int) + 1), .int (mis a u (k + 1) 0)]) = H9 at *
    -- short = "".join([_law_text(g, letters, 1, 1) for turn in range(many)])
    refine ⟨rfl, _, rfl, _, rfl, by omega, by omega, fun D hD => ?_⟩
    have nDg : D ≠ g := g9.ne hD
    have nHD : H D = none := b9.free nDg hD
    rw [Int.toNat_natCast]
    refine lc_it walk_range (fun i H2 => But g H H2 ∧ Gen (n + 4530 - 20 * i) H2 g ∧ ∃ ls : List (List Nat), ls.length = i ∧ (∀ x ∈ ls, x.length = 1 ∧ ∀ c ∈ x, c ∈ a) ∧ H2 D = some (.lst (ls.map T))) ?start (fun _ _ _ _ => trivial) ?turn ?fin
    case start => exact ⟨b9.mut nHD, g9.same (same_new hD), [], rfl, fun x hx => (by cases hx), upd_same⟩
    case turn =>
      rintro i x H2 H3 hi ⟨bb, gg, ls, hl, hls, eD⟩ ⟨rfl, rfl⟩
      refine ⟨rfl, yes_ (iteT ?_)⟩
      refine ⟨_, rfl, _, rfl, g, a, 1, 1, n + 4530 - 20 * (i + 1), rfl, hne, by omega, by omega, by omega, gg.less (by omega), fun v H5 hv v0 v1 bv gv => ?_⟩
      refine ⟨_, bv _ _ nDg eD, ?_, (bb.trans bv).mut nHD, ?_, ls ++ [v], by rw [List.length_append, hl]; rfl, ?_, ?_⟩
      · rw [List.length_map]; exact line_lt (by omega)
      · obtain ⟨x1, x2, x3, ex, rx⟩ := gv
        exact ⟨x1, x2, x3, by rw [upd_ne nDg.symm]; exact ex, rx⟩
      · intro y hy
        rcases List.mem_append.mp hy with z | z
        · exact hls y z
        · rw [List.mem_singleton.mp z]
          exact ⟨by omega, hv⟩
      · rw [upd_same, List.map_append]; rfl
    case fin =>
      rintro H2 ⟨bb, gg, ls, hl, hls, eD⟩
      have hone : ∀ ls : List (List Nat), (∀ x ∈ ls, x.length = 1 ∧ ∀ c ∈ x, c ∈ a) → ls.flatten.length = ls.length ∧ ∀ c ∈ ls.flatten, c ∈ a := by
        intro ls
        induction ls with
        | nil => intro _; exact ⟨rfl, fun c hc => by cases hc⟩
        | cons x r ih =>
          intro h
          obtain ⟨i1, i2⟩ := ih fun y hy => h y (List.mem_cons_of_mem _ hy)
          obtain ⟨j1, j2⟩ := h x List.mem_cons_self
          rw [List.flatten_cons, List.length_append, List.length_cons]
          exact ⟨by omega, fun c hc => (List.mem_append.mp hc).elim (j2 c) (i2 c)⟩
      obtain ⟨i1, i2⟩ := hone ls hls
      have hsum : (ls.map (·.length)).sum + ls.length * 0 ≤ 1000000 := by
        have := List.length_flatten (L := ls)
        show (ls.map List.length).sum + _ ≤ _
        omega
      refine ⟨[], D, ls, rfl, rfl, SqL.of eD, hsum, ?_⟩
      rw [joinL_nil]
      -- return is_read(short, text) and number(letters, many, text) == 0
      refine ⟨_, rfl, _, rfl, ls.flatten, u, rfl, by omega, by omega, true, ?_, ?_⟩
      · rw [hrd ls.flatten i2 (by omega)]
      refine iteT ⟨_, rfl, _, rfl, _, rfl, a, u, k, rfl, by omega, by omega, by omega, fun H10 s10 => ?_⟩
      rw [hz]
      refine ⟨rfl, ?_⟩
      show Q (.bl (decide (V.int 0 = V.int 0))) H10
      rw [decide_eq_true rfl]
      exact q _ (bb.trans (But.of s10)) ((gg.same s10).less (by omega))
end
end K81

set_option Elab.async false
set_option linter.all false
set_option maxRecDepth 100000
set_option maxHeartbeats 4000000
set_option exponentiation.threshold 5000
namespace K81
open PySem PySem.Spec PyProof.Rows L2 Sk
theorem al_ab : IsAl [97, 98] := by
  refine ⟨by decide, by decide, by decide, fun i a b h1 h2 => ?_⟩
  match i, h1, h2 with
  | 0, h1, h2 =>
    injection h1 with h1
    injection h2 with h2
    omega
  | 1, h1, h2 => cases h2
  | n + 2, h1, h2 => cases h1
theorem al_a : IsAl [97] := by
  refine ⟨by decide, by decide, by decide, fun i a b h1 h2 => ?_⟩
  match i, h1, h2 with
  | 0, h1, h2 => cases h2
  | n + 1, h1, h2 => cases h1
theorem lit6 : archF [97] [] [] = ([], []) := rfl
abbrev told : PyData := .list [.tuple [.list [.str (tx [97, 98]), .str (tx [98, 97]), .str (tx [98, 97])], .str (tx [97])], .tuple [.int 4, .int 5], .tuple [.list [], .str (tx [])], .tuple [.int 4, .int 1]]
theorem told_ok : told.showable = true ∧ told.hasDict = false ∧ told.depth ≤ 60 ∧ told.shown.length ≤ sizeLine :=
  ⟨by decide +kernel, by decide +kernel, by decide +kernel, shows (by decide +kernel) (by decide +kernel)⟩
section
variable {P : Program} {w : World} {K : PySem.W.Frag} {mg : Str → Option Value} {base : Heap}
def sp_law (K : PySem.W.Frag) : Sp := fun vs H Q _ => ∃ (s : Addr) (ns : List Int), vs = [.ref s] ∧ SqL K H s (ns.map V.int) ∧ ∀ H', Q (.bl true) H'
theorem ok_law (F : Facts fa fn K mg) (c_l_generator : Callee P w K mg base 2 "_law_generator" p_l_generator (sp_l_generator K)) (c_l_right : Callee P w K mg base 7 "_law_right" p_l_right sp_l_right) (c_l_long_right : Callee P w K mg base 7 "_law_long_right" p_l_long_right sp_l_long_right) (c_arches : Callee P w K mg base 5 "arches" p_arches sp_arches) (c_missing : Callee P w K mg base 5 "missing" p_missing sp_missing) (c_l_same : Callee P w K mg base 1 "_law_same" p_l_same (sp_l_same K)) (c_l_number : Callee P w K mg base 1 "_law_number" p_l_number sp_l_number) : Body P w K mg base 7 "law" s_law n_law p_law (sp_law K) := by
  intro f cdv A outer t0 H vs Q E hg hr h
  · obtain ⟨s, ns, rfl, hS, q⟩ := h
    refine ⟨_, (pss_cons (ps_for PassesOwn.never rfl (pi_range1 (by rfl) (F.free 32) (pa_cons pe_int pa_nil)) (pg_name (i := 1) sc_law.nd rfl (by first | exact Or.inl rfl | exact Or.inr rfl))
      (pss_cons (ps_set (i := 2) sc_law.nd rfl (by first | exact Or.inl rfl | exact Or.inr rfl) (pe_cal c_l_generator hg (hr.mono (by decide)) (pa_cons (pv 0) (pa_cons (pv 1) pa_nil))))
      (pss_one (ps_if (PW.pt (pw_or (pt_not (pt_val (pe_cal c_l_right hg (hr.mono (by decide)) (pa_cons (pv 2) pa_nil)))) (pw_or1 (pt_not (pt_val (pe_cal c_l_long_right hg (hr.mono (by decide)) (pa_cons (pv 2) pa_nil))))))) (pss_one (ps_ret pe_bl))
      pss_nil))))
      (pss_cons (ps_set (i := 3) sc_law.nd rfl (by first | exact Or.inl rfl | exact Or.inr rfl) (pe_lst (pa_cons (pe_cal c_arches hg (hr.mono (by decide)) (pa_cons (pe_txt [97, 98]) (pa_cons (pe_txt [97, 98, 98, 97, 98, 97, 97]) pa_nil))) (pa_cons (pe_cal c_missing hg (hr.mono (by decide)) (pa_cons (pe_txt [97, 98]) (pa_cons (pe_txt [97, 98, 98, 97, 98, 97, 97]) pa_nil))) (pa_cons (pe_cal c_arches hg (hr.mono (by decide)) (pa_cons (pe_txt [97]) (pa_cons (pe_txt []) pa_nil))) (pa_cons (pe_cal c_missing hg (hr.mono (by decide)) (pa_cons (pe_txt [97]) (pa_cons (pe_txt [97, 97, 97]) pa_nil))) pa_nil))))))
      (pss_cons (ps_if (pt_not (pt_val (pe_cal c_l_same hg (hr.mono (by decide)) (pa_cons (pv 3) (pa_cons (pe_lst (pa_cons (pe_tup (pa_cons (pe_lst (pa_cons (pe_txt [97, 98]) (pa_cons (pe_txt [98, 97]) (pa_cons (pe_txt [98, 97]) pa_nil)))) (pa_cons (pe_txt [97]) pa_nil))) (pa_cons (pe_tup (pa_cons pe_int (pa_cons pe_int pa_nil))) (pa_cons (pe_tup (pa_cons (pe_lst pa_nil) (pa_cons (pe_txt []) pa_nil))) (pa_cons (pe_tup (pa_cons pe_int (pa_cons pe_int pa_nil))) pa_nil))))) pa_nil))))) (pss_one (ps_ret pe_bl))
      pss_nil)
      (pss_one (ps_ret (pe_cal c_l_same hg (hr.mono (by decide)) (pa_cons (pe_cal c_missing hg (hr.mono (by decide)) (pa_cons (pe_txt [97, 98]) (pa_cons (pe_op op_mulT (pe_txt [97, 98]) pe_int) pa_nil))) (pa_cons (pe_tup (pa_cons pe_int (pa_cons (pe_cal c_l_number hg (hr.mono (by decide)) (pa_cons (pe_txt [97, 98]) (pa_cons pe_int (pa_cons (pe_op op_mulT (pe_txt [97, 98]) pe_int) pa_nil)))) pa_nil))) pa_nil)))))))), ?_⟩
    -- for index in range(2):
    refine ⟨_, rfl, by omega, by omega, for_it walk_range (fun i σ H1 => ∃ (x1 x2 x3 : Option V), σ = [some (.ref s), x1, x2, x3] ∧ Same H H1) ?start (fun _ _ _ _ _ => trivial) ?turn ?fin⟩
    case start => exact ⟨none, none, none, rfl, Same.refl _⟩
    case turn =>
      rintro i x σ H1 H2 hi ⟨x1, x2, x3, rfl, s1⟩ ⟨rfl, rfl⟩
      have hi2 : i < 2 := hi
      refine ⟨_, rfl, _, rfl, s, ns, i, ?_, s1.seq hS, by omega, fun g H3 s3 ng hg3 => ?_⟩
      · show [V.ref s, V.int (0 + (i : Int))] = _
        rw [Int.zero_add]
      refine ⟨_, rfl, g, 2 ^ 39 - 200, rfl, hg3.less (by omega), fun H4 b4 g4 => ?_⟩
      refine ⟨_, rfl, iteF ?_⟩
      refine ⟨_, rfl, g, 2 ^ 39 - 5200, rfl, g4.less (by omega), fun H5 b5 g5 => ?_⟩
      exact ⟨_, rfl, iteF ⟨_, _, _, rfl, s1.trans (((But.of s3).trans (b4.trans b5)).same ng)⟩⟩
    case fin =>
      rintro σ H1 ⟨x1, x2, x3, rfl, s1⟩
      -- told = [arches("ab", "abbabaa"), missing("ab", "abbabaa"), arches("a", ""), missing("a", "aaa")]
      refine ⟨_, _, rfl, al_ab, by decide, by decide, fun H2 p1 r1 s2 nr1 ep1 er1 => ?_⟩
      refine ⟨_, _, rfl, al_ab, by decide, by decide, fun H3 p2 s3 np2 ep2 => ?_⟩
      refine ⟨_, _, rfl, al_a, by decide, by decide, fun H4 p3 r3 s4 nr3 ep3 er3 => ?_⟩
      refine ⟨_, _, rfl, al_a, by decide, by decide, fun H5 p4 s5 np4 ep4 => ?_⟩
      rw [lit1] at ep1 er1 ep2
      rw [lit6] at ep3 er3
      rw [lit3] at ep4
      refine ⟨by show 4 ≤ sizeLine; decide, fun a1 na1 => ?_⟩
      -- if not same(told, [...]):
      refine ⟨_, rfl, by show 3 ≤ sizeLine; decide, fun a2 na2 => ?_⟩
      refine ⟨by show 2 ≤ sizeLine; decide, fun a3 na3 => ?_⟩
      refine ⟨by show 2 ≤ sizeLine; decide, fun a4 na4 => ?_⟩
      refine ⟨by show 0 ≤ sizeLine; decide, fun a5 na5 => ?_⟩
      refine ⟨by show 2 ≤ sizeLine; decide, fun a6 na6 => ?_⟩
      refine ⟨by show 2 ≤ sizeLine; decide, fun a7 na7 => ?_⟩
      refine ⟨by show 4 ≤ sizeLine; decide, fun a8 na8 => ?_⟩
      have ep2' : H3 p2 = some (.tup [.int 4, .int 5]) := by rw [← lit2]; exact ep2
      have ep4' : H5 p4 = some (.tup [.int 4, .int 1]) := by rw [← lit4]; exact ep4
      have g7 := same_new (o := HO.lst [V.ref a3, .ref a4, .ref a6, .ref a7]) na8
      have g6 := (same_new (o := HO.tup [V.int 4, .int 1]) na7).trans g7
      have g5 := (same_new (o := HO.tup [V.ref a5, T []]) na6).trans g6
      have g4 := (same_new (o := HO.lst []) na5).trans g5
      have g3 := (same_new (o := HO.tup [V.int 4, .int 5]) na4).trans g4
      have g2 := (same_new (o := HO.tup [V.ref a2, T [97]]) na3).trans g3
      have g1 := (same_new (o := HO.lst [T [97, 98], T [98, 97], T [98, 97]]) na2).trans g2
      have g0 := (same_new (o := HO.lst [V.ref p1, .ref p2, .ref p3, .ref p4]) na1).trans g1
      have e1 := g1 _ _ (upd_same (a := a1))
      have e2 := g2 _ _ (upd_same (a := a2))
      have e3 := g3 _ _ (upd_same (a := a3))
      have e4 := g4 _ _ (upd_same (a := a4))
      have e5 := g5 _ _ (upd_same (a := a5))
      have e6 := g6 _ _ (upd_same (a := a6))
      have e7 := g7 _ _ (upd_same (a := a7))
      have q1 := (s3.trans (s4.trans (s5.trans g0))) _ _ ep1
      have q2 := (s3.trans (s4.trans (s5.trans g0))) _ _ er1
      have q3 := (s4.trans (s5.trans g0)) _ _ ep2'
      have q4 := (s5.trans g0) _ _ ep3
      have q5 := (s5.trans g0) _ _ er3
      have q6 := g0 _ _ ep4'
      obtain ⟨w1, w2, w3, w4⟩ := told_ok
      refine ⟨.ref a1, .ref a8, told, rfl, ?_, ?_, w1, w2, w3, w4, _, rfl, iteF ?_⟩
      · exact .lst (SqL.of e1) (.cons (.tup (SqT.of q1) (.cons (.lst (SqL.of q2) (.cons (.str _) (.cons (.str _) (.cons (.str _) .nil)))) (.cons (.str _) .nil)))
          (.cons (.tup (SqT.of q3) (.cons (.int _) (.cons (.int _) .nil))) (.cons (.tup (SqT.of q4) (.cons (.lst (SqL.of q5) .nil) (.cons (.str _) .nil))) (.cons (.tup (SqT.of q6) (.cons (.int _) (.cons (.int _) .nil))) .nil))))
      · exact .lst (SqL.of upd_same) (.cons (.tup (SqT.of e3) (.cons (.lst (SqL.of e2) (.cons (.str _) (.cons (.str _) (.cons (.str _) .nil)))) (.cons (.str _) .nil)))
          (.cons (.tup (SqT.of e4) (.cons (.int _) (.cons (.int _) .nil))) (.cons (.tup (SqT.of e6) (.cons (.lst (SqL.of e5) .nil) (.cons (.str _) .nil))) (.cons (.tup (SqT.of e7) (.cons (.int _) (.cons (.int _) .nil))) .nil))))
      -- return same(missing("ab", "ab" * 150), (151, number("ab", 151, "ab" * 150)))
      refine ⟨_, 150, rfl, rfl, by decide, by decide, _, _, rfl, al_ab, by decide, by decide, fun H6 p5 s6 np5 ep5 => ?_⟩
      rw [lit5] at ep5
      refine ⟨_, 150, rfl, rfl, by decide, by decide, _, _, 151, rfl, by decide, by decide, by decide, fun H7 s7 => ?_⟩
      refine ⟨by show 2 ≤ sizeLine; decide, fun a9 na9 => ?_⟩
      obtain ⟨v1, v2, v3, v4⟩ := two_show (x := 151) (y := mis [97, 98] (List.replicate 150 [97, 98]).flatten 151 0) (by decide +kernel) (mis_small (by decide) (by decide))
      exact ⟨.ref p5, .ref a9, _, rfl, .tup (SqT.of ((snew s7 na9) _ _ ep5)) (.cons (.int _) (.cons (.int _) .nil)), .tup (SqT.of upd_same) (.cons (.int _) (.cons (.int _) .nil)), v1, v2, v3, v4, q _⟩
end
end K81

set_option Elab.async false
set_option linter.all false
set_option maxRecDepth 100000
set_option maxHeartbeats 0
namespace K81
open PySem PySem.Spec PyProof.Rows L2 Sk
theorem facts {P : Program} {w : World} {K : PySem.W.Frag} {h : Heap} {mg : Str → Option Value} {f : Addr} (X : K.In h) (G : h.Ns mainGlobals mg) (hfa : mg ("law" : Str) = some (.ref f)) (c : He.SaysD fa fn K) :
    ∃ fd : FuncData, (∀ (s : Shared) (v : Value), BindsTo s fd ⟨[v], []⟩ [("_law_script", v)]) ∧ ∀ base : Heap, K.In base → base.Ns mainGlobals mg → FnG P w K mg base 8 f fd ["_law_script"] (sp_law K) := by
  have F : Facts fa fn K mg := ⟨c, h, X, G⟩
  have e := hfa.symm.trans (F.glo 26 (x := "law"))
  cases e
  obtain ⟨fd, b, hF⟩ := F.lawG (P := P) (w := w) 26 sc_law (sp := sp_law K) (k := 7) (fun vs H Q E h => by
      obtain ⟨s, ns, rfl, _⟩ := h
      rfl) (fun _ _ _ _ _ _ us hl => match us, hl with | [_], _ => rfl) (fun base _ _ => by
      have c_is_string_of := ok_is_string_of (P := P) (w := w) (base := base) F
      have c_is_letters_alone := ok_is_letters_alone (P := P) (w := w) (base := base) F c_is_string_of
      have c_is_letters := ok_is_letters (P := P) (w := w) (base := base) F c_is_letters_alone
      have c_check_letters := ok_check_letters (P := P) (w := w) (base := base) F c_is_letters
      have c_is_text_over := ok_is_text_over (P := P) (w := w) (base := base) F c_is_string_of
      have c_check_over := ok_check_over (P := P) (w := w) (base := base) F c_is_text_over
      have c_arches_of := ok_arches_of (P := P) (w := w) (base := base) F
      have c_arches := ok_arches (P := P) (w := w) (base := base) F c_check_letters c_check_over c_arches_of
      have c_places_ahead := ok_places_ahead (P := P) (w := w) (base := base) F
      have c_missing := ok_missing (P := P) (w := w) (base := base) F c_check_letters c_check_over c_arches_of c_places_ahead
      have c_l_hash := ok_l_hash (P := P) (w := w) (base := base) F
      have c_l_random := ok_l_random (P := P) (w := w) (base := base) F c_l_hash
      have c_l_cell := ok_l_cell (P := P) (w := w) (base := base) F
      have c_l_generator := ok_l_generator (P := P) (w := w) (base := base) F c_l_cell
      have c_l_size := ok_l_size (P := P) (w := w) (base := base) F c_l_random
      have c_l_text := ok_l_text (P := P) (w := w) (base := base) F c_l_size c_l_random
      have c_l_is_read := ok_l_is_read (P := P) (w := w) (base := base) F
      have c_l_same := ok_l_same (P := P) (w := w) (base := base) F
      have c_l_has_all := ok_l_has_all (P := P) (w := w) (base := base) F
      have c_l_missing := ok_l_missing (P := P) (w := w) (base := base) F c_l_is_read
      have c_l_number := ok_l_number (P := P) (w := w) (base := base) F
      have c_l_alphabet := ok_l_alphabet (P := P) (w := w) (base := base) F c_l_size c_l_random
      have c_l_full_text := ok_l_full_text (P := P) (w := w) (base := base) F c_l_random c_l_text
      have c_l_arches_right := ok_l_arches_right (P := P) (w := w) (base := base) F c_arches c_l_has_all
      have c_l_right := ok_l_right (P := P) (w := w) (base := base) F c_l_alphabet c_l_full_text c_l_random c_l_text c_l_arches_right c_missing c_l_number c_l_same c_l_missing
      have c_l_long_right := ok_l_long_right (P := P) (w := w) (base := base) F c_l_alphabet c_l_full_text c_l_arches_right c_missing c_l_number c_l_same c_l_text c_l_is_read
      exact ok_law (P := P) (w := w) (base := base) F c_l_generator c_l_right c_l_long_right c_arches c_missing c_l_same c_l_number)
  exact ⟨fd, fun s v => b s [v] rfl, hF⟩
end K81
open PySem PySem.W PySem.Calls PyProof.Rows
theorem PySem.Challenge.cw_skipcounts_k81_arches_and_missing_texts_holds : PySem.Challenge.rw_skipcounts_k81_arches_and_missing_texts.Holds := by
  w_on; o_law
  refine HandSHeadRun.head_any (r := OpenLaw.row PySem.Challenge.rw_skipcounts_k81_arches_and_missing_texts) (q := view (OpenLaw.row PySem.Challenge.rw_skipcounts_k81_arches_and_missing_texts).prog [40]) (H := K81.hk) (ob := K81.ob) (M := 4000) (loose := K81.lo) (d := HandSHeadRun.topDef (OpenLaw.row PySem.Challenge.rw_skipcounts_k81_arches_and_missing_texts).prog 40) (kwd := []) K81.ob_eq
    (by kernel_rfl) (fun s => by kernel_rfl) K81.run (by kernel_rfl) (by kernel_rfl) (by kernel_rfl) (by rfl) (by first | assumption | decide +kernel) (by decide +kernel) ⟨rfl, rfl, rfl, rfl, rfl, by decide +kernel⟩ ?hw ?hc
  case hw => w_witness2
  case hc =>
    refine Sk.walk_G (l := PySem.Challenge.rw_skipcounts_k81_arches_and_missing_texts) (n := 63) (k := 8) (x := "_law_script") rfl (by decide) (by kernel_rfl) ⟨rfl, by decide, by decide⟩ ?F
    intro w mg fa h Y G hmg0
    obtain ⟨K, KX, c⟩ := Y
    have hmg : mg ("law" : PySem.Str) = some (.ref fa) := by
      have e : (HandSHeadRun.topDef (OpenLaw.row PySem.Challenge.rw_skipcounts_k81_arches_and_missing_texts).prog 40).name = ("law" : PySem.Str) := by kernel_rfl
      rw [← e]
      exact hmg0
    obtain ⟨fd, hb, hF⟩ := K81.facts (P := (PySem.Challenge.rw_skipcounts_k81_arches_and_missing_texts).prog) (w := w) KX G hmg c
    exact ⟨K, fd, K81.sp_law K, KX, hb, fun H a ns hl hS => ⟨a, ns, rfl, hS, fun _ => rfl⟩, hF⟩

