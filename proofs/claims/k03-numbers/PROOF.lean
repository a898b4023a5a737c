import PyProof.Rows.All
import Wide.All
import OpenK.AllK
import Wide.FinOn
import HandS.ForMost
import HandS.More
import HandS.Defaults
import HandS.MakeKwOnly
import HandS.Codes
import HandS.IsInst
import HandS.Deep
import HandS.Walk
import HandS.Style
import HandS.TupAny
import KE.IntTextLaws
import KE.DataEq
import HandS.RaiseMore
import HandS.Head0
import HandS.Head1
import HandS.Head2
import HandS.HeadEnd
import HandS.HeadHook1
import HandS.HeadHook2
import PySem.Challenge.RW_listviews_k03_numbers_and_words_in_texts
set_option Elab.async false
set_option linter.all false
set_option maxRecDepth 100000
set_option maxHeartbeats 8000000
namespace Lv
open PySem PySem.Spec PyProof.Rows L2

/-- no repr is running around -/
abbrev Quiet (A : Around) : Prop := A.guards = some []

/-- a def that keeps its promise wherever no repr is running -/
structure FnG (P : Program) (w : World) (K : PySem.W.Frag) (mg : Str → Option Value) (base : Heap) (CX : CXT) (k : Nat) (f : Addr) (fd : FuncData) (ps : List Str) (sp : Sp) : Prop where
  len : ∀ vs H Q E, sp vs H Q E → vs.length = ps.length
  run : ∀ (A : Around) (outer : List Env) (s : Shared) (H : Hp) (args : Args) (us : List Value) (vs : List V) (Q : VK) (E : XK), Quiet A → Room k A →
    Env0 P w K mg base A outer s H → BindsTo s fd args (ps.zip us) → Vals vs us → sp vs H Q E → codeAny (model P w) A (.call (.ref f) args) (CR CX outer P w H s Q E) s

theorem FnG.of {P : Program} {w : World} {K : PySem.W.Frag} {mg : Str → Option Value} {base : Heap} {CX : CXT} {k : Nat} {f : Addr} {fd : FuncData} {ps : List Str} {sp : Sp}
    (F : FnOk P w K mg base CX k f fd ps sp) : FnG P w K mg base CX k f fd ps sp :=
  ⟨F.len, fun A outer s H args us vs Q E _ => F.run A outer s H args us vs Q E⟩

theorem quiet_deeper {A : Around} (h : Quiet A) (env : Env) : Quiet (A.deeper env) := h

theorem fnG_of {CX : CXT} {P : Program} {w : World} {K : PySem.W.Frag} {mg : Str → Option Value} {base : Heap} {k : Nat} {f : Addr} {fd : FuncData}
    {x qual : Str} {params : Arguments} {body : List Stmt} {scope : Scope} {dvs : List V} {kws : List (Str × V)} {N ps : List Str} {sp : Sp}
    (F : FunD K x qual params body scope dvs kws f fd) (S : FnScope N ps scope) (len : ∀ vs H Q E, sp vs H Q E → vs.length = ps.length)
    (hbody : ∀ (cdv : Value) (A : Around) (outer : List Env) (s : Shared) (H : Hp) (vs : List V) (Q : VK) (E : XK), Quiet A →
      Room k (A.deeper (envOfC qual scope s.heap.objs.size f cdv)) → sp vs H Q E →
      ∃ t, PSs (cxOf CX P w K mg base N qual scope f cdv A outer s H E) body t ∧ t { nx := fun _ H' => Q .non H', rt := Q } (start N vs) H) :
    FnG P w K mg base CX (k + 1) f fd ps sp := by
  obtain ⟨oc, od, dV, kV, doc, pm, an, cdv, ct, osl, rfl, lk, hcd, _, _⟩ := F.ex
  refine ⟨len, ?_⟩
  intro A outer s H args us vs Q E hquiet hr e0 hb rv hsp
  have inK : K.In s.heap := e0.mod.kin.keeps (fun b o h => (e0.bs b o h).1)
  have unl : s.heap.NoLimit := e0.mod.nolimit.keeps (fun b o h => (e0.bs b o h).1)
  have kinds : ∀ y ∈ ps.zip us, scope.names.lookup y.1 = some .local ∨
      (scope.names.lookup y.1 = some .cell ∧ ((cellsFrom (s.heap.objs.size + 1) scope.names []).lookup y.1).isSome = true) := by
    intro y hy
    have hm : y.1 ∈ ps := by
      obtain ⟨n, v⟩ := y
      exact (List.of_mem_zip hy).1
    cases S.par y.1 hm with
    | inl q => exact Or.inl q
    | inr q => exact Or.inr ⟨q, PySem.W.cellsFrom_some _ _ _ (Or.inl q)⟩
  apply codeAny_call_function hr.depth (inK _ _ lk) rfl S.co S.gen rfl (PySem.W.codeRec_of inK hcd)
  apply hb
  apply wpAny_newFunctionEnv_cells S.kind kinds
  intro env henv s1 inc
  subst henv
  refine ⟨unl.keeps inc.toInCall.keep, codeAny_func ?_⟩
  obtain ⟨t, pt, rd⟩ := hbody cdv A outer s H vs Q E hquiet (hr.deeper _) hsp
  have I := inv_start (CX := CX) (E := E) S hr.hd e0 (len _ _ _ _ hsp) rv inc
  refine wpAny_mono (pt.run [] s1 (start N vs) H _ I rd) ?_ (fun _ _ h => h)
  intro fl s' hs
  match fl, hs with
  | .ret u, ⟨v, σ', H', J, ru, q⟩ => exact ⟨v, H', J.os, J.bare, J.base, J.hok, ru, q⟩
  | .next, ⟨σ', H', J, q⟩ => exact ⟨V.non, H', J.os, J.bare, J.base, J.hok, rfl, q⟩
  | .brk, ⟨_, _, _, q⟩ => exact q.elim
  | .cont, ⟨_, _, _, q⟩ => exact q.elim

/-- such a def called by its name (positional arguments, defaults dvs) -/
structure CalG (P : Program) (w : World) (K : PySem.W.Frag) (mg : Str → Option Value) (base : Heap) (k : Nat) (x : Str) (sp : Sp) (dvs : List V) : Prop where
  ex : ∃ (f : Addr) (fd : FuncData) (ps : List Str) (ds : List Value), FnG P w K mg base CX0 k f fd ps sp ∧ mg x = some (.ref f) ∧ PySem.W.keepIn K (.ref f) = true ∧ Binds K fd ps ds ∧ Vals dvs ds

section
variable {X : Cx} {k j : Nat} {x : Str} {sp : Sp} {dvs : List V} {p pos : Pos} {e : Expr} {es : List Expr} {t : TA}
theorem pe_cG (c : CalG X.prog X.w X.K X.mg X.base k x sp dvs) (hqt : Quiet X.A) (hr : Room j X.A) (hk : k ≤ j) (hg : Gl X x) (ha : PA X (e :: es) t)
    (hdb : (x == ("__debug__" : Str)) = false := by decide) (he : starEach (e :: es) X.env = (false, eval e X.env) :: starEach es X.env := by rfl)
    (hpl : (backTo pos (starEach es X.env)).any (·.1) = false := by rfl) :
    PE X (.Call (.Name x p) (e :: es) [] pos) (tCall sp dvs E0 t) := by
  obtain ⟨f, fd, ps, ds, F, hm, kp, b, d⟩ := c.ex
  constructor
  intro pins s σ H Q I h
  apply wpAny_Call_Name_kw
  apply ld_glob I hg hm _ hdb
  apply PySem.W.callWith_K (h₀ := X.base) I.ok.mod.kin kp _ he hpl
  refine thn (ha.run pos pins s σ H _ I h) ?_
  intro us s1 hs
  obtain ⟨vs, H1, I1, rv, q⟩ := hs
  refine ⟨I1.kIn, ?_⟩
  have rr : Vals (vs ++ dvs) (us ++ ds) := rv.append d
  have hl : (us ++ ds).length = ps.length := by
    rw [← rr.length]
    exact F.len _ _ _ _ q
  refine wpAny_call (codeAny_mono (F.run X.A X.stack s1 H1 ⟨us, []⟩ (us ++ ds) (vs ++ dvs) Q E0 hqt (hr.mono hk) I1.env0 (b s1 us I1.kIn hl) rr q) ?_)
  intro r s2 hr2
  match r, hr2 with
  | .error _, z => exact z.elim
  | .ok (.ret u), z => exact I1.after z
  | .ok .next, z => exact z.elim
  | .ok .brk, z => exact z.elim
  | .ok .cont, z => exact z.elim
end

/-- the end of a law: its def keeps its promise wherever no repr is running -/
theorem law_callG {P : Program} {w : World} {K : PySem.W.Frag} {mg mb : Str → Option Value} {k : Nat} {fa a : Addr} {fd : FuncData} {x : Str} {sp : Sp} {s1 : Shared} {vs : List Value} {ns : List Int}
    (KX : K.In s1.heap) (hns : s1.heap.Ns mainGlobals mg) (hb : s1.heap.Ns builtinsNs mb) (hbb : ∀ x : Str, x ≠ "__name__" → mb x = bootBuiltins x)
    (hlim : s1.heap.NoLimit) (hg : s1.gens = #[]) (ha : s1.heap.get? a = some { cls := .type "list", data := .seq vs.toArray }) (hi : IntsAre vs ns)
    (hl : ns.length ≤ sizeLine) (hr : Room k callerA)
    (F : ∀ base : Heap, K.In base → base.Ns mainGlobals mg → FnG P w K mg base CX0 k fa fd [x] sp)
    (hbind : ∀ (s : Shared) (u : Value), BindsTo s fd ⟨[u], []⟩ [(x, u)])
    (hsp : ∀ H : Hp, Only H → SqL K H a (ns.map V.int) → sp [.ref a] H (fun v _ => v = .bl true) fun _ _ _ => False) :
    codeAny (model P w) callerA (.call (.ref fa) ⟨[.ref a], []⟩) (fun r s' => r = .ok (.ret (.bool true)) ∧ OldK s1.heap s'.heap ∧ s'.os = s1.os ∧ AllBare s'.gens) s1 := by
  have rv := vals_ints hi
  have main : ∀ H : Hp, Only H → SqL K H a (ns.map V.int) → HOk P w H s1.heap → (∀ b, H b ≠ none → b = a) → (H a ≠ none → K.lookup a = none) →
      codeAny (model P w) callerA (.call (.ref fa) ⟨[.ref a], []⟩) (fun r s' => r = .ok (.ret (.bool true)) ∧ OldK s1.heap s'.heap ∧ s'.os = s1.os ∧ AllBare s'.gens) s1 := by
    intro H hO hS hok hA hK
    have away : ∀ b, b ≠ a → H b = none := by
      intro b hne
      cases q : H b with
      | none => rfl
      | some u => exact absurd (hA b (by rw [q]; exact fun z => nomatch z)) hne
    have ndict : ∀ {b : Addr} {o : Obj} {es : Array DictEntry} {ep : Nat}, s1.heap.get? b = some o → o.data = .dict es ep → H b = none := by
      intro b o es ep e d
      apply away
      intro z
      rw [z, ha] at e
      cases e
      cases d
    have nsT : ∀ {b : Addr} {m : Str → Option Value}, s1.heap.Ns b m → (hidT s1.heap H).Ns b m := by
      rintro b m ⟨o, es, ep, e, d, r⟩
      exact ⟨o, es, ep, hidT_get e (ndict e d), d, r⟩
    have KH : K.In (hidT s1.heap H) := by
      intro b o e
      refine hidT_get (KX b o e) ?_
      by_cases hba : b = a
      · cases q : H b with
        | none => rfl
        | some u =>
          have z : K.lookup a = none := hK (by rw [← hba, q]; exact fun z => nomatch z)
          rw [← hba, e] at z
          cases z
      · exact away b hba
    have hM : Mod K mg (hidT s1.heap H) := by
      refine ⟨KH, nsT hns, ⟨mb, nsT hb, hbb⟩, ?_⟩
      obtain ⟨mc, h1, h2⟩ := hlim
      exact ⟨mc, nsT h1, h2⟩
    have e0 : Env0 P w K mg (hidT s1.heap H) callerA [] s1 H :=
      ⟨rfl, hM, fun b o e => of_hidT e, Nat.le_of_eq (hidT_size _ _), trivial, fun b z => absurd (show b ∈ ([] : List Addr) from z) List.not_mem_nil, hok, .of_eq hg⟩
    refine codeAny_mono ((F _ KH (nsT hns)).run callerA [] s1 H ⟨[.ref a], []⟩ [.ref a] [.ref a] _ _ rfl hr e0 (hbind s1 (.ref a)) (.cons rfl .nil) (hsp H hO hS)) ?_
    intro r s' h
    match r, h with
    | .error _, z => exact z.elim
    | .ok .next, z => exact z.elim
    | .ok .brk, z => exact z.elim
    | .ok .cont, z => exact z.elim
    | .ok (.ret u), ⟨v, H', os, bare, un, hok', ru, q⟩ =>
      have ev : v = .bl true := q
      subst ev
      have eu : u = Value.bool true := ru
      subst eu
      refine ⟨rfl, OldK.of_keep ?_, os, bare⟩
      intro b o e
      cases hHb : H b with
      | none => exact un.keep b o e hHb (fun z => absurd (show b ∈ ([] : List Addr) from z) List.not_mem_nil) List.not_mem_nil
      | some u =>
        rcases hO b with z | ⟨ob, xs, z⟩
        · rw [hHb] at z
          cases z
        · have z2 := un.frzs b ob _ z
          obtain ⟨e1, _⟩ := hok b _ z
          obtain ⟨e2, _⟩ := hok' b _ z2
          rw [e] at e1
          cases e1
          exact e2
  cases hk : K.lookup a with
  | some o =>
    have e := KX a o hk
    rw [ha] at e
    cases e
    refine main (fun _ => none) (fun _ => Or.inl rfl) (Or.inr ⟨_, vs.toArray, _, hk, rfl, rfl, rfl, ?_, ?_⟩) (fun b u z => nomatch z) (fun b z => absurd rfl z) (fun z => absurd rfl z)
    · rw [List.size_toArray, hi.length]
      exact hl
    · exact rv
  | none =>
    have at_a : ∀ b, (if b = a then some (HO.frz { cls := .type "list", data := .seq vs.toArray } (.lst (ns.map V.int))) else none) ≠ none → b = a := by
      intro b z
      by_cases hb : b = a
      · exact hb
      · rw [if_neg hb] at z
        exact absurd rfl z
    refine main (fun b => if b = a then some (.frz { cls := .type "list", data := .seq vs.toArray } (.lst (ns.map V.int))) else none) ?_ (Or.inl (Or.inr ⟨_, if_pos rfl⟩)) ?_ at_a (fun _ => hk)
    · intro b
      by_cases hb : b = a
      · exact Or.inr ⟨_, _, if_pos hb⟩
      · exact Or.inl (if_neg hb)
    · intro b u z
      have hb : b = a := at_a b (fun q => nomatch (z.symm.trans q))
      have z2 := (if_pos hb).symm.trans z
      cases z2
      subst hb
      exact ⟨ha, by rw [List.length_map]; exact hl, vs, _, rv, ha⟩

theorem walk_ofG {l : PySem.W.OpenLaw} {n k : Nat} {q : Program} {loose : List Str} {XP : (Str → Option Value) → Heap → Prop} {YP : World → Heap → Prop} {d : DefRec} {x : Str}
    (hn : l.most = some n) (hn2 : n ≤ sizeLine) (hdf : d.params.defaults = []) (hr : Room k callerA)
    (F : ∀ (w : World) (mg : Str → Option Value) (fa : Addr) (h : Heap), YP w h → h.Ns mainGlobals mg → mg d.name = some (.ref fa) →
      ∃ (K : PySem.W.Frag) (fd : FuncData) (sp : Sp), K.In h ∧ (∀ (s : Shared) (u : Value), BindsTo s fd ⟨[u], []⟩ [(x, u)]) ∧
        (∀ (H : Hp) (a : Addr) (ns : List Int), ns.length ≤ n → Only H → SqL K H a (ns.map V.int) → sp [.ref a] H (fun v _ => v = .bl true) fun _ _ _ => False) ∧
        ∀ base : Heap, K.In base → base.Ns mainGlobals mg → FnG l.prog w K mg base CX0 k fa fd [x] sp) :
    PySem.W.WalkO q loose XP YP l.row.toRowW d [] (fun f vs => PySem.call f vs) := by
  apply Att.attach_call hn hdf
  intro w s0 s1 mg mb fa o pm cd doc a vs ns G Y ho hd hcd hmg hobj hints hlen hg
  obtain ⟨K, fd, sp, KX, hb, hsp, hF⟩ := F w mg fa _ Y G.T.g hmg
  exact law_callG KX G.T.g G.T.b G.T.builtins G.T.nolimit hg hobj hints (Nat.le_trans hlen hn2) hr hF hb (fun H hO hS => hsp H a ns hlen hO hS)

/-! ### repr of data -/
mutual
theorem dp_noDict {K : PySem.W.Frag} {H : Hp} : ∀ {v : V} {d : PyData}, Dp K H v d → d.hasDict = false
  | _, _, .non => by simp only [PyData.hasDict]
  | _, _, .bl _ => by simp only [PyData.hasDict]
  | _, _, .int _ => by simp only [PyData.hasDict]
  | _, _, .str _ => by simp only [PyData.hasDict]
  | _, _, .lst _ h => by simp only [PyData.hasDict]; exact dp_noDictAll h
  | _, _, .tup _ h => by simp only [PyData.hasDict]; exact dp_noDictAll h
theorem dp_noDictAll {K : PySem.W.Frag} {H : Hp} : ∀ {vs : List V} {ds : List PyData}, DpAll K H vs ds → PyData.hasDictAll ds = false
  | _, _, .nil => by simp only [PyData.hasDictAll]
  | _, _, .cons h t => by simp only [PyData.hasDictAll, dp_noDict h, dp_noDictAll t, Bool.or_self]
end
def rReprD (K : PySem.W.Frag) : List V → Hp → VK → Prop := fun xs H Q => ∃ v d, xs = [v] ∧ Dp K H v d ∧ d.showable = true ∧ d.depth ≤ 60 ∧ d.shown.length ≤ sizeLine ∧ Q (.str d.shown) H
theorem call_reprD {X : Cx} (hq : Quiet X.A) (hu : X.A.units + 64 < cLine) : CallR X (.builtin "repr") (rReprD X.K) := by
  intro pins s σ H xs us Q I r h
  obtain ⟨v, d, rfl, hd, hs, hdep, hsz, q⟩ := h
  obtain ⟨u, rfl, ru⟩ := vals1 r
  obtain ⟨as, rd⟩ := Dp.reads I d v u hd ru
  cases hd with
  | non =>
    cases ru
    exact PySem.P.repr_of_none ⟨.str _, H, I.tok _, ⟨_, rfl⟩, by simpa only [PyData.shown] using q⟩
  | bl b =>
    cases ru
    exact PySem.P.repr_of_bool ⟨.str _, H, I.tok _, ⟨_, rfl⟩, by simpa only [PyData.shown] using q⟩
  | int i =>
    obtain ⟨t, rfl⟩ := ru
    exact PySem.P.repr_of_int (by simpa [PyData.showable] using hs) ⟨.str _, H, I.tok _, ⟨_, rfl⟩, by simpa only [PyData.shown] using q⟩
  | str x =>
    obtain ⟨t, rfl⟩ := ru
    exact PySem.P.repr_of_str (hsz := by simpa only [PyData.shown] using hsz) ⟨.str _, H, I.tok _, ⟨_, rfl⟩, by simpa only [PyData.shown] using q⟩
  | lst h1 h2 =>
    cases ru
    have nd := dp_noDict (Dp.lst h1 h2)
    exact repr_of_reads' rd hs (fun z => by rw [nd] at z; cases z) hq (by omega) (fun _ _ e => e) (fun h' u tk hk => ⟨.str _, H, I.kept hk, ⟨_, rfl⟩, q⟩) hsz
  | tup h1 h2 =>
    cases ru
    have nd := dp_noDict (Dp.tup h1 h2)
    exact repr_of_reads' rd hs (fun z => by rw [nd] at z; cases z) hq (by omega) (fun _ _ e => e) (fun h' u tk hk => ⟨.str _, H, I.kept hk, ⟨_, rfl⟩, q⟩) hsz

/-! ### a def by its body, ready to be called by its name -/
section
variable {P : Program} {w : World} {K : PySem.W.Frag} {mg : Str → Option Value} {base : Heap} {x qual : Str} {params : Arguments} {body : List Stmt} {scope : Scope} {kws : List (Str × V)} {f : Addr} {fd : FuncData} {N ps : List Str} {k : Nat} {sp : Sp}
theorem cal_of (F : FunD K x qual params body scope [] kws f fd) (hm : mg x = some (.ref f)) (b : Binds K fd ps []) (S : FnScope N ps scope) (len : ∀ vs H Q E, sp vs H Q E → vs.length = ps.length)
    (hbody : ∀ (cdv : Value) (A : Around) (outer : List Env) (s : Shared) (H : Hp) (vs : List V) (Q : VK) (E : XK), Room k (A.deeper (envOfC qual scope s.heap.objs.size f cdv)) → sp vs H Q E →
      ∃ t, PSs (cxOf CX0 P w K mg base N qual scope f cdv A outer s H E).nox body t ∧ t { nx := fun _ H' => Q .non H', rt := Q } (start N vs) H) :
    C8.Cal P w K mg base (k + 1) x sp [] := by
  refine ⟨f, fd, ps, [], F.ok S len ?_, hm, F.kp, b, .nil⟩
  intro cdv A outer s H vs Q E hr h
  obtain ⟨t, p, q⟩ := hbody cdv A outer s H vs Q E hr h
  exact ⟨t, p.nox, q⟩
theorem calG_of (F : FunD K x qual params body scope [] kws f fd) (hm : mg x = some (.ref f)) (b : Binds K fd ps []) (S : FnScope N ps scope) (len : ∀ vs H Q E, sp vs H Q E → vs.length = ps.length)
    (hbody : ∀ (cdv : Value) (A : Around) (outer : List Env) (s : Shared) (H : Hp) (vs : List V) (Q : VK) (E : XK), Quiet A → Room k (A.deeper (envOfC qual scope s.heap.objs.size f cdv)) → sp vs H Q E →
      ∃ t, PSs (cxOf CX0 P w K mg base N qual scope f cdv A outer s H E).nox body t ∧ t { nx := fun _ H' => Q .non H', rt := Q } (start N vs) H) :
    CalG P w K mg base (k + 1) x sp [] := by
  refine ⟨f, fd, ps, [], fnG_of F S len ?_, hm, F.kp, b, .nil⟩
  intro cdv A outer s H vs Q E hq hr h
  obtain ⟨t, p, q⟩ := hbody cdv A outer s H vs Q E hq hr h
  exact ⟨t, p.nox, q⟩
end

/-! ### heaps -/
/-- all that was tracked stands -/
def Ex (H H' : Hp) : Prop := ∀ a o, H a = some o → H' a = some o
/-- all that was tracked stands, but what lies at b -/
def Ch (b : Addr) (H H' : Hp) : Prop := ∀ a o, a ≠ b → H a = some o → H' a = some o
theorem Ex.refl (H : Hp) : Ex H H := fun _ _ h => h
theorem Ex.trans {H H1 H2 : Hp} (e : Ex H H1) (f : Ex H1 H2) : Ex H H2 := fun a o h => f a o (e a o h)
theorem Ex.ch {b : Addr} {H H' : Hp} (e : Ex H H') : Ch b H H' := fun a o _ h => e a o h
theorem Ch.refl (b : Addr) (H : Hp) : Ch b H H := fun _ _ _ h => h
theorem Ch.trans {b : Addr} {H H1 H2 : Hp} (e : Ch b H H1) (f : Ch b H1 H2) : Ch b H H2 := fun a o n h => f a o n (e a o n h)
theorem Ex.new {H : Hp} {p : Addr} {o : HO} (h : H p = none) : Ex H (upd H p o) := fun a u e => by
  rw [upd_ne (ne_of_none e h)]
  exact e
theorem Ch.put {H : Hp} {b : Addr} {o : HO} : Ch b H (upd H b o) := fun a u n e => by
  rw [upd_ne n]
  exact e
theorem Ex.back {H H' : Hp} {p : Addr} (e : Ex H H') (h : H' p = none) : H p = none := by
  cases q : H p with
  | none => rfl
  | some o =>
    rw [e p o q] at h
    cases h
/-- a new object, the heap left open -/
theorem new_ {H : Hp} {o : HO} {Q : VK} (h : ∀ p H', H p = none → Ex H H' → H' p = some o → Q (.ref p) H') : ∀ p, H p = none → Q (.ref p) (upd H p o) :=
  fun p hp => h p _ hp (Ex.new hp) upd_same
theorem sql_of {K : PySem.W.Frag} {H : Hp} {a : Addr} {xs : List V} (h : H a = some (.lst xs)) : SqL K H a xs := .inl (.inl h)
theorem sqt_of {K : PySem.W.Frag} {H : Hp} {a : Addr} {xs : List V} (h : H a = some (.tup xs)) : SqT K H a xs := .inl (.inl h)

/-! ### the box of draws -/
/-- at b a box stands, of which at most c draws were mixed -/
def Bx (H : Hp) (b : Addr) (c : Nat) : Prop := ∃ x y z : Int, H b = some (.lst [.int x, .int y, .int z]) ∧ 0 ≤ x ∧ 0 ≤ y ∧ y < 2147483629 ∧ 0 ≤ z ∧ z ≤ c
theorem Bx.ex {H H' : Hp} {b : Addr} {c : Nat} (e : Ex H H') (h : Bx H b c) : Bx H' b c := by
  obtain ⟨x, y, z, hb, r⟩ := h
  exact ⟨x, y, z, e _ _ hb, r⟩
theorem Bx.le {H : Hp} {b : Addr} {c c' : Nat} (l : c ≤ c') (h : Bx H b c) : Bx H b c' := by
  obtain ⟨x, y, z, hb, h1, h2, h3, h4, h5⟩ := h
  exact ⟨x, y, z, hb, h1, h2, h3, h4, by omega⟩
theorem Bx.ne {H : Hp} {b p : Addr} {c : Nat} (h : Bx H b c) (hp : H p = none) : p ≠ b := by
  obtain ⟨x, y, z, hb, _⟩ := h
  exact (ne_of_none hb hp).symm
def spCel (K : PySem.W.Frag) : Sp := fun vs H Q _ => ∃ (a : Addr) (ns : List Int) (k : Int), vs = [.ref a, .int k] ∧ SqL K H a (ns.map V.int) ∧ 0 ≤ k ∧ k ≤ 1000 ∧ ∀ c : Int, Q (.int c) H
def spBox : Sp := fun vs H Q _ => ∃ c : Int, vs = [.int c] ∧ ∀ p H', H p = none → Ex H H' → Bx H' p 0 → Q (.ref p) H'
def spTake : Sp := fun vs H Q _ => ∃ (b : Addr) (n : Int) (c : Nat), vs = [.ref b, .int n] ∧ Bx H b c ∧ c ≤ 1000000 ∧ 0 < n ∧ n < 1073741824 ∧
  ∀ r H', 0 ≤ r → r < n → Ch b H H' → Bx H' b (c + 1) → Q (.int r) H'

/-! ### places of lists -/
theorem atI_at {α : Type} {xs : List α} {i : Int} {v : α} (h0 : 0 ≤ i) (h : xs[i.toNat]? = some v) : atI xs i = some v := by
  have q := atI_nat h
  rw [Int.toNat_of_nonneg h0] at q
  exact q
theorem atI_mem {α : Type} {xs : List α} {i : Int} (h0 : 0 ≤ i) (h1 : i < xs.length) : ∃ v, atI xs i = some v ∧ v ∈ xs := by
  have hn : i.toNat < xs.length := by omega
  exact ⟨xs[i.toNat], atI_at h0 (List.getElem?_eq_getElem hn), List.getElem_mem hn⟩

/-! ### comprehensions -/
/-- no draws: what a turn makes is told by f (none: left out) -/
theorem lc_pure {J : It} {n : Nat} {G : Hp → Prop} {Y : Nat → Hp → V → Hp → Prop} (wk : Walk J n G Y) {g : TG} {tt : TT} {te : TE} {vs : List Nat} {σ : L2.St} {H1 : Hp} {D : Addr} {Qd : Hp → Prop} (hD : H1 D = none)
    (f : Nat → Option V) (hn : n ≤ 1000000) (hG : ∀ H, Ex H1 H → G H)
    (hs : ∀ i x H H' (A : VK) (B : Hp → Prop), i < n → Ex H1 H → Y i H x H' → (∀ y H4, Ex H H4 → f i = some y → A y H4) → (∀ H3, Ex H H3 → f i = none → B H3) →
      g x (wipe σ vs) H' fun σ2 H2 => wipe σ2 vs = wipe σ vs ∧ tt σ2 H2 fun b H3 => if b = true then te σ2 H3 A else B H3)
    (hd : ∀ H, Ex H1 H → H D = some (.lst ((List.range n).filterMap f)) → Qd H) :
    ∃ W : Nat → Nat → Hp → Prop, (∃ m, W 0 m (upd H1 D (.lst []))) ∧ ∀ i m H, W i m H →
      (J.stop i H ∧ Qd H) ∨ (J.go i H ∧ ∃ Nx : Hp → Prop, (∀ H', Nx H' → ∃ m', m' < m ∧ W (i + 1) m' H') ∧ ∀ x H', J.yld i H x H' → g x (wipe σ vs) H' fun σ2 H2 => wipe σ2 vs = wipe σ vs ∧ tt σ2 H2 fun b H3 =>
        if b = true then te σ2 H3 fun y H4 => ∃ acc, H4 D = some (.lst acc) ∧ acc.length < sizeLine ∧ Nx (upd H4 D (.lst (acc ++ [y]))) else Nx H3) := by
  have put : ∀ {H : Hp} {o : HO}, Ex H1 H → Ex H1 (upd H D o) := fun {H o} e a u ha => by
    rw [upd_ne (ne_of_none ha hD)]
    exact e a u ha
  refine lc_it wk (fun i H => Ex H1 H ∧ H D = some (.lst ((List.range i).filterMap f))) ⟨put (Ex.refl _), upd_same⟩ (fun i H _ h => hG H h.1) ?_ (fun H h => hd H h.1 h.2)
  rintro i x H H' hi ⟨e, hacc⟩ y
  have hlen : ((List.range i).filterMap f).length < sizeLine := by
    have h1 : ((List.range i).filterMap f).length ≤ (List.range i).length := List.length_filterMap_le _ _
    rw [List.length_range] at h1
    exact Nat.lt_of_lt_of_le (Nat.lt_of_le_of_lt h1 hi) (Nat.le_trans hn (by decide))
  refine hs i x H H' _ _ hi e y (fun v H4 e4 ef => ?_) (fun H3 e3 ef => ?_)
  · refine ⟨_, e4 _ _ hacc, hlen, put (e.trans e4), ?_⟩
    rw [upd_same, List.range_succ, List.filterMap_append]
    simp [ef]
  · refine ⟨e.trans e3, ?_⟩
    rw [e3 _ _ hacc, List.range_succ, List.filterMap_append]
    simp [ef]
/-- draws in each turn of a range, every item kept -/
theorem lc_draw {lo : Int} {n : Nat} {g : TG} {te : TE} {vs : List Nat} {σ : L2.St} {H1 : Hp} {D b : Addr} {c : Nat} {Qd : Hp → Prop} (k : Nat) (R : V → Prop) (hD : H1 D = none) (hB : Bx H1 b c) (hn : n ≤ 1000000)
    (hs : ∀ i H (A : VK), i < n → Ch b H1 H → Bx H b (c + i * k) → (∀ y H4, R y → Ch b H H4 → Bx H4 b (c + (i + 1) * k) → A y H4) →
      g (.int (lo + i)) (wipe σ vs) H fun σ2 H2 => wipe σ2 vs = wipe σ vs ∧ te σ2 H2 A)
    (hd : ∀ H acc, Ch b H1 H → Bx H b (c + n * k) → H D = some (.lst acc) → acc.length = n → (∀ y ∈ acc, R y) → Qd H) :
    ∃ W : Nat → Nat → Hp → Prop, (∃ m, W 0 m (upd H1 D (.lst []))) ∧ ∀ i m H, W i m H →
      ((Itr lo n).stop i H ∧ Qd H) ∨ ((Itr lo n).go i H ∧ ∃ Nx : Hp → Prop, (∀ H', Nx H' → ∃ m', m' < m ∧ W (i + 1) m' H') ∧ ∀ x H', (Itr lo n).yld i H x H' → g x (wipe σ vs) H' fun σ2 H2 => wipe σ2 vs = wipe σ vs ∧ tYes σ2 H2 fun b H3 =>
        if b = true then te σ2 H3 fun y H4 => ∃ acc, H4 D = some (.lst acc) ∧ acc.length < sizeLine ∧ Nx (upd H4 D (.lst (acc ++ [y]))) else Nx H3) := by
  have nDb : D ≠ b := hB.ne hD
  have put : ∀ {H : Hp} {o : HO}, Ch b H1 H → Ch b H1 (upd H D o) := fun {H o} e a u n ha => by
    rw [upd_ne (ne_of_none ha hD)]
    exact e a u n ha
  have putB : ∀ {H : Hp} {o : HO} {c : Nat}, Bx H b c → Bx (upd H D o) b c := fun {H o c} ⟨x, y, z, hb, r⟩ => ⟨x, y, z, by rw [upd_ne nDb.symm]; exact hb, r⟩
  refine lc_range (lo := lo) (fun i H => Ch b H1 H ∧ Bx H b (c + i * k) ∧ ∃ acc, H D = some (.lst acc) ∧ acc.length = i ∧ ∀ y ∈ acc, R y) ⟨put (Ch.refl _ _), ?_, [], upd_same, rfl, fun y hy => nomatch hy⟩ ?_ ?_
  · rw [Nat.zero_mul]
    exact putB hB
  · rintro i H hi ⟨e, B, acc, hacc, hl, hR⟩
    refine hs i H _ hi e B ?_
    rintro v H4 r e4 B4
    refine ⟨acc, e4 _ _ nDb hacc, ?_, put (e.trans e4), putB B4, acc ++ [v], upd_same, ?_, ?_⟩
    · rw [hl]
      exact Nat.lt_of_lt_of_le hi (Nat.le_trans hn (by decide))
    · rw [List.length_append, hl]
      rfl
    · intro y hy
      rcases List.mem_append.mp hy with h | h
      · exact hR y h
      · rw [List.mem_singleton.mp h]
        exact r
  · rintro H ⟨e, B, acc, hacc, hl, hR⟩
    exact hd H acc e B hacc hl hR

/-! ### what stays while only b changes -/
def Sta (b : Addr) (H : Hp) (R : Hp → Prop) : Prop := ∀ H', Ch b H H' → R H'
theorem Sta.ch {b : Addr} {H H' : Hp} {R : Hp → Prop} (s : Sta b H R) (e : Ch b H H') : Sta b H' R := fun H2 e2 => s H2 (e.trans e2)
theorem Sta.now {b : Addr} {H : Hp} {R : Hp → Prop} (s : Sta b H R) : R H := s H (Ch.refl _ _)

theorem range_filterMap {α : Type} (xs : List α) (F : α → Option V) : (List.range xs.length).filterMap (fun i => (xs[i]?).bind F) = xs.filterMap F := by
  induction xs with
  | nil => rfl
  | cons x r ih =>
    rw [List.length_cons, List.range_succ_eq_map, List.filterMap_cons, List.filterMap_map]
    have e : ((fun i => ((x :: r)[i]?).bind F) ∘ Nat.succ) = fun i => (r[i]?).bind F := by
      funext i
      simp
    rw [e, ih, List.filterMap_cons]
    simp
abbrev LcGoal (J : It) (g : TG) (tt : TT) (te : TE) (vs : List Nat) (σ : L2.St) (H1 : Hp) (D : Addr) (Qd : Hp → Prop) : Prop :=
  ∃ W : Nat → Nat → Hp → Prop, (∃ m, W 0 m (upd H1 D (.lst []))) ∧ ∀ i m H, W i m H →
      (J.stop i H ∧ Qd H) ∨ (J.go i H ∧ ∃ Nx : Hp → Prop, (∀ H', Nx H' → ∃ m', m' < m ∧ W (i + 1) m' H') ∧ ∀ x H', J.yld i H x H' → g x (wipe σ vs) H' fun σ2 H2 => wipe σ2 vs = wipe σ vs ∧ tt σ2 H2 fun b H3 =>
        if b = true then te σ2 H3 fun y H4 => ∃ acc, H4 D = some (.lst acc) ∧ acc.length < sizeLine ∧ Nx (upd H4 D (.lst (acc ++ [y]))) else Nx H3)
/-- over a text's signs -/
theorem lc_str {z : Str} {g : TG} {tt : TT} {te : TE} {vs : List Nat} {σ : L2.St} {H1 : Hp} {D : Addr} {Qd : Hp → Prop} (F : Nat → Option V) (hD : H1 D = none) (hn : z.length ≤ 1000000)
    (hs : ∀ c H (A : VK) (B : Hp → Prop), c ∈ z.cps.toList → Ex H1 H → (∀ y H4, Ex H H4 → F c = some y → A y H4) → (∀ H3, Ex H H3 → F c = none → B H3) →
      g (.str ⟨#[c]⟩) (wipe σ vs) H fun σ2 H2 => wipe σ2 vs = wipe σ vs ∧ tt σ2 H2 fun b H3 => if b = true then te σ2 H3 A else B H3)
    (hd : ∀ H, Ex H1 H → H D = some (.lst (z.cps.toList.filterMap F)) → Qd H) : LcGoal (Its z) g tt te vs σ H1 D Qd := by
  refine lc_pure walk_str hD (fun i => (z.cps.toList[i]?).bind F) hn (fun _ _ => trivial) ?_ ?_
  · rintro i x H H' A B hi e ⟨rfl, c, hc, rfl⟩ hA hB
    have hc' : z.cps.toList[i]? = some c := by
      rw [Array.getElem?_toList]
      exact hc
    refine hs c H' A B (List.mem_of_getElem? hc') e (fun y H4 e4 q => hA y H4 e4 ?_) (fun H3 e3 q => hB H3 e3 ?_)
    · show (z.cps.toList[i]?).bind F = some y
      rw [hc']
      exact q
    · show (z.cps.toList[i]?).bind F = none
      rw [hc']
      exact q
  · intro H e h
    refine hd H e ?_
    rw [h]
    have l : z.cps.size = z.cps.toList.length := rfl
    rw [l, range_filterMap]
/-- over a list that stands -/
theorem lc_lst {K : PySem.W.Frag} {a : Addr} {xs : List V} {g : TG} {tt : TT} {te : TE} {vs : List Nat} {σ : L2.St} {H1 : Hp} {D : Addr} {Qd : Hp → Prop} (F : V → Option V) (hD : H1 D = none) (hn : xs.length ≤ 1000000) (hS : SqL K H1 a xs)
    (hs : ∀ x H (A : VK) (B : Hp → Prop), x ∈ xs → Ex H1 H → (∀ y H4, Ex H H4 → F x = some y → A y H4) → (∀ H3, Ex H H3 → F x = none → B H3) →
      g x (wipe σ vs) H fun σ2 H2 => wipe σ2 vs = wipe σ vs ∧ tt σ2 H2 fun b H3 => if b = true then te σ2 H3 A else B H3)
    (hd : ∀ H, Ex H1 H → H D = some (.lst (xs.filterMap F)) → Qd H) : LcGoal (Itl K a) g tt te vs σ H1 D Qd := by
  refine lc_pure (walk_list (xs := xs)) hD (fun i => (xs[i]?).bind F) hn (fun H e => Same.seq e hS) ?_ ?_
  · rintro i x H H' A B hi e ⟨rfl, hx⟩ hA hB
    refine hs x H' A B (List.mem_of_getElem? hx) e (fun y H4 e4 q => hA y H4 e4 ?_) (fun H3 e3 q => hB H3 e3 ?_)
    · show (xs[i]?).bind F = some y
      rw [hx]
      exact q
    · show (xs[i]?).bind F = none
      rw [hx]
      exact q
  · intro H e h
    exact hd H e (by rw [h, range_filterMap])
theorem len_le {n : Nat} (h : n ≤ 1000000) : n ≤ sizeLine := Nat.le_trans h (by decide)
theorem len_lt {n : Nat} (h : n ≤ 1000000) : n < sizeLine := Nat.lt_of_le_of_lt h (by decide)

/-! ### kinds of values -/
/-- the value x is of the built-in kind T in H -/
abbrev Knd (K : PySem.W.Frag) (H : Hp) (x : V) (T : String) : Prop := TyX K H x (.type T)
theorem isi_ty {K : PySem.W.Frag} {H : Hp} {Q : VK} {x : V} {T C : String} {b : Bool} (h : Knd K H x T) (k : kitB T C = some b) (q : Q (.bl b) H) : rIsi K [x, .ty C] H Q :=
  ⟨x, .ty C, _, _, b, rfl, .ty C, h, kit_ty k, q⟩

/-! ### calls by keywords -/
structure CalN (P : Program) (w : World) (K : PySem.W.Frag) (mg : Str → Option Value) (base : Heap) (k : Nat) (x : Str) (sp : Sp) (n : Nat) (ks : List Str) (gV : List V → List V → List V) : Prop where
  ex : ∃ (f : Addr) (fd : FuncData) (ps : List Str) (g : List Value → List Value → List Value), FnOk P w K mg base CX0 k f fd ps sp ∧ mg x = some (.ref f) ∧ PySem.W.keepIn K (.ref f) = true ∧ KBn K fd ps n ks g gV
theorem pe_cN {X : Cx} {k j n : Nat} {x : Str} {sp : Sp} {ks : List Str} {gV : List V → List V → List V} {p pos : Pos} {e : Expr} {es : List Expr} {kws : List Keyword} {t tk : TA}
    (c : CalN X.prog X.w X.K X.mg X.base k x sp n ks gV) (hr : Room j X.A) (hk : k ≤ j) (hg : Gl X x) (ha : PA X (e :: es) t) (hkw : PK X kws tk)
    (hall : (backToKw pos (keywordEach kws X.env)).all (·.1.isSome) = true := by rfl) (hks : (backToKw pos (keywordEach kws X.env)).filterMap (·.1) = ks := by rfl)
    (hdb : (x == ("__debug__" : Str)) = false := by decide) (he : starEach (e :: es) X.env = (false, eval e X.env) :: starEach es X.env := by rfl)
    (hpl : ((backTo pos (starEach (e :: es) X.env)).any (·.1) || (backToKw pos (keywordEach kws X.env)).any (·.1.isNone)) = false := by rfl) :
    PE X (.Call (.Name x p) (e :: es) kws pos) (tCallN n ks.length sp gV E0 t tk) := by
  obtain ⟨f, fd, ps, g, F, hm, kp, b⟩ := c.ex
  exact pe_callN F (hr.mono hk) hg hm kp b pass0 ha hkw hall hks hdb he hpl

/-! ### cuts: what is known behind an expression, a test, a statement -/
def tCutE (t : TE) : TE := fun σ H Q => ∃ R : VK, t σ H R ∧ ∀ v H', R v H' → Q v H'
def tCutT (t : TT) : TT := fun σ H Q => ∃ R : Bool → Hp → Prop, t σ H R ∧ ∀ b H', R b H' → Q b H'
def tCutS (t u : TS) : TS := fun D σ H => ∃ Mid : L2.St → Hp → Prop, t { D with nx := Mid } σ H ∧ ∀ σ' H', Mid σ' H' → u D σ' H'
theorem pe_cut {X : Cx} {e : Expr} {t : TE} (h : PE X e t) : PE X e (tCutE t) :=
  ⟨fun pins s σ H Q I ⟨R, h1, h2⟩ => thn (h.run pins s σ H R I h1) fun u s' ⟨v, H', I', r, q⟩ => ⟨v, H', I', r, h2 v H' q⟩⟩
theorem pt_cut {X : Cx} {e : Expr} {t : TT} (h : PT X e t) : PT X e (tCutT t) :=
  ⟨fun pins s σ H Q I ⟨R, h1, h2⟩ => thn (h.run pins s σ H R I h1) fun b s' ⟨H', I', q⟩ => ⟨H', I', h2 b H' q⟩⟩
theorem pss_cutS {X : Cx} {st : Stmt} {rest : List Stmt} {t u : TS} (h1 : PS X st t) (h2 : PSs X rest u) : PSs X (st :: rest) (tCutS t u) := C8.pss_cut h1 h2

/-! ### truths -/
theorem nd_t {p : Prop} [Decidable p] (h : (!decide p) = true) : ¬ p := fun e => by rw [decide_eq_true e] at h; cases h
theorem nd_f {p : Prop} [Decidable p] (h : ¬ (!decide p) = true) : p := by
  by_cases e : p
  · exact e
  · rw [decide_eq_false e] at h
    exact absurd rfl h
theorem d_t {p : Prop} [Decidable p] (h : decide p = true) : p := of_decide_eq_true h
theorem d_f {p : Prop} [Decidable p] (h : ¬ decide p = true) : ¬ p := fun e => h (decide_eq_true e)
theorem b_f {b : Bool} (h : ¬ b = true) : b = false := by
  cases b
  · rfl
  · exact absurd rfl h

/-! ### == , != , in, not in of data (no dicts; any texts) -/
mutual
theorem dp_plain {K : PySem.W.Frag} {H : Hp} : ∀ {v : V} {d : PyData}, Dp K H v d → d.plain = true
  | _, _, .non => rfl
  | _, _, .bl _ => rfl
  | _, _, .int _ => rfl
  | _, _, .str _ => rfl
  | _, _, .lst _ h => by simp only [PyData.plain]; exact dp_plainAll h
  | _, _, .tup _ h => by simp only [PyData.plain]; exact dp_plainAll h
theorem dp_plainAll {K : PySem.W.Frag} {H : Hp} : ∀ {vs : List V} {ds : List PyData}, DpAll K H vs ds → PyData.plainAll ds = true
  | _, _, .nil => rfl
  | _, _, .cons h t => by simp only [PyData.plainAll, dp_plain h, dp_plainAll t, Bool.and_self]
end
section
variable {X : Cx}
def rEqP (K : PySem.W.Frag) : R2 := fun x y H Q => ∃ d e, Dp K H x d ∧ Dp K H y e ∧ d.depth ≤ 60 ∧ Q (.bl (PyData.eqv d e)) H
def rNeP (K : PySem.W.Frag) : R2 := fun x y H Q => ∃ d e, Dp K H x d ∧ Dp K H y e ∧ d.depth ≤ 60 ∧ Q (.bl (!PyData.eqv d e)) H
theorem op_eqP (hu : X.A.units + 64 < cLine) : OpR X (compareOp .Eq) (rEqP X.K) := by
  intro pins s σ H x y v u Q I rx ry h
  obtain ⟨d, e, hd, he, hz, q⟩ := h
  obtain ⟨as, r1⟩ := Dp.reads I d x v hd rx
  obtain ⟨bs, r2⟩ := Dp.reads I e y u he ry
  exact SeqAt.eq_plain r1 r2 (dp_plain hd) (dp_plain he) (by omega) ⟨.bl _, H, I, rfl, q⟩
theorem op_neP (hu : X.A.units + 64 < cLine) : OpR X (compareOp .NotEq) (rNeP X.K) := by
  intro pins s σ H x y v u Q I rx ry h
  obtain ⟨d, e, hd, he, hz, q⟩ := h
  obtain ⟨as, r1⟩ := Dp.reads I d x v hd rx
  obtain ⟨bs, r2⟩ := Dp.reads I e y u he ry
  exact SeqAt.ne_plain r1 r2 (dp_plain hd) (dp_plain he) (by omega) ⟨.bl _, H, I, rfl, q⟩
/-- x in c, c a list or a tuple -/
def rInP (K : PySem.W.Frag) (neg : Bool) : R2 := fun x y H Q => ∃ d ds, Dp K H x d ∧ (Dp K H y (.list ds) ∨ Dp K H y (.tuple ds)) ∧ d.depth ≤ 60 ∧ Q (.bl (if neg = true then !ds.any fun z => PyData.eqv z d else ds.any fun z => PyData.eqv z d)) H
theorem op_inP (hu : X.A.units + 64 < cLine) : OpR X (compareOp .In) (rInP X.K false) := by
  intro pins s σ H x y v u Q I rx ry h
  obtain ⟨d, ds, hd, he, hz, q⟩ := h
  obtain ⟨as, r1⟩ := Dp.reads I d x v hd rx
  rcases he with he | he
  · obtain ⟨bs, r2⟩ := Dp.reads I (.list ds) y u he ry
    exact SeqAt.in_list_data r2 r1 (dp_plain he) (dp_plain hd) (by omega) ⟨.bl _, H, I, rfl, q⟩
  · obtain ⟨bs, r2⟩ := Dp.reads I (.tuple ds) y u he ry
    exact SeqAt.in_tuple_data r2 r1 (dp_plain he) (dp_plain hd) (by omega) ⟨.bl _, H, I, rfl, q⟩
theorem op_notInP (hu : X.A.units + 64 < cLine) : OpR X (compareOp .NotIn) (rInP X.K true) := by
  intro pins s σ H x y v u Q I rx ry h
  obtain ⟨d, ds, hd, he, hz, q⟩ := h
  obtain ⟨as, r1⟩ := Dp.reads I d x v hd rx
  rcases he with he | he
  · obtain ⟨bs, r2⟩ := Dp.reads I (.list ds) y u he ry
    exact SeqAt.notIn_list_data r2 r1 (dp_plain he) (dp_plain hd) (by omega) ⟨.bl _, H, I, rfl, q⟩
  · obtain ⟨bs, r2⟩ := Dp.reads I (.tuple ds) y u he ry
    exact SeqAt.notIn_tuple_data r2 r1 (dp_plain he) (dp_plain hd) (by omega) ⟨.bl _, H, I, rfl, q⟩
end
/-! ### data of flat values -/
def flatD : V → Option PyData
  | .non => some .none
  | .bl b => some (.bool b)
  | .int i => some (.int i)
  | .str x => some (.str x)
  | _ => none
theorem dp_strs {K : PySem.W.Frag} {H : Hp} : ∀ xs : List Str, DpAll K H (xs.map V.str) (xs.map PyData.str)
  | [] => .nil
  | x :: xs => .cons (.str x) (dp_strs xs)
theorem dp_ints {K : PySem.W.Frag} {H : Hp} : ∀ xs : List Int, DpAll K H (xs.map V.int) (xs.map PyData.int)
  | [] => .nil
  | x :: xs => .cons (.int x) (dp_ints xs)
theorem depthAll_strs : ∀ xs : List Str, PyData.depthAll (xs.map PyData.str) = 0
  | [] => rfl
  | x :: xs => by simp only [List.map_cons, PyData.depthAll, PyData.depth, depthAll_strs xs, Nat.max_self]
theorem depth_strs (xs : List Str) : (PyData.list (xs.map PyData.str)).depth = 1 := by simp only [PyData.depth, depthAll_strs]
theorem eqvAll_nil (ds : List PyData) : PyData.eqvAll ds [] = ds.isEmpty := by
  cases ds <;> rfl

/-! ### picks out of a written list -/
/-- a text of at most m signs, each of a small code -/
def Sk (m : Nat) (z : Str) : Prop := z.length ≤ m ∧ ∀ c ∈ TL.tl z, c < 1000000
theorem Sk.le {m n : Nat} {z : Str} (h : Sk m z) (l : m ≤ n) : Sk n z := ⟨Nat.le_trans h.1 l, h.2⟩
def isStrB (m : Nat) : V → Bool
  | .str z => decide (z.length ≤ m) && (TL.tl z).all fun c => decide (c < 1000000)
  | _ => false
def isIntB (lo hi : Int) : V → Bool
  | .int i => decide (lo ≤ i) && decide (i ≤ hi)
  | _ => false
theorem str_of_all {m : Nat} {xs : List V} (h : xs.all (isStrB m) = true) {v : V} (hv : v ∈ xs) : ∃ z, v = .str z ∧ Sk m z := by
  have q := List.all_eq_true.mp h v hv
  cases v with
  | str z =>
    obtain ⟨q1, q2⟩ := Bool.and_eq_true_iff.mp (show (decide (z.length ≤ m) && (TL.tl z).all fun c => decide (c < 1000000)) = true from q)
    exact ⟨z, rfl, of_decide_eq_true q1, fun c hc => of_decide_eq_true (List.all_eq_true.mp q2 c hc)⟩
  | _ => cases q
theorem int_of_all {lo hi : Int} {xs : List V} (h : xs.all (isIntB lo hi) = true) {v : V} (hv : v ∈ xs) : ∃ i, v = .int i ∧ lo ≤ i ∧ i ≤ hi := by
  have q := List.all_eq_true.mp h v hv
  cases v with
  | int i =>
    obtain ⟨q1, q2⟩ := Bool.and_eq_true_iff.mp (show (decide (lo ≤ i) && decide (i ≤ hi)) = true from q)
    exact ⟨i, rfl, of_decide_eq_true q1, of_decide_eq_true q2⟩
  | _ => cases q
theorem pick_str {m : Nat} {xs : List V} {r : Int} (h : xs.all (isStrB m) = true) (h0 : 0 ≤ r) (h1 : r < xs.length) : ∃ z, atI xs r = some (.str z) ∧ Sk m z := by
  obtain ⟨v, hv, hm⟩ := atI_mem h0 h1
  obtain ⟨z, rfl, hz⟩ := str_of_all h hm
  exact ⟨z, hv, hz⟩
theorem pick_int {lo hi : Int} {xs : List V} {r : Int} (h : xs.all (isIntB lo hi) = true) (h0 : 0 ≤ r) (h1 : r < xs.length) : ∃ i, atI xs r = some (.int i) ∧ lo ≤ i ∧ i ≤ hi := by
  obtain ⟨v, hv, hm⟩ := atI_mem h0 h1
  obtain ⟨i, rfl, h2⟩ := int_of_all h hm
  exact ⟨i, hv, h2⟩
/-! ### texts joined -/
theorem strs_of {m : Nat} : ∀ {acc : List V}, (∀ y ∈ acc, ∃ z, y = .str z ∧ Sk m z) → ∃ ys : List Str, acc = ys.map V.str ∧ ∀ z ∈ ys, Sk m z
  | [], _ => ⟨[], rfl, fun z hz => nomatch hz⟩
  | y :: r, h => by
    obtain ⟨z, rfl, hz⟩ := h y (List.mem_cons_self ..)
    obtain ⟨ys, rfl, hy⟩ := strs_of fun x hx => h x (List.mem_cons_of_mem _ hx)
    refine ⟨z :: ys, rfl, fun x hx => ?_⟩
    rcases List.mem_cons.mp hx with rfl | hx
    · exact hz
    · exact hy x hx
theorem sum_le {m : Nat} : ∀ {ys : List Str}, (∀ z ∈ ys, z.length ≤ m) → (ys.map (·.length)).sum ≤ ys.length * m
  | [], _ => by simp
  | y :: r, h => by
    have h1 := h y (List.mem_cons_self ..)
    have h2 := sum_le fun x hx => h x (List.mem_cons_of_mem _ hx)
    rw [List.map_cons, List.sum_cons, List.length_cons, Nat.add_mul]
    omega
theorem joinL_len (s : List Nat) : ∀ ps : List (List Nat), (TL.joinL s ps).length ≤ (ps.map (·.length)).sum + ps.length * s.length
  | [] => by simp [TL.joinL]
  | [p] => by simp [TL.joinL]
  | p :: q :: r => by
    have ih := joinL_len s (q :: r)
    show (p ++ (s ++ TL.joinL s (q :: r))).length ≤ _
    rw [List.length_append, List.length_append, List.map_cons, List.sum_cons, List.length_cons, Nat.add_mul]
    omega
theorem join_len (y : Str) (ys : List Str) : (Txt.join y ys).length ≤ (ys.map (·.length)).sum + ys.length * y.length := by
  rw [TL.len_tl, TL.join_eq, TL.tl_join]
  have q := joinL_len (TL.tl y) (ys.map TL.tl)
  rw [List.length_map, List.map_map, ← TL.len_tl] at q
  have e : (fun x => x.length) ∘ TL.tl = fun x : Str => x.length := by
    funext x
    exact (TL.len_tl x).symm
  rw [e] at q
  exact q
theorem join_le {m k n : Nat} {y : Str} {ys : List Str} (h : ∀ z ∈ ys, z.length ≤ m) (hy : y.length ≤ k) (hn : ys.length ≤ n) : (Txt.join y ys).length ≤ n * (m + k) ∧ (ys.map (·.length)).sum + ys.length * y.length ≤ n * (m + k) := by
  have h1 := join_len y ys
  have h2 := sum_le h
  have h3 : ys.length * m ≤ n * m := Nat.mul_le_mul_right _ hn
  have h4 : ys.length * y.length ≤ n * k := Nat.mul_le_mul hn hy
  have h5 : n * (m + k) = n * m + n * k := Nat.mul_add ..
  omega
theorem cut_len (z : Str) (lo hi : Option Int) : (cutS z lo hi).length ≤ z.length := by
  show (List.take _ (List.drop _ z.cps.toList)).toArray.size ≤ z.cps.size
  rw [List.size_toArray, List.length_take, List.length_drop, Array.length_toList]
  omega
theorem app_len (x y : Str) : (x ++ y).length = x.length + y.length := by
  rw [TL.len_tl, TL.tl_append, List.length_append, ← TL.len_tl, ← TL.len_tl]

theorem joinL_mem (s : List Nat) : ∀ (ps : List (List Nat)) (c : Nat), c ∈ TL.joinL s ps → c ∈ s ∨ ∃ p ∈ ps, c ∈ p
  | [], c, h => nomatch h
  | [p], c, h => .inr ⟨p, List.mem_singleton.mpr rfl, h⟩
  | p :: q :: r, c, h => by
    have h' : c ∈ p ++ (s ++ TL.joinL s (q :: r)) := h
    rcases List.mem_append.mp h' with h | h
    · exact .inr ⟨p, List.mem_cons_self .., h⟩
    · rcases List.mem_append.mp h with h | h
      · exact .inl h
      · rcases joinL_mem s (q :: r) c h with h | ⟨x, hx, hc⟩
        · exact .inl h
        · exact .inr ⟨x, List.mem_cons_of_mem _ hx, hc⟩
theorem Sk.join {m k n : Nat} {y : Str} {ys : List Str} (h : ∀ z ∈ ys, Sk m z) (hy : Sk k y) (hn : ys.length ≤ n) : Sk (n * (m + k)) (Txt.join y ys) ∧ (ys.map (·.length)).sum + ys.length * y.length ≤ n * (m + k) := by
  obtain ⟨h1, h2⟩ := join_le (fun z hz => (h z hz).1) hy.1 hn
  refine ⟨⟨h1, fun c hc => ?_⟩, h2⟩
  rw [TL.join_eq, TL.tl_join] at hc
  rcases joinL_mem _ _ c hc with hc | ⟨p, hp, hc⟩
  · exact hy.2 c hc
  · obtain ⟨z, hz, rfl⟩ := List.mem_map.mp hp
    exact (h z hz).2 c hc
theorem Sk.cut {m : Nat} {z : Str} (h : Sk m z) (lo hi : Option Int) : Sk m (cutS z lo hi) :=
  ⟨Nat.le_trans (cut_len z lo hi) h.1, fun c hc => h.2 c (List.mem_of_mem_drop (List.mem_of_mem_take hc))⟩
theorem Sk.app {m n : Nat} {x y : Str} (h : Sk m x) (h' : Sk n y) : Sk (m + n) (x ++ y) := by
  refine ⟨by rw [app_len]; have := h.1; have := h'.1; omega, fun c hc => ?_⟩
  rw [TL.tl_append] at hc
  rcases List.mem_append.mp hc with hc | hc
  · exact h.2 c hc
  · exact h'.2 c hc
theorem sum_joinL (s : List Nat) : ∀ ps : List (List Nat), (ps.map (·.length)).sum ≤ (TL.joinL s ps).length
  | [] => by simp
  | [p] => by simp [TL.joinL]
  | p :: q :: r => by
    have ih := sum_joinL s (q :: r)
    show _ ≤ (p ++ (s ++ TL.joinL s (q :: r))).length
    rw [List.length_append, List.length_append, List.map_cons, List.sum_cons]
    omega
/-! ### how long a repr is -/
theorem shown_strs_len : ∀ ws : List Str, (∀ z ∈ ws, ∀ c ∈ TL.tl z, c < 1000000) → ((PyData.shownAll (ws.map PyData.str)).map (·.length)).sum ≤ 10 * (ws.map (·.length)).sum + 2 * ws.length
  | [], _ => by simp [PyData.shownAll]
  | w :: r, h => by
    have ih := shown_strs_len r fun z hz => h z (List.mem_cons_of_mem _ hz)
    have h1 : (reprText w).length ≤ 10 * w.length + 2 := StrLaws.reprText_len w fun c hc => Nat.lt_of_lt_of_le (h w (List.mem_cons_self ..) c hc) (by decide)
    simp only [List.map_cons, PyData.shownAll, PyData.shown, List.sum_cons, List.length_cons]
    omega
theorem shown_list_strs {ws : List Str} {B N : Nat} (h : ∀ z ∈ ws, ∀ c ∈ TL.tl z, c < 1000000) (hB : (ws.map (·.length)).sum ≤ B) (hN : ws.length ≤ N) : (PyData.list (ws.map PyData.str)).shown.length ≤ 10 * B + 4 * N + 3 := by
  have h1 := listText_len_le (PyData.shownAll (ws.map PyData.str))
  have h2 := shown_strs_len ws h
  rw [PyData.shownAll_length, List.length_map] at h1
  simp only [PyData.shown]
  omega

theorem ex_ch {H1 H2 H' : Hp} {b : Addr} (hb : H1 b = none) (e : Ex H1 H2) (c : Ch b H2 H') : Ex H1 H' := fun a o h => c a o (ne_of_none h hb) (e a o h)
theorem sql_ex {K : PySem.W.Frag} {H H' : Hp} {a : Addr} {xs : List V} (e : Ex H H') (h : SqL K H a xs) : SqL K H' a xs := Same.seq e h

theorem Ch.put_new {b : Addr} {H K K' : Hp} {p : Addr} {o : HO} (x : Ch b H K) (h : K p = none) (e : Ex K K') : Ch b H (upd K' p o) := fun a u n ha => by
  have hap : a ≠ p := ne_of_none (x a u n ha) h
  rw [upd_ne hap]
  exact e a u (x a u n ha)
theorem Bx.put {H : Hp} {b p : Addr} {c : Nat} {o : HO} (h : Bx H b c) (n : p ≠ b) : Bx (upd H p o) b c := by
  obtain ⟨x, y, z, hb, r⟩ := h
  exact ⟨x, y, z, by rw [upd_ne n.symm]; exact hb, r⟩
end Lv
namespace K03
open PySem PySem.Spec PyProof.Rows L2 Lv
def topS (i : Nat) : Stmt := PySem.Challenge.pw_listviews_k03_numbers_and_words_in_texts.main.body.getD i (.Pass ⟨0, 0, 0, 0⟩)
abbrev s_parse_integer : Stmt := topS 3
theorem sc_parse_integer : FnScope ["text", "low", "high", "digits", "number", "digit"] ["text", "low", "high"] (defScope s_parse_integer) :=
  ⟨rfl, rfl, rfl, by decide +kernel, rfl, by decide +kernel, by decide +kernel⟩
abbrev s_split_words : Stmt := topS 4
theorem sc_split_words : FnScope ["text", "words"] ["text"] (defScope s_split_words) :=
  ⟨rfl, rfl, rfl, by decide +kernel, rfl, by decide +kernel, by decide +kernel⟩
abbrev s_Lcell : Stmt := topS 6
theorem sc_Lcell : FnScope ["_law_script", "_law_k"] ["_law_script", "_law_k"] (defScope s_Lcell) :=
  ⟨rfl, rfl, rfl, by decide +kernel, rfl, by decide +kernel, by decide +kernel⟩
abbrev s_Lbox : Stmt := topS 7
theorem sc_Lbox : FnScope ["_law_cell_here"] ["_law_cell_here"] (defScope s_Lbox) :=
  ⟨rfl, rfl, rfl, by decide +kernel, rfl, by decide +kernel, by decide +kernel⟩
abbrev s_Ltake : Stmt := topS 8
theorem sc_Ltake : FnScope ["_law_box_here", "_law_many", "_law_digit", "_law_mixed"] ["_law_box_here", "_law_many"] (defScope s_Ltake) :=
  ⟨rfl, rfl, rfl, by decide +kernel, rfl, by decide +kernel, by decide +kernel⟩
abbrev s_Ldigits : Stmt := topS 9
theorem sc_Ldigits : FnScope ["_law_box_here", "_law_many", "_law_text", "_law_at", "_law_k"] ["_law_box_here"] (defScope s_Ldigits) :=
  ⟨rfl, rfl, rfl, by decide +kernel, rfl, by decide +kernel, by decide +kernel⟩
abbrev s_Linteger : Stmt := topS 10
theorem sc_Linteger : FnScope ["_law_page", "_law_least", "_law_most", "_law_digits_here", "_law_sign"] ["_law_page", "_law_least", "_law_most"] (defScope s_Linteger) :=
  ⟨rfl, rfl, rfl, by decide +kernel, rfl, by decide +kernel, by decide +kernel⟩
abbrev s_Lline : Stmt := topS 11
theorem sc_Lline : FnScope ["_law_box_here", "_law_signs", "_law_words_here", "_law_k", "_law_text", "_law_at", "_law_j"] ["_law_box_here"] (defScope s_Lline) :=
  ⟨rfl, rfl, rfl, by decide +kernel, rfl, by decide +kernel, by decide +kernel⟩
abbrev s_Lwords : Stmt := topS 12
theorem sc_Lwords : FnScope ["_law_text", "_law_words_here", "_law_sign"] ["_law_text"] (defScope s_Lwords) :=
  ⟨rfl, rfl, rfl, by decide +kernel, rfl, by decide +kernel, by decide +kernel⟩
abbrev s_law : Stmt := topS 13
theorem sc_law : FnScope ["_law_script", "_law_k", "_law_box_here", "_law_turn", "_law_odd", "_law_text", "_law_least", "_law_most", "_law_found", "_law_due", "_law_line_here", "_law_lap", "_law_words_here"] ["_law_script"] (defScope s_law) :=
  ⟨rfl, rfl, rfl, by decide +kernel, rfl, by decide +kernel, by decide +kernel⟩
structure Txt (mg : Str → Option Value) : Prop where
  z_all : mg "all" = none
  z_int : mg "int" = none
  z_isinstance : mg "isinstance" = none
  z_len : mg "len" = none
  z_max : mg "max" = none
  z_min : mg "min" = none
  z_range : mg "range" = none
  z_repr : mg "repr" = none
  z_str : mg "str" = none
  c_DIGITS : ∃ u, mg "DIGITS" = some u ∧ RelV (.str "0123456789") u
  c_MOST_DIGITS : ∃ u, mg "MOST_DIGITS" = some u ∧ RelV (.int 30) u
end K03
namespace K03
open PySem PySem.Spec PyProof.Rows L2 Lv
section
variable {P : Program} {w : World} {K : PySem.W.Frag} {mg : Str → Option Value} {base : Heap} {f : Addr} {fd : FuncData}
abbrev FD (K : PySem.W.Frag) (x : Str) (st : Stmt) (f : Addr) (fd : FuncData) : Prop := FunD K x x (defArgs st) (defBody st) (defScope st) [] [] f fd
theorem ok_Lcell (F : FD K "_law_cell" s_Lcell f fd) (m : mg "_law_cell" = some (.ref f)) (T : Txt mg) : C8.Cal P w K mg base 1 "_law_cell" (spCel K) [] := by
  refine cal_of F m (F.bindsN fun _ _ _ _ _ _ us hl => match us, hl with | [_, _], _ => rfl) sc_Lcell (fun vs H Q E h => ?_) (fun cdv A outer s H vs Q E hr h => ⟨_, (pss_cons (ps_if (pt_cmpR op_lt (pv 1) (pe_callB call_len_seq (by rfl) T.z_len (by decide +kernel) (pa_cons (pv 0) pa_nil)) (nomark _))
        (pss_one (ps_ret (pe_ix ix_list (pv 0) (pv 1) (fun _ _ => rfl))))
        pss_nil)
      (pss_one (ps_ret (pe_op op_add (pe_op op_mul pe_int (pv 1)) pe_int)))), ?_⟩)
  · obtain ⟨a, ns, k, rfl, _⟩ := h
    rfl
  · obtain ⟨a, ns, k, rfl, hS, h0, h1, q⟩ := h
    refine ⟨_, rfl, _, rfl, a, _, rfl, .inl hS, _, _, rfl, rfl, _, rfl, ?_⟩
    refine ite2 (fun hk => ?_) (fun _ => ?_)
    · have hk' : k < ((ns.map V.int).length : Int) := of_decide_eq_true hk
      rw [List.length_map] at hk'
      have hn : k.toNat < ns.length := by omega
      refine ⟨_, rfl, _, rfl, a, _, k, .int (ns[k.toNat]), rfl, rfl, hS, atI_at h0 ?_, q _⟩
      rw [List.getElem?_map, List.getElem?_eq_getElem hn]
      rfl
    · refine ⟨_, rfl, _, _, rfl, rfl, .inl ⟨by decide, by decide⟩, _, _, rfl, rfl, q _⟩
theorem ok_Lbox (F : FD K "_law_box" s_Lbox f fd) (m : mg "_law_box" = some (.ref f)) (T : Txt mg) : C8.Cal P w K mg base 1 "_law_box" spBox [] := by
  refine cal_of F m (F.bindsN fun _ _ _ _ _ _ us hl => match us, hl with | [_], _ => rfl) sc_Lbox (fun vs H Q E h => ?_) (fun cdv A outer s H vs Q E hr h => ⟨_, (pss_one (ps_ret (pe_lst (pa_cons (pe_callB (call_max2 rfl) (by rfl) T.z_max (by decide +kernel) (pa_cons pe_int (pa_cons (pe_op op_sub (pv 0) (pe_op op_pow pe_int pe_int)) pa_nil))) (pa_cons (pe_op op_mod (pv 0) pe_int) (pa_cons pe_int pa_nil)))))), ?_⟩)
  · obtain ⟨c, rfl, _⟩ := h
    rfl
  · obtain ⟨c, rfl, q⟩ := h
    refine ⟨_, rfl, _, _, rfl, rfl, ⟨by decide, by decide, by decide⟩, _, _, rfl, rfl, _, _, rfl, _, rfl, _, _, rfl, rfl, (by decide : (0 : Int) < 2147483629), Nat.le_trans (by decide : 3 ≤ 3) (by decide), new_ fun p H' hp e hb => ?_⟩
    refine q p H' hp e ⟨_, _, _, hb, ?_, ?_, ?_, Int.le_refl _, Int.le_refl _⟩
    · split <;> omega
    · omega
    · omega
theorem ok_Ltake (F : FD K "_law_take" s_Ltake f fd) (m : mg "_law_take" = some (.ref f)) (T : Txt mg) : C8.Cal P w K mg base 1 "_law_take" spTake [] := by
  refine cal_of F m (F.bindsN fun _ _ _ _ _ _ us hl => match us, hl with | [_, _], _ => rfl) sc_Ltake (fun vs H Q E h => ?_) (fun cdv A outer s H vs Q E hr h => ⟨_, (pss_cons (ps_if (pt_cmpR op_gt (pe_ix ix_list (pv 0) pe_int (fun _ _ => rfl)) pe_int (nomark _))
        (pss_cons (ps_set (i := 2) sc_Ltake.nd rfl (Or.inl rfl) (pe_op op_mod (pe_ix ix_list (pv 0) pe_int (fun _ _ => rfl)) (pv 1)))
          (pss_cons (ps_asg (pe_op op_fdiv (pe_ix ix_list (pv 0) pe_int (fun _ _ => rfl)) (pv 1)) (pg_sub (pv 0) pe_int set_list))
          (pss_one (ps_ret (pv 2)))))
        pss_nil)
      (pss_cons (ps_asg (pe_op op_add (pe_ix ix_list (pv 0) pe_int (fun _ _ => rfl)) pe_int) (pg_sub (pv 0) pe_int set_list))
      (pss_cons (ps_set (i := 3) sc_Ltake.nd rfl (Or.inl rfl) (pe_op op_mod (pe_op op_pow (pe_op op_add (pe_op op_add (pe_ix ix_list (pv 0) pe_int (fun _ _ => rfl)) (pe_op op_mul pe_int (pe_ix ix_list (pv 0) pe_int (fun _ _ => rfl)))) pe_int) pe_int) pe_int))
      (pss_cons (ps_set (i := 3) sc_Ltake.nd rfl (Or.inl rfl) (pe_op op_mod (pe_op op_pow (pe_op op_add (pv 3) (pe_op op_mul pe_int (pe_ix ix_list (pv 0) pe_int (fun _ _ => rfl)))) pe_int) pe_int))
      (pss_one (ps_ret (pe_op op_mod (pe_op op_fdiv (pv 3) pe_int) (pv 1)))))))), ?_⟩)
  · obtain ⟨b, n, c, rfl, _⟩ := h
    rfl
  · obtain ⟨b, n, c, rfl, ⟨x, y, z, hb, hx, hy, hy2, hz, hz2⟩, hc, hn, hn2, q⟩ := h
    refine ⟨_, rfl, b, _, _, _, rfl, rfl, sql_of hb, rfl, _, _, rfl, rfl, _, rfl, ?_⟩
    refine ite2 (fun hk => ?_) (fun _ => ?_)
    · refine ⟨_, rfl, b, _, _, _, rfl, rfl, sql_of hb, rfl, _, rfl, _, _, rfl, rfl, hn, ?_⟩
      refine ⟨_, rfl, b, _, _, _, rfl, rfl, sql_of hb, rfl, _, rfl, _, _, rfl, rfl, ⟨hn, hn2⟩, _, rfl, b, _, _, 0, rfl, rfl, hb, rfl, ?_⟩
      refine ⟨_, rfl, ?_⟩
      refine q _ _ (Int.emod_nonneg _ (by omega)) (Int.emod_lt_of_pos _ hn) Ch.put ⟨_, _, _, upd_same, ?_, hy, hy2, hz, by omega⟩
      exact Int.ediv_nonneg hx (by omega)
    · refine ⟨_, rfl, b, _, _, _, rfl, rfl, sql_of hb, rfl, _, _, rfl, rfl, _, rfl, b, _, _, 2, rfl, rfl, hb, rfl, ?_⟩
      have hb1 : upd H b (.lst [.int x, .int y, .int (z + 1)]) b = some (.lst [.int x, .int y, .int (z + 1)]) := upd_same
      refine ⟨_, rfl, b, _, _, _, rfl, rfl, sql_of hb1, rfl, _, rfl, b, _, _, _, rfl, rfl, sql_of hb1, rfl, _, _, rfl, rfl, .inl ⟨by decide, by decide⟩, _, _, rfl, rfl, _, _, rfl, rfl, _, _, rfl, rfl, ⟨by decide, by decide, by omega⟩, _, _, rfl, rfl, (by decide : (0 : Int) < 2147483647), ?_⟩
      refine ⟨_, rfl, _, rfl, b, _, _, _, rfl, rfl, sql_of hb1, rfl, _, _, rfl, rfl, .inl ⟨by decide, by decide⟩, _, _, rfl, rfl, _, _, rfl, rfl, ⟨by decide, by decide, ?_⟩, _, _, rfl, rfl, (by decide : (0 : Int) < 2147483587), ?_⟩
      · omega
      refine ⟨_, rfl, _, _, rfl, rfl, ⟨by decide, by decide⟩, _, rfl, _, _, rfl, rfl, hn, ?_⟩
      exact q _ _ (Int.emod_nonneg _ (by omega)) (Int.emod_lt_of_pos _ hn) Ch.put ⟨_, _, _, hb1, hx, hy, hy2, by omega, by omega⟩
end
end K03
namespace K03
open PySem PySem.Spec PyProof.Rows L2 Lv
/-! ### the integer that a text stands for -/
def isDg (c : Nat) : Bool := decide (c ∈ (Str.ofString "0123456789").cps.toList)
def dgOf (z : Str) : Str := if V.str (cutS z none (some 1)) = V.str "-" then cutS z (some 1) none else z
def numOf (z : Str) : Int := (intText? z).getD 0
def pStr (z : Str) (lo hi : Int) : Option Int :=
  if (0 < ((dgOf z).length : Int) ∧ ((dgOf z).length : Int) ≤ 30) ∧ (dgOf z).cps.toList.all isDg = true then
    if (dgOf z).cps.toList[0]? = some 48 ∧ V.str z ≠ V.str "0" then none
    else if lo ≤ numOf z ∧ numOf z ≤ hi then some (numOf z) else none
  else none
def pInt (x : V) (lo hi : Int) : Option Int := match x with
  | .str z => pStr z lo hi
  | _ => none
def optV : Option Int → V
  | some n => .int n
  | none => .non
/-- a text, or something of another kind -/
def Odd (K : PySem.W.Frag) (H : Hp) (x : V) : Prop := (∃ z, x = .str z ∧ Sk 10000 z) ∨ ((∀ z, x ≠ .str z) ∧ ∃ T, T ∈ ["NoneType", "bool", "int", "list", "tuple", "dict"] ∧ Knd K H x T)
theorem Odd.isi {K : PySem.W.Frag} {H : Hp} {x : V} (h : Odd K H x) : (∃ z, x = .str z ∧ z.length ≤ 10000 ∧ Knd K H x "str") ∨ ((∀ z, x ≠ .str z) ∧ ∃ T, Knd K H x T ∧ kitB T "str" = some false) := by
  rcases h with ⟨z, rfl, hl⟩ | ⟨hn, T, hT, hk⟩
  · exact .inl ⟨z, rfl, hl.1, .base (.str z)⟩
  · refine .inr ⟨hn, T, hk, ?_⟩
    simp only [List.mem_cons, List.not_mem_nil, or_false] at hT
    rcases hT with rfl | rfl | rfl | rfl | rfl | rfl <;> decide +kernel
theorem pInt_other {x : V} (h : ∀ z, x ≠ .str z) (lo hi : Int) : pInt x lo hi = none := by
  cases x <;> first | rfl | exact absurd rfl (h _)
theorem cutS_len (z : Str) (lo hi : Option Int) : (cutS z lo hi).length ≤ z.length := by
  show (List.take _ (List.drop _ z.cps.toList)).toArray.size ≤ z.cps.size
  rw [List.size_toArray, List.length_take, List.length_drop, Array.length_toList]
  omega
theorem dgOf_len (z : Str) : (dgOf z).length ≤ z.length := by
  unfold dgOf
  split
  · exact cutS_len _ _ _
  · exact Nat.le_refl _
def spPI (K : PySem.W.Frag) : Sp := fun vs H Q _ => ∃ (x : V) (lo hi : Int), vs = [x, .int lo, .int hi] ∧ Odd K H x ∧ ∀ H', Ex H H' → Q (optV (pInt x lo hi)) H'
theorem dig_of_cut {z : Str} (h : V.str (cutS z none (some 1)) = V.str "-") : ∃ cs, z.cps.toList = 45 :: cs ∧ (cutS z (some 1) none).cps.toList = cs := by
  injection h with h
  have h2 : (cutS z none (some 1)).cps.toList = [45] := by rw [h]; decide +kernel
  unfold cutS at h2 ⊢
  simp only [HT.sIx, List.drop_zero] at h2 ⊢
  cases e : z.cps.toList with
  | nil => rw [e] at h2; simp at h2
  | cons c cs =>
    have hl : z.length = cs.length + 1 := by
      show z.cps.size = _
      rw [← Array.length_toList, e]
      rfl
    rw [e, hl] at h2
    have e1 : ¬ (1 : Int) < 0 := by decide
    rw [if_neg e1] at h2
    have e2 : min (1 : Int).toNat (cs.length + 1) - 0 = 1 := by
      show min 1 (cs.length + 1) - 0 = 1
      omega
    rw [e2] at h2
    simp at h2
    subst h2
    refine ⟨cs, rfl, ?_⟩
    rw [hl, if_neg e1]
    have e3 : min (1 : Int).toNat (cs.length + 1) = 1 := by
      show min 1 (cs.length + 1) = 1
      omega
    rw [e3]
    simp
theorem int_ok {z : Str} (h : (0 < ((dgOf z).length : Int) ∧ ((dgOf z).length : Int) ≤ 30) ∧ (dgOf z).cps.toList.all isDg = true) : intText? z = some (numOf z) ∧ z.length ≤ 640 := by
  obtain ⟨⟨h1, h2⟩, h3⟩ := h
  have dg : ∀ {l : List Nat}, l.all isDg = true → NumText.AllDigits l := by
    intro l hl c hc
    have q := List.all_eq_true.mp hl c hc
    have q2 : c ∈ (Str.ofString "0123456789").cps.toList := of_decide_eq_true q
    have q3 : (Str.ofString "0123456789").cps.toList = [48, 49, 50, 51, 52, 53, 54, 55, 56, 57] := by decide +kernel
    rw [q3] at q2
    simp at q2
    omega
  unfold dgOf at h1 h2 h3
  split at h3
  · rename_i hc
    rw [if_pos hc] at h1 h2
    obtain ⟨cs, e1, e2⟩ := dig_of_cut hc
    have hl : (cutS z (some 1) none).length = cs.length := by
      show (cutS z (some 1) none).cps.size = _
      rw [← Array.length_toList, e2]
    have hz : z.length = cs.length + 1 := by
      show z.cps.size = _
      rw [← Array.length_toList, e1]
      rfl
    rw [e2] at h3
    have q := PySem.intText_neg e1 (dg h3) (by intro e; rw [e] at hl; simp only [List.length_nil] at hl; omega) (by omega)
    refine ⟨?_, by omega⟩
    unfold numOf
    rw [q]
    rfl
  · rename_i hc
    rw [if_neg hc] at h1 h2
    have hz : z.length = z.cps.toList.length := by
      rw [Array.length_toList]
      rfl
    have q := PySem.intText_digits (dg h3) (by intro e; rw [e] at hz; simp only [List.length_nil] at hz; omega) (by omega)
    refine ⟨?_, by omega⟩
    unfold numOf
    rw [q]
    rfl
end K03
namespace K03
open PySem PySem.Spec PyProof.Rows L2 Lv
section
variable {P : Program} {w : World} {K : PySem.W.Frag} {mg : Str → Option Value} {base : Heap} {f : Addr} {fd : FuncData}
abbrev FDP (K : PySem.W.Frag) (f : Addr) (fd : FuncData) : Prop := FunD K "parse_integer" "parse_integer" (defArgs s_parse_integer) (defBody s_parse_integer) (defScope s_parse_integer) [] [("low", V.int (-999)), ("high", V.int 999)] f fd
theorem fn_parse (F : FDP K f fd) (T : Txt mg) : FnOk P w K mg base CX0 1 f fd ["text", "low", "high"] (spPI K) := by
  refine F.ok sc_parse_integer (fun vs H Q E h => ?_) (fun cdv A outer s H vs Q E hr h => ⟨_, PSs.nox (pss_cons (ps_if (pt_not (pt_val (pe_callB call_isi (by rfl) T.z_isinstance (by decide +kernel) (pa_cons (pv 0) (pa_cons (pe_bltn (v := .ty "str") (by rfl) T.z_str (by decide +kernel) rfl) pa_nil)))))
        (pss_one (ps_ret pe_non))
        pss_nil)
      (pss_cons (ps_set (i := 3) sc_parse_integer.nd rfl (Or.inl rfl) (pe_cut (pe_ifExp (pt_cmpR op_eq (pe_slice sl_str (pv 0) po_none (po_some pe_int)) pe_str (nomark _)) (pe_slice sl_str (pv 0) (po_some pe_int) po_none) (pv 0))))
      (pss_cons (ps_if (pt_cut (PW.pt (pw_or (pt_not (pt_chain op_lt op_le pe_int (pe_callB call_len_str (by rfl) T.z_len (by decide +kernel) (pa_cons (pv 3) pa_nil)) (C8.pe_gc rfl T.c_MOST_DIGITS))) (pw_or1 (pt_not (pt_val (pe_callB (cr_all rfl) (by rfl) T.z_all (by decide +kernel) (pa_cons (pe_lc (own := [("digit", 5)]) (by rfl) sc_parse_integer.nd (pi_str (pv 3)) (blkOk_by (own := [("digit", 5)]) (N := ["text", "low", "high", "digits", "number", "digit"]) (sc := defScope s_parse_integer) (by decide +kernel)) (fun _ _ _ _ _ => (pg_name (i := 5) sc_parse_integer.nd rfl (Or.inl rfl))) (fun _ _ _ _ _ => pts_nil) (fun _ _ _ _ _ => (pe_cmpR op_in_sign (pv 5) (C8.pe_gc rfl T.c_DIGITS) rfl))) pa_nil))))))))
        (pss_one (ps_ret pe_non))
        pss_nil)
      (pss_cons (ps_if (pt_cut (PW.pt (pw_and (pt_cmpR op_eq (pe_ix ix_str (pv 3) pe_int (fun _ _ => rfl)) pe_str (nomark _)) (pw_and1 (pt_cmpR op_ne (pv 0) pe_str (nomark _))))))
        (pss_one (ps_ret pe_non))
        pss_nil)
      (pss_cons (ps_set (i := 4) sc_parse_integer.nd rfl (Or.inl rfl) (pe_callTy call_int_str (by rfl) T.z_int (by decide +kernel) (pa_cons (pv 0) pa_nil)))
      (pss_one (ps_ret (pe_cut (pe_ifExp (pt_chain op_le op_le (pv 1) (pv 4) (pv 2)) (pv 4) pe_non))))))))), ?_⟩)
  · obtain ⟨x, lo, hi, rfl, _⟩ := h
    rfl
  · obtain ⟨x, lo, hi, rfl, hx, q⟩ := h
    rcases hx.isi with ⟨z, rfl, hl, hk⟩ | ⟨hn, T', hk, kb⟩
    · refine ⟨_, rfl, _, _, _, _, true, rfl, .ty _, hk, kit_ty (by decide +kernel), _, rfl, ?_⟩
      refine iteF ?_
      have hl1 : z.length ≤ sizeLine := Nat.le_trans hl (by decide)
      -- digits
      refine ⟨fun v H' => v = .str (dgOf z) ∧ H = H', ?_, ?_⟩
      · refine ⟨_, rfl, _, rfl, z, rfl, hl1, rfl, _, rfl, ?_⟩
        refine ite2 (fun hc => ?_) (fun hc => ?_)
        · have hc' : V.str (cutS z none (some 1)) = V.str "-" := of_decide_eq_true hc
          refine ⟨_, rfl, _, rfl, z, rfl, hl1, ?_, rfl⟩
          unfold dgOf
          rw [if_pos hc']
        · have hc' : ¬ V.str (cutS z none (some 1)) = V.str "-" := fun e => hc (decide_eq_true e)
          refine ⟨_, rfl, ?_, rfl⟩
          unfold dgOf
          rw [if_neg hc']
      rintro _ _ ⟨rfl, rfl⟩
      have hd1 : (dgOf z).length ≤ 10000 := Nat.le_trans (dgOf_len z) hl
      have hd2 : (dgOf z).length ≤ sizeLine := Nat.le_trans hd1 (by decide)
      -- if not 0 < len(digits) <= MOST_DIGITS or not all(..)
      refine ⟨fun b H' => Ex H H' ∧ b = !decide ((0 < ((dgOf z).length : Int) ∧ ((dgOf z).length : Int) ≤ 30) ∧ (dgOf z).cps.toList.all isDg = true), ?_, ?_⟩
      · refine ⟨_, rfl, _, rfl, hd2, _, _, rfl, rfl, _, rfl, ?_⟩
        refine ite2 (fun h0 => ?_) (fun h0 => ?_)
        · have h0' : 0 < ((dgOf z).length : Int) := of_decide_eq_true h0
          refine ⟨_, _, rfl, rfl, _, rfl, ?_⟩
          refine ite2 (fun h1 => ?_) (fun h1 => ?_)
          · have h1' : ¬ ((dgOf z).length : Int) ≤ 30 := nd_t h1
            exact ⟨Ex.refl H, by rw [decide_eq_false (fun e => h1' e.1.2)]; rfl⟩
          · have h1' : ((dgOf z).length : Int) ≤ 30 := nd_f h1
            refine ⟨_, rfl, _, rfl, fun D hD => lc_str (fun c => some (.bl (isDg c))) hD (Nat.le_trans hd1 (by decide)) ?_ ?_⟩
            · intro c H2 A B _ e hA _
              exact ⟨rfl, _, rfl, _, _, rfl, rfl, hA _ _ (Ex.refl _) rfl⟩
            · intro H2 e hL
              refine ⟨D, (dgOf z).cps.toList.map isDg, rfl, sql_of ?_, _, rfl, e, ?_⟩
              · rw [hL, List.filterMap_eq_map', List.map_map]
                rfl
              · rw [List.all_map]
                by_cases ha : (dgOf z).cps.toList.all isDg = true
                · rw [decide_eq_true ⟨⟨h0', h1'⟩, ha⟩]
                  exact congrArg (!·) ha
                · rw [decide_eq_false (fun e => ha e.2)]
                  exact congrArg (!·) (b_f ha)
        · have h0' : ¬ 0 < ((dgOf z).length : Int) := fun e => h0 (decide_eq_true e)
          exact ⟨_, rfl, Ex.refl H, by rw [decide_eq_false (fun e => h0' e.1.1)]; rfl⟩
      rintro b H1 ⟨e1, rfl⟩
      refine ite2 (fun hb => ?_) (fun hb => ?_)
      · have e := q H1 e1
        have hb' : ¬ ((0 < ((dgOf z).length : Int) ∧ ((dgOf z).length : Int) ≤ 30) ∧ (dgOf z).cps.toList.all isDg = true) := nd_t hb
        have e2 : pInt (V.str z) lo hi = none := if_neg hb'
        rw [e2] at e
        exact e
      have hb' : (0 < ((dgOf z).length : Int) ∧ ((dgOf z).length : Int) ≤ 30) ∧ (dgOf z).cps.toList.all isDg = true := nd_f hb
      have hlen : 0 < (dgOf z).cps.toList.length := by
        have := hb'.1.1
        rw [Array.length_toList]
        show 0 < (dgOf z).length
        omega
      obtain ⟨c0, hc0⟩ : ∃ c, (dgOf z).cps.toList[0]? = some c := ⟨_, List.getElem?_eq_getElem hlen⟩
      -- if digits[0] == "0" and text != "0"
      refine ⟨fun b H' => H1 = H' ∧ b = decide ((dgOf z).cps.toList[0]? = some 48 ∧ V.str z ≠ V.str "0"), ?_, ?_⟩
      · refine ⟨_, rfl, _, _, c0, rfl, rfl, hd2, atI_at (by decide) hc0, rfl, _, rfl, ?_⟩
        refine ite2 (fun hc => ?_) (fun hc => ?_)
        · have hc' : c0 = 48 := by
            have e3 := of_decide_eq_true hc
            injection e3 with e3
            have e4 : (⟨#[c0]⟩ : Str).cps.toList = (Str.ofString "0").cps.toList := by rw [e3]
            have e5 : (Str.ofString "0").cps.toList = [48] := by decide +kernel
            rw [e5] at e4
            simpa using e4
          refine ⟨_, rfl, rfl, _, rfl, rfl, ?_⟩
          rw [hc0, hc']
          simp
        · have hc' : c0 ≠ 48 := by
            intro e3
            apply hc
            rw [e3]
            decide +kernel
          refine ⟨rfl, ?_⟩
          rw [hc0]
          simp [hc']
      rintro b H2 ⟨rfl, rfl⟩
      have hi2 := int_ok hb'
      refine ite2 (fun hz => ?_) (fun hz => ?_)
      · have e := q H1 e1
        have hz' : (dgOf z).cps.toList[0]? = some 48 ∧ V.str z ≠ V.str "0" := of_decide_eq_true hz
        have e2 : pInt (V.str z) lo hi = none := (if_pos hb').trans (if_pos hz')
        rw [e2] at e
        exact e
      have hz' : ¬ ((dgOf z).cps.toList[0]? = some 48 ∧ V.str z ≠ V.str "0") := d_f hz
      -- number
      refine ⟨_, rfl, z, _, rfl, hi2.1, hi2.2, ?_⟩
      have e2 : pInt (V.str z) lo hi = if lo ≤ numOf z ∧ numOf z ≤ hi then some (numOf z) else none := (if_pos hb').trans (if_neg hz')
      have e3 := q H1 e1
      refine ⟨fun v H' => v = optV (pInt (V.str z) lo hi) ∧ H1 = H', ?_, ?_⟩
      · rw [e2]
        refine ⟨_, rfl, _, rfl, _, _, rfl, rfl, _, rfl, ?_⟩
        refine ite2 (fun h3 => ?_) (fun h3 => ?_)
        · have h3' : lo ≤ numOf z := of_decide_eq_true h3
          refine ⟨_, rfl, _, _, rfl, rfl, _, rfl, ?_⟩
          refine ite2 (fun h4 => ?_) (fun h4 => ?_)
          · have h4' : numOf z ≤ hi := of_decide_eq_true h4
            refine ⟨_, rfl, ?_, rfl⟩
            rw [if_pos ⟨h3', h4'⟩]
            rfl
          · have h4' : ¬ numOf z ≤ hi := fun e => h4 (decide_eq_true e)
            refine ⟨?_, rfl⟩
            rw [if_neg (fun e => h4' e.2)]
            rfl
        · have h3' : ¬ lo ≤ numOf z := fun e => h3 (decide_eq_true e)
          refine ⟨_, rfl, iteF ⟨?_, rfl⟩⟩
          rw [if_neg (fun e => h3' e.1)]
          rfl
      rintro _ _ ⟨rfl, rfl⟩
      exact e3
    · refine ⟨_, rfl, _, _, _, _, false, rfl, .ty _, hk, kit_ty kb, _, rfl, ?_⟩
      refine iteT ?_
      have e := q H (Ex.refl H)
      rw [pInt_other hn] at e
      exact e
end
end K03
namespace K03
open PySem PySem.Spec PyProof.Rows L2 Lv
def badOf (l : List Nat) : List Str := l.filterMap fun c => if isDg c = true then none else some ⟨#[c]⟩
theorem bad_map (l : List Nat) : l.filterMap (fun c => if isDg c = true then none else some (V.str ⟨#[c]⟩)) = (badOf l).map V.str := by
  unfold badOf
  rw [List.map_filterMap]
  congr 1
  funext c
  split <;> rfl
theorem bad_nil {l : List Nat} (h : l.all isDg = true) : ((badOf l).map PyData.str).isEmpty = true := by
  have e : badOf l = [] := by
    unfold badOf
    rw [List.filterMap_eq_nil_iff]
    intro c hc
    rw [if_pos (List.all_eq_true.mp h c hc)]
  rw [e]
  rfl
theorem bad_cons {l : List Nat} (h : ¬ l.all isDg = true) : ((badOf l).map PyData.str).isEmpty = false := by
  cases e : badOf l with
  | nil =>
    unfold badOf at e
    rw [List.filterMap_eq_nil_iff] at e
    exact absurd (List.all_eq_true.mpr fun c hc => by
      have q := e c hc
      by_cases hd : isDg c = true
      · exact hd
      · rw [if_neg hd] at q
        cases q) h
  | cons x r => rfl
section
variable {P : Program} {w : World} {K : PySem.W.Frag} {mg : Str → Option Value} {base : Heap} {f : Addr} {fd : FuncData}
theorem ok_Linteger (F : FD K "_law_integer" s_Linteger f fd) (m : mg "_law_integer" = some (.ref f)) (T : Txt mg) : C8.Cal P w K mg base 1 "_law_integer" (spPI K) [] := by
  refine cal_of F m (F.bindsN fun _ _ _ _ _ _ us hl => match us, hl with | [_, _, _], _ => rfl) sc_Linteger (fun vs H Q E h => ?_) (fun cdv A outer s H vs Q E hr h => ⟨_, (pss_cons (ps_if (pt_not (pt_val (pe_callB call_isi (by rfl) T.z_isinstance (by decide +kernel) (pa_cons (pv 0) (pa_cons (pe_bltn (v := .ty "str") (by rfl) T.z_str (by decide +kernel) rfl) pa_nil)))))
        (pss_one (ps_ret pe_non))
        pss_nil)
      (pss_cons (ps_set (i := 3) sc_Linteger.nd rfl (Or.inl rfl) (pe_cut (pe_ifExp (pt_cmpR op_eq (pe_slice sl_str (pv 0) po_none (po_some pe_int)) pe_str (nomark _)) (pe_slice sl_str (pv 0) (po_some pe_int) po_none) (pv 0))))
      (pss_cons (ps_if (pt_cut (PW.pt (pw_or (pt_not (pt_chain op_le op_le pe_int (pe_callB call_len_str (by rfl) T.z_len (by decide +kernel) (pa_cons (pv 3) pa_nil)) pe_int)) (pw_or1 (pt_cmpR (op_neP hr.units) (pe_lc (own := [("_law_sign", 4)]) (by rfl) sc_Linteger.nd (pi_str (pv 3)) (blkOk_by (own := [("_law_sign", 4)]) (N := ["_law_page", "_law_least", "_law_most", "_law_digits_here", "_law_sign"]) (sc := defScope s_Linteger) (by decide +kernel)) (fun _ _ _ _ _ => (pg_name (i := 4) sc_Linteger.nd rfl (Or.inl rfl))) (fun _ _ _ _ _ => (pts_one (pt_cmpR op_notIn_sign (pv 4) pe_str rfl))) (fun _ _ _ _ _ => (pv 4))) (pe_lst pa_nil) (nomark _))))))
        (pss_one (ps_ret pe_non))
        pss_nil)
      (pss_cons (ps_if (pt_cut (PW.pt (pw_and (pt_cmpR op_eq (pe_ix ix_str (pv 3) pe_int (fun _ _ => rfl)) pe_str (nomark _)) (pw_and1 (pt_cmpR op_ne (pv 0) pe_str (nomark _))))))
        (pss_one (ps_ret pe_non))
        pss_nil)
      (pss_one (ps_ret (pe_cut (pe_ifExp (pt_chain op_le op_le (pv 1) (pe_callTy call_int_str (by rfl) T.z_int (by decide +kernel) (pa_cons (pv 0) pa_nil)) (pv 2)) (pe_callTy call_int_str (by rfl) T.z_int (by decide +kernel) (pa_cons (pv 0) pa_nil)) pe_non)))))))), ?_⟩)
  · obtain ⟨x, lo, hi, rfl, _⟩ := h
    rfl
  · obtain ⟨x, lo, hi, rfl, hx, q⟩ := h
    rcases hx.isi with ⟨z, rfl, hl, hk⟩ | ⟨hn, T', hk, kb⟩
    · refine ⟨_, rfl, _, _, _, _, true, rfl, .ty _, hk, kit_ty (by decide +kernel), _, rfl, ?_⟩
      refine iteF ?_
      have hl1 : z.length ≤ sizeLine := Nat.le_trans hl (by decide)
      -- digits
      refine ⟨fun v H' => v = .str (dgOf z) ∧ H = H', ?_, ?_⟩
      · refine ⟨_, rfl, _, rfl, z, rfl, hl1, rfl, _, rfl, ?_⟩
        refine ite2 (fun hc => ?_) (fun hc => ?_)
        · have hc' : V.str (cutS z none (some 1)) = V.str "-" := of_decide_eq_true hc
          refine ⟨_, rfl, _, rfl, z, rfl, hl1, ?_, rfl⟩
          unfold dgOf
          rw [if_pos hc']
        · have hc' : ¬ V.str (cutS z none (some 1)) = V.str "-" := fun e => hc (decide_eq_true e)
          refine ⟨_, rfl, ?_, rfl⟩
          unfold dgOf
          rw [if_neg hc']
      rintro _ _ ⟨rfl, rfl⟩
      have hd1 : (dgOf z).length ≤ 10000 := Nat.le_trans (dgOf_len z) hl
      have hd2 : (dgOf z).length ≤ sizeLine := Nat.le_trans hd1 (by decide)
      -- if not 0 < len(digits) <= MOST_DIGITS or not all(..)
      refine ⟨fun b H' => Ex H H' ∧ b = !decide ((0 < ((dgOf z).length : Int) ∧ ((dgOf z).length : Int) ≤ 30) ∧ (dgOf z).cps.toList.all isDg = true), ?_, ?_⟩
      · refine ⟨_, rfl, _, rfl, hd2, _, _, rfl, rfl, _, rfl, ?_⟩
        refine ite2 (fun h0 => ?_) (fun h0 => ?_)
        · have h0' : 0 < ((dgOf z).length : Int) := Int.lt_of_lt_of_le (by decide) (of_decide_eq_true h0)
          refine ⟨_, _, rfl, rfl, _, rfl, ?_⟩
          refine ite2 (fun h1 => ?_) (fun h1 => ?_)
          · have h1' : ¬ ((dgOf z).length : Int) ≤ 30 := nd_t h1
            exact ⟨Ex.refl H, by rw [decide_eq_false (fun e => h1' e.1.2)]; rfl⟩
          · have h1' : ((dgOf z).length : Int) ≤ 30 := nd_f h1
            refine ⟨_, rfl, _, rfl, fun D hD => lc_str (fun c => if isDg c = true then none else some (.str ⟨#[c]⟩)) hD (Nat.le_trans hd1 (by decide)) ?_ ?_⟩
            · intro c H2 A B _ e hA hB
              refine ⟨rfl, _, rfl, _, _, rfl, rfl, _, rfl, ?_⟩
              refine ite2 (fun hc => ?_) (fun hc => ?_)
              · exact ⟨_, rfl, hA _ _ (Ex.refl _) (if_neg (fun e => nd_t hc (of_decide_eq_true e)))⟩
              · exact hB _ (Ex.refl _) (if_pos (decide_eq_true (nd_f hc)))
            · intro H2 e hL
              rw [bad_map] at hL
              refine ⟨Nat.zero_le _, fun p hp => ?_⟩
              refine ⟨_, _, .lst (sql_of (Ex.new hp _ _ hL)) (dp_strs _), .lst (sql_of upd_same) .nil, by rw [depth_strs]; decide, _, rfl, e.trans (Ex.new hp), ?_⟩
              rw [PyData.eqv, eqvAll_nil]
              by_cases ha : (dgOf z).cps.toList.all isDg = true
              · rw [decide_eq_true ⟨⟨h0', h1'⟩, ha⟩, bad_nil ha]
              · rw [decide_eq_false (fun e => ha e.2), bad_cons ha]
        · have h0' : ¬ 0 < ((dgOf z).length : Int) := fun e => h0 (decide_eq_true (Int.add_one_le_of_lt e))
          exact ⟨_, rfl, Ex.refl H, by rw [decide_eq_false (fun e => h0' e.1.1)]; rfl⟩
      rintro b H1 ⟨e1, rfl⟩
      refine ite2 (fun hb => ?_) (fun hb => ?_)
      · have e := q H1 e1
        have hb' : ¬ ((0 < ((dgOf z).length : Int) ∧ ((dgOf z).length : Int) ≤ 30) ∧ (dgOf z).cps.toList.all isDg = true) := nd_t hb
        have e2 : pInt (V.str z) lo hi = none := if_neg hb'
        rw [e2] at e
        exact e
      have hb' : (0 < ((dgOf z).length : Int) ∧ ((dgOf z).length : Int) ≤ 30) ∧ (dgOf z).cps.toList.all isDg = true := nd_f hb
      have hlen : 0 < (dgOf z).cps.toList.length := by
        have := hb'.1.1
        rw [Array.length_toList]
        show 0 < (dgOf z).length
        omega
      obtain ⟨c0, hc0⟩ : ∃ c, (dgOf z).cps.toList[0]? = some c := ⟨_, List.getElem?_eq_getElem hlen⟩
      -- if digits[0] == "0" and text != "0"
      refine ⟨fun b H' => H1 = H' ∧ b = decide ((dgOf z).cps.toList[0]? = some 48 ∧ V.str z ≠ V.str "0"), ?_, ?_⟩
      · refine ⟨_, rfl, _, _, c0, rfl, rfl, hd2, atI_at (by decide) hc0, rfl, _, rfl, ?_⟩
        refine ite2 (fun hc => ?_) (fun hc => ?_)
        · have hc' : c0 = 48 := by
            have e3 := of_decide_eq_true hc
            injection e3 with e3
            have e4 : (⟨#[c0]⟩ : Str).cps.toList = (Str.ofString "0").cps.toList := by rw [e3]
            have e5 : (Str.ofString "0").cps.toList = [48] := by decide +kernel
            rw [e5] at e4
            simpa using e4
          refine ⟨_, rfl, rfl, _, rfl, rfl, ?_⟩
          rw [hc0, hc']
          simp
        · have hc' : c0 ≠ 48 := by
            intro e3
            apply hc
            rw [e3]
            decide +kernel
          refine ⟨rfl, ?_⟩
          rw [hc0]
          simp [hc']
      rintro b H2 ⟨rfl, rfl⟩
      have hi2 := int_ok hb'
      refine ite2 (fun hz => ?_) (fun hz => ?_)
      · have e := q H1 e1
        have hz' : (dgOf z).cps.toList[0]? = some 48 ∧ V.str z ≠ V.str "0" := of_decide_eq_true hz
        have e2 : pInt (V.str z) lo hi = none := (if_pos hb').trans (if_pos hz')
        rw [e2] at e
        exact e
      have hz' : ¬ ((dgOf z).cps.toList[0]? = some 48 ∧ V.str z ≠ V.str "0") := d_f hz
      have e2 : pInt (V.str z) lo hi = if lo ≤ numOf z ∧ numOf z ≤ hi then some (numOf z) else none := (if_pos hb').trans (if_neg hz')
      have e3 := q H1 e1
      refine ⟨fun v H' => v = optV (pInt (V.str z) lo hi) ∧ H1 = H', ?_, ?_⟩
      · rw [e2]
        refine ⟨_, rfl, _, rfl, z, _, rfl, hi2.1, hi2.2, _, _, rfl, rfl, _, rfl, ?_⟩
        refine ite2 (fun h3 => ?_) (fun h3 => ?_)
        · have h3' : lo ≤ numOf z := of_decide_eq_true h3
          refine ⟨_, rfl, _, _, rfl, rfl, _, rfl, ?_⟩
          refine ite2 (fun h4 => ?_) (fun h4 => ?_)
          · have h4' : numOf z ≤ hi := of_decide_eq_true h4
            refine ⟨_, rfl, z, _, rfl, hi2.1, hi2.2, ?_, rfl⟩
            rw [if_pos ⟨h3', h4'⟩]
            rfl
          · have h4' : ¬ numOf z ≤ hi := fun e => h4 (decide_eq_true e)
            refine ⟨?_, rfl⟩
            rw [if_neg (fun e => h4' e.2)]
            rfl
        · have h3' : ¬ lo ≤ numOf z := fun e => h3 (decide_eq_true e)
          refine ⟨_, rfl, iteF ⟨?_, rfl⟩⟩
          rw [if_neg (fun e => h3' e.1)]
          rfl
      rintro _ _ ⟨rfl, rfl⟩
      exact e3
    · refine ⟨_, rfl, _, _, _, _, false, rfl, .ty _, hk, kit_ty kb, _, rfl, ?_⟩
      refine iteT ?_
      have e := q H (Ex.refl H)
      rw [pInt_other hn] at e
      exact e
end
end K03
namespace K03
open PySem PySem.Spec PyProof.Rows L2 Lv TL
/-! ### words -/
def wstep (p : List Str × Str) (c : Nat) : List Str × Str := if c = 32 then (p.1 ++ [p.2], ⟨#[]⟩) else (p.1, p.2 ++ ⟨#[c]⟩)
def wrun (l : List Nat) : List Str × Str := l.foldl wstep ([], ⟨#[]⟩)
def wall (p : List Str × Str) : List Str := p.1 ++ [p.2]
def wlist (z : Str) : List Str := wall (wrun (tl z))
def wds (x : V) : Option (List Str) := match x with
  | .str z => if 10 ∈ tl z then none else if (⟨#[]⟩ : Str) ∈ wlist z then none else some (wlist z)
  | _ => none
theorem joinL_snoc (s x : List Nat) : ∀ ps : List (List Nat), ps ≠ [] → joinL s (ps ++ [x]) = joinL s ps ++ (s ++ x)
  | [], h => absurd rfl h
  | [p], _ => by simp [joinL]
  | p :: q :: r, _ => by
    have ih := joinL_snoc s x (q :: r) (fun e => nomatch e)
    show p ++ (s ++ joinL s ((q :: r) ++ [x])) = (p ++ (s ++ joinL s (q :: r))) ++ (s ++ x)
    rw [ih]
    simp
theorem joinL_more (s x y : List Nat) : ∀ ps : List (List Nat), joinL s (ps ++ [x ++ y]) = joinL s (ps ++ [x]) ++ y
  | [] => by simp [joinL]
  | [p] => by simp [joinL]
  | p :: q :: r => by
    have ih := joinL_more s x y (q :: r)
    show p ++ (s ++ joinL s ((q :: r) ++ [x ++ y])) = (p ++ (s ++ joinL s ((q :: r) ++ [x]))) ++ y
    rw [ih]
    simp
theorem wrun_ok (l : List Nat) : joinL [32] ((wall (wrun l)).map tl) = l ∧ (∀ p ∈ wall (wrun l), 32 ∉ tl p) := by
  have gen : ∀ (m : List Nat) (p : List Str × Str) (k : List Nat), joinL [32] ((wall p).map tl) = k → (∀ q ∈ wall p, 32 ∉ tl q) →
      joinL [32] ((wall (m.foldl wstep p)).map tl) = k ++ m ∧ (∀ q ∈ wall (m.foldl wstep p), 32 ∉ tl q) := by
    intro m
    induction m with
    | nil => intro p k h1 h2; exact ⟨by simpa using h1, h2⟩
    | cons c m ih =>
      intro p k h1 h2
      have q := ih (wstep p c) (k ++ [c]) ?_ ?_
      · rw [List.append_assoc] at q
        exact q
      · by_cases hc : c = 32
        · have e : wstep p c = (p.1 ++ [p.2], ⟨#[]⟩) := if_pos hc
          rw [e]
          show joinL [32] (((p.1 ++ [p.2]) ++ [(⟨#[]⟩ : Str)]).map tl) = k ++ [c]
          rw [List.map_append]
          show joinL [32] ((p.1 ++ [p.2]).map tl ++ [[]]) = k ++ [c]
          rw [joinL_snoc _ _ _ (by simp), hc]
          have h1' : joinL [32] ((p.1 ++ [p.2]).map tl) = k := h1
          rw [h1']
          rfl
        · have e : wstep p c = (p.1, p.2 ++ ⟨#[c]⟩) := if_neg hc
          rw [e]
          show joinL [32] ((p.1 ++ [p.2 ++ (⟨#[c]⟩ : Str)]).map tl) = k ++ [c]
          rw [List.map_append, List.map_cons, tl_append]
          show joinL [32] (p.1.map tl ++ [tl p.2 ++ [c]]) = k ++ [c]
          rw [joinL_more]
          have h1' : joinL [32] ((p.1 ++ [p.2]).map tl) = k := h1
          rw [List.map_append] at h1'
          rw [← h1']
          rfl
      · by_cases hc : c = 32
        · have e : wstep p c = (p.1 ++ [p.2], ⟨#[]⟩) := if_pos hc
          rw [e]
          intro q hq
          rcases List.mem_append.mp hq with hq | hq
          · exact h2 q hq
          · rw [List.mem_singleton.mp hq]
            simp [tl]
        · have e : wstep p c = (p.1, p.2 ++ ⟨#[c]⟩) := if_neg hc
          rw [e]
          intro q hq
          rcases List.mem_append.mp hq with hq | hq
          · exact h2 q (List.mem_append_left _ hq)
          · rw [List.mem_singleton.mp hq, tl_append]
            intro hm
            rcases List.mem_append.mp hm with hm | hm
            · exact h2 p.2 (List.mem_append_right _ (List.mem_singleton.mpr rfl)) hm
            · have : (32 : Nat) = c := by simpa using hm
              exact hc this.symm
  have q := gen l ([], ⟨#[]⟩) [] rfl (fun q hq => by
    rw [List.mem_singleton.mp (show q ∈ [(⟨#[]⟩ : Str)] from hq)]
    simp [tl])
  rw [List.nil_append] at q
  exact q
theorem split_is (z : Str) : Txt.split z " " = wlist z := by
  obtain ⟨h1, h2⟩ := wrun_ok (tl z)
  have e : Txt.join " " (wlist z) = z := by
    apply ext_tl
    rw [join_eq, tl_join]
    exact h1
  have q := split_join (y := " ") (s := 32) (S := []) (by decide +kernel) (by decide +kernel) (parts := wlist z) (by unfold wlist wall; simp) h2
  rw [e] at q
  exact q
theorem wlist_len (z : Str) : (wlist z).length ≤ z.length + 1 := by
  have gen : ∀ (m : List Nat) (p : List Str × Str), (m.foldl wstep p).1.length ≤ p.1.length + m.length := by
    intro m
    induction m with
    | nil => intro p; simp
    | cons c m ih =>
      intro p
      have q := ih (wstep p c)
      have e : (wstep p c).1.length ≤ p.1.length + 1 := by
        unfold wstep
        split <;> simp
      simp only [List.foldl_cons, List.length_cons]
      omega
  have q := gen (tl z) ([], ⟨#[]⟩)
  unfold wlist wall wrun
  rw [List.length_append, len_tl]
  simp at q ⊢
  exact q
theorem wcur_len (l : List Nat) : (wrun l).2.length ≤ l.length := by
  have gen : ∀ (m : List Nat) (p : List Str × Str), (m.foldl wstep p).2.length ≤ p.2.length + m.length := by
    intro m
    induction m with
    | nil => intro p; simp
    | cons c m ih =>
      intro p
      have q := ih (wstep p c)
      have e : (wstep p c).2.length ≤ p.2.length + 1 := by
        unfold wstep
        split
        · exact Nat.zero_le _
        · rw [len_tl, tl_append, List.length_append, ← len_tl]
          exact Nat.le_refl _
      simp only [List.foldl_cons, List.length_cons]
      omega
  have q := gen l ([], ⟨#[]⟩)
  rw [show ((([] : List Str), (⟨#[]⟩ : Str)).2).length = 0 from rfl, Nat.zero_add] at q
  exact q
theorem wds_other {x : V} (h : ∀ z, x ≠ .str z) : wds x = none := by
  cases x <;> first | rfl | exact absurd rfl (h _)
def spSW (K : PySem.W.Frag) : Sp := fun vs H Q _ => ∃ x : V, vs = [x] ∧ Odd K H x ∧ (∀ H', Ex H H' → wds x = none → Q .non H') ∧
  ∀ ws p H', H p = none → Ex H H' → wds x = some ws → H' p = some (.lst (ws.map V.str)) → Q (.ref p) H'
theorem in_empty (ws : List Str) : inV (.str "") (ws.map V.str) = decide ((⟨#[]⟩ : Str) ∈ ws) := by
  induction ws with
  | nil => rfl
  | cons w r ih =>
    have e : inV (.str "") ((w :: r).map V.str) = (eqV (.str w) (.str "") || inV (.str "") (r.map V.str)) := rfl
    rw [e, ih]
    have e2 : (Str.ofString "" : Str) = ⟨#[]⟩ := by decide +kernel
    by_cases hw : w = ⟨#[]⟩
    · subst hw
      have e3 : eqV (.str (⟨#[]⟩ : Str)) (.str "") = true := by decide +kernel
      rw [e3, decide_eq_true (List.mem_cons_self ..)]
      rfl
    · have e3 : eqV (.str w) (.str "") = false := by
        rw [e2]
        cases h : eqV (.str w) (.str ⟨#[]⟩) with
        | false => rfl
        | true => exact absurd (by simpa [eqV] using h) hw
      rw [e3, Bool.false_or]
      apply decide_eq_decide.mpr
      constructor
      · exact fun h => List.mem_cons_of_mem _ h
      · intro h
        rcases List.mem_cons.mp h with h | h
        · exact absurd h.symm hw
        · exact h
theorem flat_strs (ws : List Str) : (ws.map V.str).all flatV = true := by
  rw [List.all_map, List.all_eq_true]
  intro w _
  rfl
section
variable {P : Program} {w : World} {K : PySem.W.Frag} {mg : Str → Option Value} {base : Heap} {f : Addr} {fd : FuncData}
theorem ok_split_words (F : FD K "split_words" s_split_words f fd) (m : mg "split_words" = some (.ref f)) (T : Txt mg) : C8.Cal P w K mg base 1 "split_words" (spSW K) [] := by
  refine cal_of F m (F.bindsN fun _ _ _ _ _ _ us hl => match us, hl with | [_], _ => rfl) sc_split_words (fun vs H Q E h => ?_) (fun cdv A outer s H vs Q E hr h => ⟨_, (pss_cons (ps_if (pt_cut (PW.pt (pw_or (pt_not (pt_val (pe_callB call_isi (by rfl) T.z_isinstance (by decide +kernel) (pa_cons (pv 0) (pa_cons (pe_bltn (v := .ty "str") (by rfl) T.z_str (by decide +kernel) rfl) pa_nil))))) (pw_or1 (pt_cmpR op_in_sign pe_str (pv 0) rfl)))))
        (pss_one (ps_ret pe_non))
        pss_nil)
      (pss_cons (ps_set (i := 1) sc_split_words.nd rfl (Or.inl rfl) (pe_split (pv 0) pe_str))
      (pss_one (ps_ret (pe_cut (pe_ifExp (pt_cmpR op_in_seq pe_str (pv 1) rfl) pe_non (pv 1))))))), ?_⟩)
  · obtain ⟨x, rfl, _⟩ := h
    rfl
  · obtain ⟨x, rfl, hx, q1, q2⟩ := h
    rcases hx.isi with ⟨z, rfl, hl, hk⟩ | ⟨hn, T', hk, kb⟩
    · refine ⟨fun b H' => b = decide (10 ∈ tl z) ∧ H = H', ?_, ?_⟩
      · refine ⟨_, rfl, _, _, _, _, true, rfl, .ty _, hk, kit_ty (by decide +kernel), _, rfl, ?_⟩
        refine iteF ?_
        refine ⟨_, rfl, 10, z, by decide +kernel, rfl, _, rfl, rfl, rfl⟩
      rintro b H' ⟨rfl, rfl⟩
      refine ite2 (fun hb => ?_) (fun hb => ?_)
      · exact q1 H (Ex.refl H) (if_pos (d_t hb))
      have hl2 : z.length + 2 ≤ sizeLine := by
        have : (10002 : Nat) ≤ sizeLine := by decide
        omega
      refine ⟨_, rfl, ⟨_, rfl⟩, z, _, rfl, rfl, by decide +kernel, hl2, fun p hp => ?_⟩
      have ep : upd H p (.lst ((Txt.split z " ").map V.str)) p = some (.lst ((wlist z).map V.str)) := by rw [upd_same, split_is]
      refine ⟨fun v H' => Ex H H' ∧ ((v = .non ∧ wds (.str z) = none) ∨ (v = .ref p ∧ wds (.str z) = some (wlist z) ∧ H' p = some (.lst ((wlist z).map V.str)))), ?_, ?_⟩
      · refine ⟨_, rfl, p, _, rfl, .inl (sql_of ep), rfl, flat_strs _, _, rfl, ?_⟩
        show if inV (.str "") ((wlist z).map V.str) = true then _ else _
        rw [in_empty]
        refine ite2 (fun hc => ?_) (fun hc => ?_)
        · exact ⟨Ex.new hp, .inl ⟨rfl, (if_neg (d_f hb)).trans (if_pos (d_t hc))⟩⟩
        · exact ⟨_, rfl, Ex.new hp, .inr ⟨rfl, (if_neg (d_f hb)).trans (if_neg (d_f hc)), ep⟩⟩
      rintro v H' ⟨e, ⟨rfl, hw⟩ | ⟨rfl, hw, hp'⟩⟩
      · exact q1 H' e hw
      · exact q2 _ p H' hp e hw hp'
    · refine ⟨fun b H' => b = true ∧ H = H', ?_, ?_⟩
      · exact ⟨_, rfl, _, _, _, _, false, rfl, .ty _, hk, kit_ty kb, _, rfl, rfl, rfl⟩
      rintro b H' ⟨rfl, rfl⟩
      exact q1 H (Ex.refl H) (wds_other hn)
theorem ok_Lwords (F : FD K "_law_words" s_Lwords f fd) (m : mg "_law_words" = some (.ref f)) (T : Txt mg) : C8.Cal P w K mg base 1 "_law_words" (spSW K) [] := by
  refine cal_of F m (F.bindsN fun _ _ _ _ _ _ us hl => match us, hl with | [_], _ => rfl) sc_Lwords (fun vs H Q E h => ?_) (fun cdv A outer s H vs Q E hr h => ⟨_, (pss_cons (ps_if (pt_not (pt_val (pe_callB call_isi (by rfl) T.z_isinstance (by decide +kernel) (pa_cons (pv 0) (pa_cons (pe_bltn (v := .ty "str") (by rfl) T.z_str (by decide +kernel) rfl) pa_nil)))))
        (pss_one (ps_ret pe_non))
        pss_nil)
      (pss_cons (ps_set (i := 1) sc_Lwords.nd rfl (Or.inl rfl) (pe_lst (pa_cons pe_str pa_nil)))
      (pss_cons (ps_for PassesOwn.never rfl (pi_str (pv 0)) (pg_name (i := 2) sc_Lwords.nd rfl (Or.inl rfl))
        (pss_cons (ps_if (pt_cmpR op_eq (pv 2) pe_str (nomark _))
            (pss_one (ps_ret pe_non))
            pss_nil)
          (pss_one (ps_if (pt_cmpR op_eq (pv 2) pe_str (nomark _))
            (pss_one (ps_expr (pe_bm PySem.F.plainAttrs_list PySem.F.slot_list_append PySem.F.type_list_append mt_append (pv 1) (pa_cons pe_str pa_nil))))
            (pss_one (ps_asg (pe_op op_add_str (pe_ix ix_list (pv 1) (pe_un un_neg pe_int) (fun _ _ => rfl)) (pv 2)) (pg_sub (pv 1) (pe_un un_neg pe_int) set_list)))))))
      (pss_one (ps_ret (pe_cut (pe_ifExp (pt_cmpR op_in_seq pe_str (pv 1) rfl) pe_non (pv 1)))))))), ?_⟩)
  · obtain ⟨x, rfl, _⟩ := h
    rfl
  · obtain ⟨x, rfl, hx, q1, q2⟩ := h
    rcases hx.isi with ⟨z, rfl, hl, hk⟩ | ⟨hn, T', hk, kb⟩
    · refine ⟨_, rfl, _, _, _, _, true, rfl, .ty _, hk, kit_ty (by decide +kernel), _, rfl, ?_⟩
      refine iteF ?_
      refine ⟨by decide, fun p hp => ?_⟩
      have put : ∀ {H' : Hp} {o : HO}, Ex H H' → Ex H (upd H' p o) := fun {H' o} e a u ha => by
        rw [upd_ne (ne_of_none ha hp)]
        exact e a u ha
      refine ⟨_, rfl, z, rfl, for_it walk_str (fun i σ H' => ∃ v, σ = [some (.str z), some (.ref p), v] ∧ Ex H H' ∧ H' p = some (.lst ((wall (wrun ((tl z).take i))).map V.str)) ∧ 10 ∉ (tl z).take i)
        ⟨none, rfl, put (Ex.refl H), by rw [upd_same]; rfl, by simp⟩ (fun _ _ _ _ _ => trivial) ?_ ?_⟩
      · rintro i x σ H1 H2 hi ⟨v, rfl, e, hp1, hno⟩ ⟨rfl, c, hc, rfl⟩
        have hc' : (tl z)[i]? = some c := by
          rw [Array.getElem?_toList]
          exact hc
        have htk : (tl z).take (i + 1) = (tl z).take i ++ [c] := by
          rw [List.take_add_one, hc']
          rfl
        have hrun : wrun ((tl z).take (i + 1)) = wstep (wrun ((tl z).take i)) c := by
          rw [htk]
          unfold wrun
          rw [List.foldl_append]
          rfl
        refine ⟨_, rfl, rfl, _, rfl, ?_⟩
        refine ite2 (fun hb => ?_) (fun hb => ?_)
        · have h10 : c = 10 := by
            have q := d_t hb
            injection q with q
            have q2 := congrArg tl q
            have q3 : tl (Str.ofString "\n") = [10] := by decide +kernel
            rw [q3] at q2
            simpa [tl] using q2
          refine q1 _ e (if_pos ?_)
          rw [← h10]
          exact List.mem_of_getElem? hc'
        have h10 : c ≠ 10 := by
          intro hcc
          apply hb
          rw [hcc]
          decide +kernel
        have hno' : 10 ∉ (tl z).take (i + 1) := by
          rw [htk]
          intro hm
          rcases List.mem_append.mp hm with hm | hm
          · exact hno hm
          · exact h10 (by simpa using hm : (10 : Nat) = c).symm
        refine ⟨_, rfl, rfl, _, rfl, ?_⟩
        have hlen : (wall (wrun ((tl z).take i))).length ≤ 10001 := by
          have q := wlist_len ⟨((tl z).take i).toArray⟩
          have q2 : (⟨((tl z).take i).toArray⟩ : Str).length ≤ z.length := by
            show ((tl z).take i).toArray.size ≤ z.cps.size
            rw [List.size_toArray, List.length_take, Array.length_toList]
            omega
          have q3 : wlist ⟨((tl z).take i).toArray⟩ = wall (wrun ((tl z).take i)) := rfl
          rw [q3] at q
          omega
        refine ite2 (fun hs => ?_) (fun hs => ?_)
        · have h32 : c = 32 := by
            have q := d_t hs
            injection q with q
            have q2 := congrArg tl q
            have q3 : tl (Str.ofString " ") = [32] := by decide +kernel
            rw [q3] at q2
            simpa [tl] using q2
          refine ⟨_, rfl, .inl ⟨rfl, _, sql_of hp1⟩, p, _, _, rfl, rfl, hp1, ?_, ?_⟩
          · rw [List.length_map]
            exact Nat.lt_of_le_of_lt hlen (by decide)
          · refine ⟨_, rfl, put e, ?_, hno'⟩
            rw [upd_same, hrun]
            have e5 : wstep (wrun ((tl z).take i)) c = ((wrun ((tl z).take i)).1 ++ [(wrun ((tl z).take i)).2], ⟨#[]⟩) := if_pos h32
            rw [e5]
            have e6 : (Str.ofString "" : Str) = ⟨#[]⟩ := by decide +kernel
            show some (HO.lst ((wall (wrun ((tl z).take i))).map V.str ++ [V.str (Str.ofString "")])) = _
            rw [e6]
            unfold wall
            simp
        · have h32 : c ≠ 32 := by
            intro hcc
            apply hs
            rw [hcc]
            decide +kernel
          have hp2 : H2 p = some (.lst ((wrun ((tl z).take i)).1.map V.str ++ [V.str (wrun ((tl z).take i)).2])) := by
            rw [hp1]
            unfold wall
            simp
          have hlz : (wrun ((tl z).take i)).2.length ≤ 10000 := by
            have q := wcur_len ((tl z).take i)
            rw [List.length_take, ← len_tl] at q
            omega
          refine ⟨_, rfl, _, rfl, p, _, _, _, rfl, rfl, sql_of hp2, atI_last _ _, _, rfl, _, _, rfl, rfl, ?_, _, rfl, _, rfl, p, _, _, (wrun ((tl z).take i)).1.length, rfl, rfl, hp2, ?_, ?_⟩
          · show _ + 1 ≤ sizeLine
            have : (10001 : Nat) ≤ sizeLine := by decide
            omega
          · unfold ixN
            simp
            omega
          · refine ⟨_, rfl, put e, ?_, hno'⟩
            rw [upd_same, hrun]
            have e5 : wstep (wrun ((tl z).take i)) c = ((wrun ((tl z).take i)).1, (wrun ((tl z).take i)).2 ++ ⟨#[c]⟩) := if_neg h32
            rw [e5]
            unfold wall
            simp
      · rintro σ H1 ⟨v, rfl, e, hp1, hno⟩
        have htk : (tl z).take z.cps.size = tl z := by
          rw [List.take_of_length_le]
          rw [Array.length_toList]
          exact Nat.le_refl _
        rw [htk] at hp1 hno
        refine ⟨fun v H' => H1 = H' ∧ ((v = .non ∧ wds (.str z) = none) ∨ (v = .ref p ∧ wds (.str z) = some (wlist z))), ?_, ?_⟩
        · refine ⟨_, rfl, p, _, rfl, .inl (sql_of hp1), rfl, flat_strs _, _, rfl, ?_⟩
          show if inV (.str "") ((wlist z).map V.str) = true then _ else _
          rw [in_empty]
          refine ite2 (fun hc => ?_) (fun hc => ?_)
          · exact ⟨rfl, .inl ⟨rfl, (if_neg hno).trans (if_pos (d_t hc))⟩⟩
          · exact ⟨_, rfl, rfl, .inr ⟨rfl, (if_neg hno).trans (if_neg (d_f hc))⟩⟩
        rintro v H' ⟨rfl, ⟨rfl, hw⟩ | ⟨rfl, hw⟩⟩
        · exact q1 H1 e hw
        · exact q2 _ p H1 hp e hw hp1
    · exact ⟨_, rfl, _, _, _, _, false, rfl, .ty _, hk, kit_ty kb, _, rfl, q1 H (Ex.refl H) (wds_other hn)⟩
end
end K03
namespace K03
open PySem PySem.Spec PyProof.Rows L2 Lv TL
def spTxt (m k : Nat) : Sp := fun vs H Q _ => ∃ (b : Addr) (c : Nat), vs = [.ref b] ∧ Bx H b c ∧ c ≤ 900000 ∧ ∀ z H', Sk m z → Ch b H H' → Bx H' b (c + k) → Q (.str z) H'
section
variable {P : Program} {w : World} {K : PySem.W.Frag} {mg : Str → Option Value} {base : Heap} {f : Addr} {fd : FuncData}
theorem ok_Ldigits (F : FD K "_law_digits" s_Ldigits f fd) (m : mg "_law_digits" = some (.ref f)) (T : Txt mg) (C_Ltake : C8.Cal P w K mg base 1 "_law_take" spTake []) : C8.Cal P w K mg base 2 "_law_digits" (spTxt 100 40) [] := by
  refine cal_of F m (F.bindsN fun _ _ _ _ _ _ us hl => match us, hl with | [_], _ => rfl) sc_Ldigits (fun vs H Q E h => ?_) (fun cdv A outer s H vs Q E hr h => ⟨_, (pss_cons (ps_set (i := 1) sc_Ldigits.nd rfl (Or.inl rfl) (pe_ix ix_list (pe_lst (pa_cons pe_int (pa_cons pe_int (pa_cons pe_int (pa_cons pe_int (pa_cons pe_int (pa_cons pe_int (pa_cons pe_int (pa_cons pe_int pa_nil))))))))) (C8.pe_c C_Ltake hr (by decide) (by rfl) (pa_cons (pv 0) (pa_cons pe_int pa_nil))) (fun _ _ => rfl)))
      (pss_cons (ps_set (i := 2) sc_Ldigits.nd rfl (Or.inl rfl) (pe_join pe_str (pe_lc (own := [("_law_k", 4)]) (by rfl) sc_Ldigits.nd (pi_range1 (by rfl) T.z_range (pa_cons (pv 1) pa_nil)) (blkOk_by (own := [("_law_k", 4)]) (N := ["_law_box_here", "_law_many", "_law_text", "_law_at", "_law_k"]) (sc := defScope s_Ldigits) (by decide +kernel)) (fun _ _ _ _ _ => (pg_name (i := 4) sc_Ldigits.nd rfl (Or.inl rfl))) (fun _ _ _ _ _ => pts_nil) (fun _ _ _ _ _ => (pe_ix ix_str pe_str (C8.pe_c C_Ltake hr (by decide) (by rfl) (pa_cons (pv 0) (pa_cons pe_int pa_nil))) (fun _ _ => rfl))))))
      (pss_cons (ps_set (i := 2) sc_Ldigits.nd rfl (Or.inl rfl) (pe_op op_add_str (pe_ix ix_list (pe_lst (pa_cons pe_str (pa_cons pe_str (pa_cons pe_str (pa_cons pe_str (pa_cons pe_str (pa_cons pe_str pa_nil))))))) (C8.pe_c C_Ltake hr (by decide) (by rfl) (pa_cons (pv 0) (pa_cons pe_int pa_nil))) (fun _ _ => rfl)) (pv 2)))
      (pss_cutS (ps_if (pt_cmpR op_eq (C8.pe_c C_Ltake hr (by decide) (by rfl) (pa_cons (pv 0) (pa_cons pe_int pa_nil))) pe_int (nomark _))
        (pss_cons (ps_set (i := 3) sc_Ldigits.nd rfl (Or.inl rfl) (C8.pe_c C_Ltake hr (by decide) (by rfl) (pa_cons (pv 0) (pa_cons (pe_op op_add (pe_callB call_len_str (by rfl) T.z_len (by decide +kernel) (pa_cons (pv 2) pa_nil)) pe_int) pa_nil))))
          (pss_one (ps_set (i := 2) sc_Ldigits.nd rfl (Or.inl rfl) (pe_op op_add_str (pe_op op_add_str (pe_slice sl_str (pv 2) po_none (po_some (pv 3))) (pe_ix ix_list (pe_lst (pa_cons pe_str (pa_cons pe_str (pa_cons pe_str (pa_cons pe_str (pa_cons pe_str (pa_cons pe_str (pa_cons pe_str pa_nil)))))))) (C8.pe_c C_Ltake hr (by decide) (by rfl) (pa_cons (pv 0) (pa_cons pe_int pa_nil))) (fun _ _ => rfl))) (pe_slice sl_str (pv 2) (po_some (pv 3)) po_none)))))
        pss_nil)
      (pss_one (ps_ret (pv 2))))))), ?_⟩)
  · obtain ⟨b, c, rfl, _⟩ := h
    rfl
  · obtain ⟨b, c, rfl, hB, hc, q⟩ := h
    -- many
    refine ⟨by decide, fun l hl => ?_⟩
    have nlb : l ≠ b := hB.ne hl
    refine ⟨_, rfl, b, 8, c, rfl, hB.ex (Ex.new hl), by omega, by decide, by decide, fun r H1 h0 h1 e1 B1 => ?_⟩
    have E1 : Ch b H H1 := (Ex.new hl).ch.trans e1
    obtain ⟨n, hn, hn1, hn2⟩ := pick_int (lo := 1) (hi := 31) (xs := [.int 1, .int 1, .int 2, .int 3, .int 3, .int 4, .int 30, .int 31]) (by decide) h0 h1
    refine ⟨l, _, r, _, rfl, rfl, sql_of (e1 _ _ nlb upd_same), hn, ?_⟩
    -- "".join
    refine ⟨⟨_, rfl⟩, _, rfl, n, rfl, by omega, by omega, fun D hD => ?_⟩
    refine lc_draw 1 (fun y => ∃ z, y = .str z ∧ Sk 1 z) hD B1 (by omega) ?_ ?_
    · intro i H2 A2 hi e2 B2 k
      refine ⟨rfl, _, rfl, b, 10, _, rfl, B2, by omega, by decide, by decide, fun r2 H3 g0 g1 e3 B3 => ?_⟩
      have g1' : r2 < ((Str.ofString "0123456789").cps.toList.length : Int) := by
        have e : (Str.ofString "0123456789").cps.toList.length = 10 := by decide +kernel
        rw [e]
        exact g1
      obtain ⟨cc, hcc, hcm⟩ := atI_mem g0 g1'
      have hcs : cc < 1000000 := by
        have e : ∀ c ∈ (Str.ofString "0123456789").cps.toList, c < 1000000 := by decide +kernel
        exact e cc hcm
      refine ⟨_, r2, cc, rfl, rfl, by decide +kernel, hcc, k _ H3 ⟨_, rfl, Nat.le_refl _, fun c hc => by rw [List.mem_singleton.mp (show c ∈ [cc] from hc)]; exact hcs⟩ e3 (B3.le (by omega))⟩
    intro H2 acc e2 B2 hD2 hlen hacc
    obtain ⟨ys, rfl, hys⟩ := strs_of hacc
    rw [List.length_map] at hlen
    have hjn : ys.length ≤ 31 := by omega
    obtain ⟨j1, j2⟩ := Sk.join (y := "") (k := 0) hys ⟨by decide +kernel, by decide +kernel⟩ hjn
    have j1l := j1.1
    refine ⟨_, D, ys, rfl, rfl, .inl (sql_of hD2), by omega, ?_⟩
    have E2 : Ch b H H2 := E1.trans e2
    -- the sign
    refine ⟨by decide, fun l2 hl2 => ?_⟩
    have nlb2 : l2 ≠ b := B2.ne hl2
    refine ⟨_, rfl, b, 6, _, rfl, B2.ex (Ex.new hl2), by omega, by decide, by decide, fun r3 H3 g0 g1 e3 B3 => ?_⟩
    have E3 : Ch b H H3 := (E2.trans (Ex.new hl2).ch).trans e3
    obtain ⟨sg, hsg, hsl⟩ := pick_str (m := 2) (xs := [.str "", .str "", .str "-", .str "--", .str "+", .str "-"]) (by decide +kernel) g0 g1
    have hsl1 := hsl.1
    refine ⟨l2, _, r3, _, rfl, rfl, sql_of (e3 _ _ nlb2 upd_same), hsg, _, rfl, sg, _, rfl, rfl, by have : (1000 : Nat) ≤ sizeLine := (by decide); omega, ?_⟩
    have hzs : Sk 33 (sg ++ Txt.join "" ys) := hsl.app j1
    generalize sg ++ Txt.join "" ys = z at hzs
    have hz := hzs.1
    -- if take(box, 4) == 0
    refine ⟨fun σ' H' => ∃ z' v, Sk 90 z' ∧ σ' = [some (.ref b), some (.int n), some (.str z'), v, none] ∧ Ch b H H' ∧ Bx H' b (c + 40), ?_, ?_⟩
    · refine ⟨_, rfl, b, 4, _, rfl, B3, by omega, by decide, by decide, fun r4 H4 _ _ e4 B4 => ?_⟩
      have E4 : Ch b H H4 := E3.trans e4
      refine ⟨rfl, _, rfl, ?_⟩
      refine ite2 (fun _ => ?_) (fun _ => ?_)
      · refine ⟨_, rfl, _, rfl, z, rfl, by have : (1000 : Nat) ≤ sizeLine := (by decide); omega, _, _, rfl, rfl, b, _, _, rfl, B4, by omega, by omega, by omega, fun r5 H5 _ _ e5 B5 => ?_⟩
        have hzl : z.length ≤ sizeLine := by have : (1000 : Nat) ≤ sizeLine := (by decide); omega
        refine ⟨_, rfl, _, rfl, r5, rfl, z, rfl, hzl, ?_⟩
        refine ⟨by decide, fun l3 hl3 => ?_⟩
        have nlb3 : l3 ≠ b := B5.ne hl3
        refine ⟨_, rfl, b, 7, _, rfl, B5.ex (Ex.new hl3), by omega, by decide, by decide, fun r6 H6 k0 k1 e6 B6 => ?_⟩
        obtain ⟨mk, hmk, hml⟩ := pick_str (m := 1) (xs := [.str " ", .str "a", .str "_", .str "-", .str "\n", .str "0", .str "."]) (by decide +kernel) k0 k1
        have hc1 := cut_len z none (some r5)
        have hc2 := cut_len z (some r5) none
        have hml1 := hml.1
        have hs1 : (1000 : Nat) ≤ sizeLine := by decide
        refine ⟨l3, _, r6, _, rfl, rfl, sql_of (e6 _ _ nlb3 upd_same), hmk, _, _, rfl, rfl, by omega, _, rfl, _, rfl, r5, rfl, z, rfl, hzl, _, _, rfl, rfl, by rw [app_len]; omega, ?_⟩
        refine ⟨_, _, ?_, rfl, ((E4.trans e5).trans (Ex.new hl3).ch).trans e6, B6.le (by omega)⟩
        exact (((hzs.cut none (some r5)).app hml).app (hzs.cut (some r5) none)).le (by decide)
      · exact ⟨z, none, hzs.le (by decide), rfl, E4, B4.le (by omega)⟩
    rintro σ' H' ⟨z', v, hz', rfl, e', B'⟩
    exact ⟨_, rfl, q z' H' (hz'.le (by decide)) e' B'⟩
end
end K03
namespace K03
open PySem PySem.Spec PyProof.Rows L2 Lv TL
section
variable {P : Program} {w : World} {K : PySem.W.Frag} {mg : Str → Option Value} {base : Heap} {f : Addr} {fd : FuncData}
theorem ok_Lline (F : FD K "_law_line" s_Lline f fd) (m : mg "_law_line" = some (.ref f)) (T : Txt mg) (C_Ltake : C8.Cal P w K mg base 1 "_law_take" spTake []) : C8.Cal P w K mg base 2 "_law_line" (spTxt 100 60) [] := by
  refine cal_of F m (F.bindsN fun _ _ _ _ _ _ us hl => match us, hl with | [_], _ => rfl) sc_Lline (fun vs H Q E h => ?_) (fun cdv A outer s H vs Q E hr h => ⟨_, (pss_cons (ps_set (i := 1) sc_Lline.nd rfl (Or.inr rfl) pe_str)
      (pss_cons (ps_set (i := 2) sc_Lline.nd rfl (Or.inl rfl) (pe_lst pa_nil))
      (pss_cons (ps_for PassesOwn.never rfl (pi_range1 (by rfl) T.z_range (pa_cons (pe_op op_add pe_int (C8.pe_c C_Ltake hr (by decide) (by rfl) (pa_cons (pv 0) (pa_cons pe_int pa_nil)))) pa_nil)) (pg_name (i := 3) sc_Lline.nd rfl (Or.inl rfl))
        (pss_one (ps_expr (pe_bm PySem.F.plainAttrs_list PySem.F.slot_list_append PySem.F.type_list_append mt_append (pv 2) (pa_cons (pe_join pe_str (pe_lc (own := [("_law_j", 6)]) (by rfl) sc_Lline.nd (pi_range1 (by rfl) T.z_range (pa_cons (pe_op op_add pe_int (C8.pe_c C_Ltake hr (by decide) (by rfl) (pa_cons (pv 0) (pa_cons pe_int pa_nil)))) pa_nil)) (blkOk_by (own := [("_law_j", 6)]) (N := ["_law_box_here", "_law_signs", "_law_words_here", "_law_k", "_law_text", "_law_at", "_law_j"]) (sc := defScope s_Lline) (by decide +kernel)) (fun _ _ _ _ _ => (pg_name (i := 6) sc_Lline.nd rfl (Or.inl rfl))) (fun _ _ _ _ _ => pts_nil) (fun _ _ _ _ _ => (pe_ix ix_str (pv 1) (C8.pe_c C_Ltake hr (by decide) (by rfl) (pa_cons (pv 0) (pa_cons (pe_callB call_len_str (by rfl) T.z_len (by decide +kernel) (pa_cons (pv 1) pa_nil)) pa_nil))) (fun _ _ => rfl))))) pa_nil)))))
      (pss_cons (ps_set (i := 4) sc_Lline.nd rfl (Or.inl rfl) (pe_join pe_str (pv 2)))
      (pss_cutS (ps_if (pt_cmpR op_eq (C8.pe_c C_Ltake hr (by decide) (by rfl) (pa_cons (pv 0) (pa_cons pe_int pa_nil))) pe_int (nomark _))
        (pss_cons (ps_set (i := 5) sc_Lline.nd rfl (Or.inl rfl) (C8.pe_c C_Ltake hr (by decide) (by rfl) (pa_cons (pv 0) (pa_cons (pe_op op_add (pe_callB call_len_str (by rfl) T.z_len (by decide +kernel) (pa_cons (pv 4) pa_nil)) pe_int) pa_nil))))
          (pss_one (ps_set (i := 4) sc_Lline.nd rfl (Or.inl rfl) (pe_op op_add_str (pe_op op_add_str (pe_slice sl_str (pv 4) po_none (po_some (pv 5))) (pe_ix ix_list (pe_lst (pa_cons pe_str (pa_cons pe_str (pa_cons pe_str pa_nil)))) (C8.pe_c C_Ltake hr (by decide) (by rfl) (pa_cons (pv 0) (pa_cons pe_int pa_nil))) (fun _ _ => rfl))) (pe_slice sl_str (pv 4) (po_some (pv 5)) po_none)))))
        pss_nil)
      (pss_one (ps_ret (pv 4)))))))), ?_⟩)
  · obtain ⟨b, c, rfl, _⟩ := h
    rfl
  · obtain ⟨b, c, rfl, hB, hc, q⟩ := h
    -- signs
    show tSeq _ _ _ _ _
    have hsg : ∃ sg : Str, sg = Str.ofString "!\"#$&'()*+,-./0123456789:;<=>?@ABCDEFGHIJKLMNOPQRSTUVWXYZ[\\]^_`abcdefghijklmnopqrstuvwxyz{|}~" ∧ sg.cps.toList.length = 93 ∧ ∀ c ∈ sg.cps.toList, c < 1000000 := ⟨_, rfl, by decide +kernel, by decide +kernel⟩
    obtain ⟨sg, esg, lsg, csg⟩ := hsg
    rw [← esg]
    have lsg2 : sg.length = 93 := by rw [len_tl]; exact lsg
    have hs1 : (1000 : Nat) ≤ sizeLine := by decide
    -- words = []
    refine ⟨by decide, fun p hp => ?_⟩
    have npb : p ≠ b := hB.ne hp
    have put : ∀ {H' : Hp} {o : HO}, Ch b H H' → Ch b H (upd H' p o) := fun {H' o} e a u n ha => by
      rw [upd_ne (ne_of_none ha hp)]
      exact e a u n ha
    have putB : ∀ {H' : Hp} {o : HO} {c : Nat}, Bx H' b c → Bx (upd H' p o) b c := fun {H' o c} ⟨x, y, z, hb, r⟩ => ⟨x, y, z, by rw [upd_ne npb.symm]; exact hb, r⟩
    refine ⟨_, rfl, b, 8, c, rfl, putB hB, by omega, by decide, by decide, fun r0 H1 h0 h1 e1 B1 => ?_⟩
    refine ⟨_, _, rfl, rfl, 1 + r0, rfl, by omega, by omega, for_range (lo := 0) (n := (1 + r0).toNat) (fun i σ H' => ∃ acc v, σ = [some (.ref b), some (.str sg), some (.ref p), v, none, none, none] ∧ Ch b H H' ∧ Bx H' b (c + 1 + i * 6) ∧ H' p = some (.lst acc) ∧ acc.length = i ∧ ∀ y ∈ acc, ∃ z, y = .str z ∧ Sk 5 z)
      ⟨[], none, rfl, (put (Ch.refl b H)).trans e1, B1.le (by omega), e1 _ _ npb upd_same, rfl, fun y hy => nomatch hy⟩ ?_ ?_⟩
    · rintro i σ H2 hi ⟨acc, v, rfl, e2, B2, hp2, hl2, hacc⟩
      refine ⟨_, rfl, .inl ⟨rfl, _, sql_of hp2⟩, ⟨_, rfl⟩, _, rfl, b, 5, _, rfl, B2, by omega, by decide, by decide, fun r3 H3 g0 g1 e3 B3 => ?_⟩
      refine ⟨_, _, rfl, rfl, 1 + r3, rfl, by omega, by omega, fun D hD => ?_⟩
      refine lc_draw 1 (fun y => ∃ z, y = .str z ∧ Sk 1 z) hD B3 (by omega) ?_ ?_
      · intro j H4 A4 hj e4 B4 k
        refine ⟨rfl, _, rfl, _, rfl, _, rfl, _, rfl, by omega, b, _, _, rfl, B4, by omega, by omega, by omega, fun r5 H5 k0 k1 e5 B5 => ?_⟩
        obtain ⟨cc, hcc, hcm⟩ := atI_mem (xs := sg.cps.toList) k0 (by rw [lsg]; omega)
        refine ⟨_, r5, cc, rfl, rfl, by omega, hcc, k _ H5 ⟨_, rfl, Nat.le_refl _, fun c hc => by rw [List.mem_singleton.mp (show c ∈ [cc] from hc)]; exact csg cc hcm⟩ e5 (B5.le (by omega))⟩
      intro H4 acc4 e4 B4 hD4 hlen4 hacc4
      obtain ⟨ys, rfl, hys⟩ := strs_of hacc4
      rw [List.length_map] at hlen4
      have hjn : ys.length ≤ 5 := by omega
      obtain ⟨j1, j2⟩ := Sk.join (y := "") (k := 0) hys ⟨by decide +kernel, by decide +kernel⟩ hjn
      have j1l := j1.1
      refine ⟨_, D, ys, rfl, rfl, .inl (sql_of hD4), by omega, p, acc, _, rfl, rfl, e4 _ _ npb (e3 _ _ npb hp2), by omega, ?_⟩
      refine ⟨acc ++ [.str (Txt.join "" ys)], _, rfl, put ((e2.trans e3).trans e4), putB (B4.le (by omega)), upd_same, by rw [List.length_append, hl2]; rfl, ?_⟩
      intro y hy
      rcases List.mem_append.mp hy with hy | hy
      · exact hacc y hy
      · exact ⟨_, List.mem_singleton.mp hy, j1⟩
    rintro σ H2 ⟨acc, v, rfl, e2, B2, hp2, hl2, hacc⟩
    obtain ⟨ys, rfl, hys⟩ := strs_of hacc
    rw [List.length_map] at hl2
    have hjn : ys.length ≤ 8 := by omega
    obtain ⟨hzs, j2⟩ := Sk.join (y := " ") (k := 1) hys ⟨by decide +kernel, by decide +kernel⟩ hjn
    refine ⟨⟨_, rfl⟩, _, rfl, _, p, ys, rfl, rfl, .inl (sql_of hp2), by omega, ?_⟩
    generalize Txt.join " " ys = z at hzs
    have j1 := hzs.1
    -- if take(box, 2) == 0
    refine ⟨fun σ' H' => ∃ z' v2, Sk 98 z' ∧ σ' = [some (.ref b), some (.str sg), some (.ref p), v, some (.str z'), v2, none] ∧ Ch b H H' ∧ Bx H' b (c + 60), ?_, ?_⟩
    · refine ⟨_, rfl, b, 2, _, rfl, B2, by omega, by decide, by decide, fun r4 H4 _ _ e4 B4 => ?_⟩
      have E4 : Ch b H H4 := e2.trans e4
      refine ⟨rfl, _, rfl, ?_⟩
      refine ite2 (fun _ => ?_) (fun _ => ?_)
      · refine ⟨_, rfl, _, rfl, z, rfl, by omega, _, _, rfl, rfl, b, _, _, rfl, B4, by omega, by omega, by omega, fun r5 H5 _ _ e5 B5 => ?_⟩
        have hzl : z.length ≤ sizeLine := by omega
        refine ⟨_, rfl, _, rfl, r5, rfl, z, rfl, hzl, ?_⟩
        refine ⟨by decide, fun l3 hl3 => ?_⟩
        have nlb3 : l3 ≠ b := B5.ne hl3
        refine ⟨_, rfl, b, 3, _, rfl, B5.ex (Ex.new hl3), by omega, by decide, by decide, fun r6 H6 k0 k1 e6 B6 => ?_⟩
        obtain ⟨mk, hmk, hml⟩ := pick_str (m := 2) (xs := [.str " ", .str "  ", .str "\n"]) (by decide +kernel) k0 k1
        have hc1 := cut_len z none (some r5)
        have hc2 := cut_len z (some r5) none
        have hml1 := hml.1
        refine ⟨l3, _, r6, _, rfl, rfl, sql_of (e6 _ _ nlb3 upd_same), hmk, _, _, rfl, rfl, by omega, _, rfl, _, rfl, r5, rfl, z, rfl, hzl, _, _, rfl, rfl, by rw [app_len]; omega, ?_⟩
        refine ⟨_, _, ?_, rfl, ((E4.trans e5).trans (Ex.new hl3).ch).trans e6, B6.le (by omega)⟩
        exact (((hzs.cut none (some r5)).app hml).app (hzs.cut (some r5) none)).le (by decide)
      · exact ⟨z, none, hzs.le (by decide), rfl, E4, B4.le (by omega)⟩
    rintro σ' H' ⟨z', v2, hz', rfl, e', B'⟩
    exact ⟨_, rfl, q z' H' (hz'.le (by decide)) e' B'⟩
end
end K03
namespace K03
open PySem PySem.Spec PyProof.Rows L2 Lv TL
section
variable {P : Program} {w : World} {K : PySem.W.Frag} {mg : Str → Option Value} {base : Heap} {f : Addr} {fd : FuncData}
theorem ok_parse (F : FDP K f fd) (m : mg "parse_integer" = some (.ref f)) (T : Txt mg) : C8.Cal P w K mg base 1 "parse_integer" (spPI K) [.int (-999), .int 999] := by
  obtain ⟨ds, v, b⟩ := F.binds0 (ps := ["text", "low", "high"]) 1 (by simp) rfl (fun D doc pm an cdv ct us ks h1 h2 => match us, ks, h1, h2 with
    | [u], [x, y], _, _ => ⟨_, _, _, _, _, _, rfl, rfl, _, _, _, _, _, _, rfl, rfl, rfl⟩)
  exact ⟨f, fd, _, ds, fn_parse F T, m, F.kp, b, v⟩
theorem ok_parse_lh (F : FDP K f fd) (m : mg "parse_integer" = some (.ref f)) (T : Txt mg) : CalN P w K mg base 1 "parse_integer" (spPI K) 1 ["low", "high"] (fun vs zs => vs ++ zs) := by
  obtain ⟨mv, b⟩ := FunD.kbinds0 (ps := ["text", "low", "high"]) F 1 ["low", "high"] [] (fun us mv ws => us ++ ws) (by simp) (by simp) (fun r1 _ r3 => r1.append r3) (fun D doc pm an cdv ct us mv ws h1 h2 h3 => match us, mv, ws, h1, h2, h3 with
    | [u], [], [x, y], _, _, _ => rfl)
  exact ⟨f, fd, _, _, fn_parse F T, m, F.kp, b⟩
theorem ok_parse_h (F : FDP K f fd) (m : mg "parse_integer" = some (.ref f)) (T : Txt mg) : CalN P w K mg base 1 "parse_integer" (spPI K) 1 ["high"] (fun vs zs => vs ++ ([.int (-999)] ++ zs)) := by
  obtain ⟨mv, b⟩ := FunD.kbinds0 (ps := ["text", "low", "high"]) F 1 ["high"] [("low", V.int (-999))] (fun us mv ws => us ++ (mv ++ ws)) (by simp) (by simp) (fun r1 r2 r3 => r1.append (r2.append r3)) (fun D doc pm an cdv ct us mv ws h1 h2 h3 => match us, mv, ws, h1, h2, h3 with
    | [u], [y], [x], _, _, _ => ⟨_, _, _, _, _, _, rfl, rfl, rfl⟩)
  exact ⟨f, fd, _, _, fn_parse F T, m, F.kp, b⟩
theorem ok_parse_l (F : FDP K f fd) (m : mg "parse_integer" = some (.ref f)) (T : Txt mg) : CalN P w K mg base 1 "parse_integer" (spPI K) 1 ["low"] (fun vs zs => vs ++ (zs ++ [.int 999])) := by
  obtain ⟨mv, b⟩ := FunD.kbinds0 (ps := ["text", "low", "high"]) F 1 ["low"] [("high", V.int 999)] (fun us mv ws => us ++ (ws ++ mv)) (by simp) (by simp) (fun r1 r2 r3 => r1.append (r3.append r2)) (fun D doc pm an cdv ct us mv ws h1 h2 h3 => match us, mv, ws, h1, h2, h3 with
    | [u], [y], [x], _, _, _ => ⟨_, _, _, _, _, _, rfl, rfl, rfl⟩)
  exact ⟨f, fd, _, _, fn_parse F T, m, F.kp, b⟩
end
end K03
namespace K03
open PySem PySem.Spec PyProof.Rows L2 Lv TL
def spLaw (K : PySem.W.Frag) : Sp := fun vs H Q _ => ∃ (a : Addr) (ns : List Int), vs = [.ref a] ∧ SqL K H a (ns.map V.int) ∧ ns.length ≤ 63 ∧ ∀ H', Q (.bl true) H'
def optD : Option Int → PyData
  | some n => .int n
  | none => .none
theorem dp_opt {K : PySem.W.Frag} {H : Hp} (o : Option Int) : Dp K H (optV o) (optD o) := by
  cases o with
  | none => exact .non
  | some n => exact .int n
theorem pInt_bound {x : V} {lo hi n : Int} (h : pInt x lo hi = some n) : lo ≤ n ∧ n ≤ hi := by
  cases x with
  | str z =>
    have h' : pStr z lo hi = some n := h
    unfold pStr at h'
    split at h'
    · split at h'
      · cases h'
      · split at h'
        · rename_i hb
          cases h'
          exact hb
        · cases h'
    · cases h'
  | _ => cases h
def Sm (o : Option Int) : Prop := ∀ n, o = some n → n.natAbs < 10 ^ 31
theorem sm_of {x : V} {lo hi : Int} (h1 : -(10 ^ 30) ≤ lo) (h2 : hi ≤ 10 ^ 30) : Sm (pInt x lo hi) := fun n e => by
  obtain ⟨a, b⟩ := pInt_bound e
  omega
theorem opt_show {o : Option Int} (h : Sm o) : (optD o).showable = true ∧ (optD o).depth = 0 ∧ (optD o).shown.length ≤ 40 := by
  cases o with
  | none => exact ⟨rfl, rfl, by decide +kernel⟩
  | some n =>
    have hn := h n rfl
    refine ⟨?_, rfl, ?_⟩
    · show decide (n.natAbs.log2 < 1920) = true
      apply decide_eq_true
      have h2 : n.natAbs < 2 ^ 1920 := Nat.lt_of_lt_of_le hn (by decide)
      exact log2_small h2
    · have e := int_text_length_le10 (k := 31) (by decide) hn
      show (Str.ofString (toString n)).length ≤ 40
      rw [PySem.ofString_length]
      omega
theorem four_show {a b c d : Option Int} (ha : Sm a) (hb : Sm b) (hc : Sm c) (hd : Sm d) : (PyData.list [optD a, optD b, optD c, optD d]).showable = true ∧ (PyData.list [optD a, optD b, optD c, optD d]).depth ≤ 60 ∧ (PyData.list [optD a, optD b, optD c, optD d]).shown.length ≤ sizeLine := by
  obtain ⟨a1, a2, a3⟩ := opt_show ha
  obtain ⟨b1, b2, b3⟩ := opt_show hb
  obtain ⟨c1, c2, c3⟩ := opt_show hc
  obtain ⟨d1, d2, d3⟩ := opt_show hd
  refine ⟨?_, ?_, ?_⟩
  · simp only [PyData.showable, PyData.showableAll, a1, b1, c1, d1, Bool.and_self]
  · simp only [PyData.depth, PyData.depthAll, a2, b2, c2, d2]
    decide
  · have q := listText_len_le (PyData.shownAll [optD a, optD b, optD c, optD d])
    simp only [PyData.shown]
    have hs : (1000 : Nat) ≤ sizeLine := by decide
    simp only [PyData.shownAll, List.map_cons, List.map_nil, List.sum_cons, List.sum_nil, List.length_cons, List.length_nil] at q ⊢
    omega
theorem wds_some {z : Str} {ws : List Str} (h : wds (.str z) = some ws) : ws = wlist z := by
  have h' : (if 10 ∈ tl z then none else if (⟨#[]⟩ : Str) ∈ wlist z then none else some (wlist z)) = some ws := h
  split at h'
  · cases h'
  · split at h'
    · cases h'
    · exact (Option.some.inj h').symm
theorem words_show {x : V} {ws : List Str} (hx : ∃ z, x = .str z ∧ Sk 10000 z) (h : wds x = some ws) : (PyData.list (ws.map PyData.str)).showable = true ∧ (PyData.list (ws.map PyData.str)).depth ≤ 60 ∧ (PyData.list (ws.map PyData.str)).shown.length ≤ sizeLine := by
  obtain ⟨z, rfl, hz⟩ := hx
  have e := wds_some h
  subst e
  obtain ⟨h1, h2⟩ := wrun_ok (tl z)
  have hsum : ((wlist z).map (·.length)).sum ≤ 10000 := by
    have q := sum_joinL [32] ((wlist z).map tl)
    have e2 : joinL [32] ((wlist z).map tl) = tl z := h1
    rw [e2, List.map_map, ← len_tl] at q
    have e3 : (fun x => x.length) ∘ tl = fun x : Str => x.length := by
      funext x
      exact (len_tl x).symm
    rw [e3] at q
    exact Nat.le_trans q hz.1
  have hch : ∀ y ∈ wlist z, ∀ c ∈ tl y, c < 1000000 := by
    intro y hy c hc
    apply hz.2
    have e2 : joinL [32] ((wlist z).map tl) = tl z := h1
    rw [← e2]
    have gen : ∀ (ps : List (List Nat)) (p : List Nat), p ∈ ps → c ∈ p → c ∈ joinL [32] ps := by
      intro ps
      induction ps with
      | nil => intro p hp; cases hp
      | cons q r ih =>
        intro p hp hcp
        cases r with
        | nil =>
          rw [List.mem_singleton.mp hp] at hcp
          exact hcp
        | cons q2 r2 =>
          show c ∈ q ++ ([32] ++ joinL [32] (q2 :: r2))
          rcases List.mem_cons.mp hp with rfl | hp
          · exact List.mem_append_left _ hcp
          · exact List.mem_append_right _ (List.mem_append_right _ (ih p hp hcp))
    exact gen _ _ (List.mem_map_of_mem hy) hc
  have hlen := wlist_len z
  have hz1 := hz.1
  refine ⟨?_, ?_, ?_⟩
  · simp only [PyData.showable]
    exact PyData.showableAll_strs _
  · rw [depth_strs]
    decide
  · have q := shown_list_strs hch hsum (Nat.le_trans hlen (Nat.succ_le_succ hz1))
    exact Nat.le_trans q (by decide)
section
variable {P : Program} {w : World} {K : PySem.W.Frag} {mg : Str → Option Value} {base : Heap} {f : Addr} {fd : FuncData}
theorem fn_law (F : FD K "law" s_law f fd) (T : Txt mg) (C_Lcell : C8.Cal P w K mg base 1 "_law_cell" (spCel K) []) (C_Lbox : C8.Cal P w K mg base 1 "_law_box" spBox []) (C_Ltake : C8.Cal P w K mg base 1 "_law_take" spTake [])
    (C_Ldigits : C8.Cal P w K mg base 2 "_law_digits" (spTxt 100 40) []) (C_Lline : C8.Cal P w K mg base 2 "_law_line" (spTxt 100 60) [])
    (C_parse_integer : C8.Cal P w K mg base 1 "parse_integer" (spPI K) [.int (-999), .int 999]) (C_parse_integer_low_high : CalN P w K mg base 1 "parse_integer" (spPI K) 1 ["low", "high"] (fun vs zs => vs ++ zs))
    (C_parse_integer_high : CalN P w K mg base 1 "parse_integer" (spPI K) 1 ["high"] (fun vs zs => vs ++ ([.int (-999)] ++ zs))) (C_parse_integer_low : CalN P w K mg base 1 "parse_integer" (spPI K) 1 ["low"] (fun vs zs => vs ++ (zs ++ [.int 999])))
    (C_Linteger : C8.Cal P w K mg base 1 "_law_integer" (spPI K) []) (C_split_words : C8.Cal P w K mg base 1 "split_words" (spSW K) []) (C_Lwords : C8.Cal P w K mg base 1 "_law_words" (spSW K) []) :
    FnG P w K mg base CX0 3 f fd ["_law_script"] (spLaw K) := by
  refine fnG_of F sc_law (fun vs H Q E h => ?_) (fun cdv A outer s H vs Q E hqt hr h => ⟨_, PSs.nox (pss_cons (ps_for PassesOwn.never rfl (pi_range1 (by rfl) T.z_range (pa_cons (pe_callB (call_max2 rfl) (by rfl) T.z_max (by decide +kernel) (pa_cons pe_int (pa_cons (pe_callB (call_min2 rfl) (by rfl) T.z_min (by decide +kernel) (pa_cons pe_int (pa_cons (pe_callB call_len_seq (by rfl) T.z_len (by decide +kernel) (pa_cons (pv 0) pa_nil)) pa_nil))) pa_nil))) pa_nil)) (pg_name (i := 1) sc_law.nd rfl (Or.inl rfl))
        (pss_cons (ps_set (i := 2) sc_law.nd rfl (Or.inl rfl) (C8.pe_c C_Lbox hr (by decide) (by rfl) (pa_cons (C8.pe_c C_Lcell hr (by decide) (by rfl) (pa_cons (pv 0) (pa_cons (pv 1) pa_nil))) pa_nil)))
          (pss_one (ps_for PassesOwn.never rfl (pi_range1 (by rfl) T.z_range (pa_cons pe_int pa_nil)) (pg_name (i := 3) sc_law.nd rfl (Or.inl rfl))
            (pss_cons (ps_set (i := 4) sc_law.nd rfl (Or.inl rfl) (pe_ix ix_list (pe_lst (pa_cons pe_non (pa_cons pe_int (pa_cons pe_bl (pa_cons (pe_lst (pa_cons pe_str pa_nil)) (pa_cons (pe_tup (pa_cons pe_str pa_nil)) (pa_cons pe_dnewK (pa_cons pe_str (pa_cons pe_str (pa_cons pe_str (pa_cons pe_str (pa_cons pe_str pa_nil)))))))))))) (C8.pe_c C_Ltake hr (by decide) (by rfl) (pa_cons (pv 2) (pa_cons pe_int pa_nil))) (fun _ _ => rfl)))
              (pss_cons (ps_set (i := 5) sc_law.nd rfl (Or.inl rfl) (pe_cut (pe_ifExp (pt_cmpR op_gt (C8.pe_c C_Ltake hr (by decide) (by rfl) (pa_cons (pv 2) (pa_cons pe_int pa_nil))) pe_int (nomark _)) (C8.pe_c C_Ldigits hr (by decide) (by rfl) (pa_cons (pv 2) pa_nil)) (pv 4))))
              (pss_cons (ps_set (i := 6) sc_law.nd rfl (Or.inl rfl) (pe_ix ix_list (pe_lst (pa_cons (pe_op op_sub (C8.pe_c C_Ltake hr (by decide) (by rfl) (pa_cons (pv 2) (pa_cons pe_int pa_nil))) pe_int) (pa_cons (pe_op op_sub pe_int (pe_op op_pow pe_int pe_int)) pa_nil))) (C8.pe_c C_Ltake hr (by decide) (by rfl) (pa_cons (pv 2) (pa_cons pe_int pa_nil))) (fun _ _ => rfl)))
              (pss_cons (ps_set (i := 7) sc_law.nd rfl (Or.inl rfl) (pe_ix ix_list (pe_lst (pa_cons (pe_op op_sub (C8.pe_c C_Ltake hr (by decide) (by rfl) (pa_cons (pv 2) (pa_cons pe_int pa_nil))) pe_int) (pa_cons (pe_op op_pow pe_int pe_int) pa_nil))) (C8.pe_c C_Ltake hr (by decide) (by rfl) (pa_cons (pv 2) (pa_cons pe_int pa_nil))) (fun _ _ => rfl)))
              (pss_cons (ps_set (i := 8) sc_law.nd rfl (Or.inl rfl) (pe_lst (pa_cons (C8.pe_c C_parse_integer hr (by decide) (by rfl) (pa_cons (pv 5) pa_nil)) (pa_cons (pe_cN C_parse_integer_low_high hr (by decide) (by rfl) (pa_cons (pv 5) pa_nil) (pk_cons (pv 6) (pk_cons (pv 7) pk_nil))) pa_nil))))
              (pss_cons (ps_set (i := 8) sc_law.nd rfl (Or.inl rfl) (pe_op op_cat (pv 8) (pe_lst (pa_cons (pe_cN C_parse_integer_high hr (by decide) (by rfl) (pa_cons (pv 5) pa_nil) (pk_cons (pv 7) pk_nil)) (pa_cons (pe_cN C_parse_integer_low hr (by decide) (by rfl) (pa_cons (pv 5) pa_nil) (pk_cons (pv 6) pk_nil)) pa_nil)))))
              (pss_cons (ps_set (i := 9) sc_law.nd rfl (Or.inl rfl) (pe_lst (pa_cons (C8.pe_c C_Linteger hr (by decide) (by rfl) (pa_cons (pv 5) (pa_cons (pe_un un_neg pe_int) (pa_cons pe_int pa_nil)))) (pa_cons (C8.pe_c C_Linteger hr (by decide) (by rfl) (pa_cons (pv 5) (pa_cons (pv 6) (pa_cons (pv 7) pa_nil)))) (pa_cons (C8.pe_c C_Linteger hr (by decide) (by rfl) (pa_cons (pv 5) (pa_cons (pe_un un_neg pe_int) (pa_cons (pv 7) pa_nil)))) pa_nil)))))
              (pss_cons (ps_expr (pe_bm PySem.F.plainAttrs_list PySem.F.slot_list_append PySem.F.type_list_append mt_append (pv 9) (pa_cons (C8.pe_c C_Linteger hr (by decide) (by rfl) (pa_cons (pv 5) (pa_cons (pv 6) (pa_cons pe_int pa_nil)))) pa_nil)))
              (pss_cons (ps_if (pt_cmpR op_ne (pe_callB (call_reprD hqt hr.units) (by rfl) T.z_repr (by decide +kernel) (pa_cons (pv 8) pa_nil)) (pe_callB (call_reprD hqt hr.units) (by rfl) T.z_repr (by decide +kernel) (pa_cons (pv 9) pa_nil)) (nomark _))
                (pss_one (ps_ret pe_bl))
                pss_nil)
              (pss_cons (ps_set (i := 10) sc_law.nd rfl (Or.inl rfl) (pe_cut (pe_ifExp (pt_cmpR op_gt (C8.pe_c C_Ltake hr (by decide) (by rfl) (pa_cons (pv 2) (pa_cons pe_int pa_nil))) pe_int (nomark _)) (C8.pe_c C_Lline hr (by decide) (by rfl) (pa_cons (pv 2) pa_nil)) (pv 4))))
              (pss_cutS (ps_if (pt_cut (PW.pt (pw_and (pt_val (pe_callB call_isi (by rfl) T.z_isinstance (by decide +kernel) (pa_cons (pv 10) (pa_cons (pe_bltn (v := .ty "str") (by rfl) T.z_str (by decide +kernel) rfl) pa_nil)))) (pw_and1 (pt_cmpR op_eq (C8.pe_c C_Ltake hr (by decide) (by rfl) (pa_cons (pv 2) (pa_cons pe_int pa_nil))) pe_int (nomark _))))))
                (pss_one (ps_set (i := 10) sc_law.nd rfl (Or.inl rfl) (pe_join pe_str (pe_op op_rep (pe_lst (pa_cons (pv 10) pa_nil)) pe_int))))
                pss_nil)
              (pss_one (ps_for PassesOwn.never rfl (pi_range1 (by rfl) T.z_range (pa_cons pe_int pa_nil)) (pg_name (i := 11) sc_law.nd rfl (Or.inl rfl))
                (pss_cons (ps_set (i := 12) sc_law.nd rfl (Or.inl rfl) (C8.pe_c C_split_words hr (by decide) (by rfl) (pa_cons (pv 10) pa_nil)))
                  (pss_cons (ps_if (pt_cmpR op_ne (pe_callB (call_reprD hqt hr.units) (by rfl) T.z_repr (by decide +kernel) (pa_cons (pv 12) pa_nil)) (pe_callB (call_reprD hqt hr.units) (by rfl) T.z_repr (by decide +kernel) (pa_cons (C8.pe_c C_Lwords hr (by decide) (by rfl) (pa_cons (pv 10) pa_nil)) pa_nil)) (nomark _))
                    (pss_one (ps_ret pe_bl))
                    pss_nil)
                  (pss_one (ps_if (pt_cmpR op_notN (pv 12) pe_non (nomark _))
                    (pss_one (ps_expr (pe_bm PySem.F.plainAttrs_list PySem.F.slot_list_append PySem.F.type_list_append mt_append (pv 12) (pa_cons pe_str pa_nil))))
                    pss_nil)))))))))))))))))))))
      (pss_one (ps_ret pe_bl))), ?_⟩)
  · obtain ⟨a, ns, rfl, _⟩ := h
    rfl
  · obtain ⟨a, ns, rfl, hS, hns, q⟩ := h
    refine ⟨_, rfl, a, _, rfl, .inl hS, _, _, rfl, _, _, rfl, ?_⟩
    rw [List.length_map]
    refine ⟨_, rfl, by split <;> split <;> omega, by split <;> split <;> omega, ?_⟩
    refine for_range (lo := 0) (fun i σ H' => ∃ v1 v2 v3 v4 v5 v6 v7 v8 v9 v10 v11 v12, σ = [some (.ref a), v1, v2, v3, v4, v5, v6, v7, v8, v9, v10, v11, v12] ∧ SqL K H' a (ns.map V.int))
      ⟨_, _, _, _, _, _, _, _, _, _, _, _, rfl, hS⟩ ?_ ?_
    · rintro i σ H1 hi ⟨v1, v2, v3, v4, v5, v6, v7, v8, v9, v10, v11, v12, rfl, hS1⟩
      have hi8 : i < 8 := by
        revert hi
        split <;> split <;> omega
      refine ⟨_, rfl, _, rfl, a, ns, _, rfl, hS1, by omega, by omega, fun cc => ⟨cc, rfl, fun b H2 hb e2 B2 => ?_⟩⟩
      refine ⟨12, rfl, by decide, by decide, ?_⟩
      refine for_range (lo := 0) (n := 12) (fun j σ H' => ∃ v3 v4 v5 v6 v7 v8 v9 v10 v11 v12, σ = [some (.ref a), some (.int (0 + i)), some (.ref b), v3, v4, v5, v6, v7, v8, v9, v10, v11, v12] ∧ Ex H1 H' ∧ Bx H' b (j * 200))
        ⟨_, _, _, _, _, _, _, _, _, _, rfl, e2, B2.le (by omega)⟩ ?_ ?_
      · rintro j σ H3 hj ⟨v3, v4, v5, v6, v7, v8, v9, v10, v11, v12, rfl, e3, B3⟩
        -- odd
        refine ⟨by decide, fun p1 hp1 => ⟨by decide, fun p2 hp2 => ?_⟩⟩
        intro p3 hp3
        refine ⟨by show 11 ≤ sizeLine; decide, fun l hl => ?_⟩
        have n1 : p1 ≠ b := B3.ne hp1
        have n2 : p2 ≠ b := (B3.ex (Ex.new hp1)).ne hp2
        have n3 : p3 ≠ b := ((B3.ex (Ex.new hp1)).ex (Ex.new hp2)).ne hp3
        have n4 : l ≠ b := (((B3.ex (Ex.new hp1)).ex (Ex.new hp2)).ex (Ex.new hp3)).ne hl
        obtain ⟨H4, E4, f1, f2, f3, f4, eH⟩ : ∃ H4, Ex H3 H4 ∧ H4 p1 = some (.lst [.str "1"]) ∧ H4 p2 = some (.tup [.str "a b"]) ∧ H4 p3 = some (.dK []) ∧ H4 l = some (.lst [.non, .int 7, .bl true, .ref p1, .ref p2, .ref p3, .str "", .str " ", .str "-", .str "0", .str "-0"]) ∧
            H4 = upd (upd (upd (upd H3 p1 (.lst [.str "1"])) p2 (.tup [.str "a b"])) p3 (.dK [])) l (.lst [.non, .int 7, .bl true, .ref p1, .ref p2, .ref p3, .str "", .str " ", .str "-", .str "0", .str "-0"]) :=
          ⟨_, (((Ex.new hp1).trans (Ex.new hp2)).trans (Ex.new hp3)).trans (Ex.new hl), (((Ex.new hp2).trans (Ex.new hp3)).trans (Ex.new hl)) _ _ upd_same, ((Ex.new hp3).trans (Ex.new hl)) _ _ upd_same, (Ex.new hl) _ _ upd_same, upd_same, rfl⟩
        rw [← eH]
        clear eH hp2 hp3 hl
        refine ⟨_, rfl, b, 11, _, rfl, B3.ex E4, by omega, by decide, by decide, fun r H5 h0 h1 e5 B5 => ?_⟩
        obtain ⟨od, hod, hom⟩ := atI_mem (xs := ([.non, .int 7, .bl true, .ref p1, .ref p2, .ref p3, .str "", .str " ", .str "-", .str "0", .str "-0"] : List V)) h0 h1
        have hO : ∀ H', Ch b H4 H' → Odd K H' od := by
          intro H' e'
          have sk : ∀ z : Str, isStrB 10000 (.str z) = true → Odd K H' (.str z) := fun z hz => .inl (by
            obtain ⟨y, hy, hs⟩ := str_of_all (xs := [.str z]) (by rw [List.all_cons, hz]; rfl) (List.mem_singleton.mpr rfl)
            exact ⟨y, hy, hs⟩)
          simp only [List.mem_cons, List.not_mem_nil, or_false] at hom
          rcases hom with rfl | rfl | rfl | rfl | rfl | rfl | rfl | rfl | rfl | rfl | rfl
          · exact .inr ⟨(fun z e => nomatch e), "NoneType", by simp, .base .non⟩
          · exact .inr ⟨(fun z e => nomatch e), "int", by simp, .base (.int _)⟩
          · exact .inr ⟨(fun z e => nomatch e), "bool", by simp, .base (.bl _)⟩
          · exact .inr ⟨(fun z e => nomatch e), "list", by simp, .base (.lst (e' _ _ n1 f1))⟩
          · exact .inr ⟨(fun z e => nomatch e), "tuple", by simp, .base (.tup (e' _ _ n2 f2))⟩
          · exact .inr ⟨(fun z e => nomatch e), "dict", by simp, .base (.dK (e' _ _ n3 f3))⟩
          all_goals exact sk _ (by decide +kernel)
        refine ⟨l, _, r, od, rfl, rfl, sql_of (e5 _ _ n4 f4), hod, ?_⟩
        -- text
        refine ⟨fun x H' => Ch b H4 H' ∧ Bx H' b (j * 200 + 45) ∧ ∀ H2, Ch b H' H2 → Odd K H2 x, ?_, ?_⟩
        · refine ⟨_, rfl, b, 5, _, rfl, B5, by omega, by decide, by decide, fun r2 H6 g0 g1 e6 B6 => ⟨_, _, rfl, rfl, _, rfl, ?_⟩⟩
          refine ite2 (fun _ => ?_) (fun _ => ?_)
          · refine ⟨_, rfl, b, _, rfl, B6, by omega, fun z H7 hz e7 B7 => ⟨(e5.trans e6).trans e7, B7.le (by omega), fun H2 _ => .inl ⟨z, rfl, hz.le (by decide)⟩⟩⟩
          · exact ⟨_, rfl, e5.trans e6, B6.le (by omega), fun H2 e => hO H2 ((e5.trans e6).trans e)⟩
        rintro x H6 ⟨e6, B6, hx⟩
        -- least
        refine ⟨_, rfl, b, 2001, _, rfl, B6, by omega, by decide, by decide, fun r3 H7 a0 a1 e7 B7 => ⟨_, _, rfl, rfl, _, _, rfl, rfl, ⟨by decide, by decide, by decide⟩, _, _, rfl, rfl, by show 2 ≤ sizeLine; decide, fun l2 hl2 => ?_⟩⟩
        refine ⟨_, rfl, b, 2, _, rfl, B7.ex (Ex.new hl2), by omega, by decide, by decide, fun r4 H8 b0 b1 e8 B8 => ?_⟩
        obtain ⟨least, hle, hle1, hle2⟩ : ∃ i, atI [V.int (r3 - 1000), V.int (1 - 10 ^ (30 : Int).toNat)] r4 = some (.int i) ∧ -(10 ^ 30) ≤ i ∧ i ≤ 10 ^ 30 := by
          obtain ⟨v, hv, hm⟩ := atI_mem (xs := [V.int (r3 - 1000), V.int (1 - 10 ^ (30 : Int).toNat)]) b0 b1
          simp only [List.mem_cons, List.not_mem_nil, or_false] at hm
          rcases hm with rfl | rfl
          · exact ⟨_, hv, by omega, by omega⟩
          · exact ⟨_, hv, by decide, by decide⟩
        refine ⟨l2, _, r4, _, rfl, rfl, sql_of (e8 _ _ (B7.ne hl2) upd_same), hle, ?_⟩
        have E8 : Ch b H6 H8 := (e7.trans (Ex.new hl2).ch).trans e8
        -- most
        refine ⟨_, rfl, b, 2001, _, rfl, B8, by omega, by decide, by decide, fun r5 H9 c0 c1 e9 B9 => ⟨_, _, rfl, rfl, _, _, rfl, rfl, ⟨by decide, by decide, by decide⟩, by show 2 ≤ sizeLine; decide, fun l3 hl3 => ?_⟩⟩
        refine ⟨_, rfl, b, 2, _, rfl, B9.ex (Ex.new hl3), by omega, by decide, by decide, fun r6 H10 d0 d1 e10 B10 => ?_⟩
        obtain ⟨most, hmo, hmo1, hmo2⟩ : ∃ i, atI [V.int (r5 - 1000), V.int (10 ^ (29 : Int).toNat)] r6 = some (.int i) ∧ -(10 ^ 30) ≤ i ∧ i ≤ 10 ^ 30 := by
          obtain ⟨v, hv, hm⟩ := atI_mem (xs := [V.int (r5 - 1000), V.int (10 ^ (29 : Int).toNat)]) d0 d1
          simp only [List.mem_cons, List.not_mem_nil, or_false] at hm
          rcases hm with rfl | rfl
          · exact ⟨_, hv, by omega, by omega⟩
          · exact ⟨_, hv, by decide, by decide⟩
        refine ⟨l3, _, r6, _, rfl, rfl, sql_of (e10 _ _ (B9.ne hl3) upd_same), hmo, ?_⟩
        have E10 : Ch b H6 H10 := ((E8.trans e9).trans (Ex.new hl3).ch).trans e10
        -- found
        refine ⟨_, rfl, x, _, _, rfl, hx _ E10, fun K1 k1 => ⟨_, rfl, _, rfl, _, rfl, rfl, rfl, x, least, most, rfl, hx _ (E10.trans k1.ch), fun K2 k2 => ⟨by show 2 ≤ sizeLine; decide, fun lf hlf => ?_⟩⟩⟩
        have x2 : Ch b H6 K2 := (E10.trans k1.ch).trans k2.ch
        have x3 := x2.trans (Ex.new hlf (o := .lst [optV (pInt x (-999) 999), optV (pInt x least most)])).ch
        -- found = found + ..
        refine ⟨_, rfl, _, rfl, _, rfl, rfl, rfl, x, -999, most, rfl, hx _ x3, fun K3 k3 => ⟨_, rfl, _, rfl, rfl, rfl, x, least, 999, rfl, hx _ (x3.trans k3.ch), fun K4 k4 => ⟨by show 2 ≤ sizeLine; decide, fun lg hlg => ?_⟩⟩⟩
        have x4 := ((x3.trans k3.ch).trans k4.ch).trans (Ex.new hlg (o := .lst [optV (pInt x (-999) most), optV (pInt x least 999)])).ch
        refine ⟨lf, lg, _, _, rfl, rfl, (Ex.new hlg) _ _ (k4 _ _ (k3 _ _ upd_same)), upd_same, by show 4 ≤ sizeLine; decide, fun lp hlp => ?_⟩
        obtain ⟨K5, k5, fp, eK⟩ : ∃ K5, Ch b H6 K5 ∧ K5 lp = some (.lst [optV (pInt x (-999) 999), optV (pInt x least most), optV (pInt x (-999) most), optV (pInt x least 999)]) ∧ K5 = upd (upd K4 lg (.lst [optV (pInt x (-999) most), optV (pInt x least 999)])) lp (.lst [optV (pInt x (-999) 999), optV (pInt x least most), optV (pInt x (-999) most), optV (pInt x least 999)]) :=
          ⟨_, x4.trans (Ex.new hlp).ch, upd_same, rfl⟩
        have B5' : Bx K5 b (j * 200 + 60) := by
          rw [eK]
          exact ((((B10.ex k1).ex k2).ex (Ex.new hlf)).ex k3 |>.ex k4 |>.ex (Ex.new hlg) |>.ex (Ex.new hlp)).le (by omega)
        show tSeq _ _ _ _ (upd (upd K4 lg _) lp (.lst [optV (pInt x (-999) 999), optV (pInt x least most), optV (pInt x (-999) most), optV (pInt x least 999)]))
        rw [← eK]
        have nlp : lp ≠ b := (((((B10.ex k1).ex k2).ex (Ex.new hlf)).ex k3).ex k4 |>.ex (Ex.new hlg)).ne hlp
        clear eK hlp
        -- due
        refine ⟨_, rfl, _, rfl, x, _, _, rfl, hx _ k5, fun K6 k6 => ⟨_, rfl, _, rfl, _, rfl, x, least, most, rfl, hx _ (k5.trans k6.ch), fun K7 k7 => ⟨_, rfl, _, rfl, _, rfl, x, _, most, rfl, hx _ ((k5.trans k6.ch).trans k7.ch), fun K8 k8 => ⟨by show 3 ≤ sizeLine; decide, fun ld hld => ?_⟩⟩⟩⟩
        have x8 : Ch b H6 K8 := ((k5.trans k6.ch).trans k7.ch).trans k8.ch
        have B8' := ((B5'.ex k6).ex k7).ex k8
        have nld : ld ≠ b := B8'.ne hld
        have npd : lp ≠ ld := ne_of_none (k8 _ _ (k7 _ _ (k6 _ _ fp))) hld
        -- due.append
        refine ⟨_, rfl, .inl ⟨rfl, _, sql_of upd_same⟩, _, rfl, _, rfl, x, least, 999, rfl, hx _ (x8.trans (Ex.new hld).ch), fun K9 k9 => ⟨ld, _, _, rfl, rfl, k9 _ _ upd_same, by show 3 < sizeLine; decide, ?_⟩⟩
        obtain ⟨K10, k10, B11, fp2, fd2, eK⟩ : ∃ K10, Ch b H6 K10 ∧ Bx K10 b (j * 200 + 60) ∧ K10 lp = some (.lst [optV (pInt x (-999) 999), optV (pInt x least most), optV (pInt x (-999) most), optV (pInt x least 999)]) ∧
            K10 ld = some (.lst [optV (pInt x (-999) 999), optV (pInt x least most), optV (pInt x (-999) most), optV (pInt x least 999)]) ∧ K10 = upd K9 ld (.lst [optV (pInt x (-999) 999), optV (pInt x least most), optV (pInt x (-999) most), optV (pInt x least 999)]) := by
          refine ⟨_, ?_, ?_, ?_, upd_same, rfl⟩
          · exact x8.put_new hld ((Ex.new hld).trans k9)
          · exact ((B8'.ex (Ex.new hld)).ex k9).put nld
          · rw [upd_ne npd]
            exact k9 _ _ ((Ex.new hld) _ _ (k8 _ _ (k7 _ _ (k6 _ _ fp))))
        show tSeq _ _ _ _ (upd K9 ld (.lst [optV (pInt x (-999) 999), optV (pInt x least most), optV (pInt x (-999) most), optV (pInt x least 999)]))
        rw [← eK]
        clear eK
        -- repr(found) != repr(due)
        obtain ⟨sh1, sh2, sh3⟩ := four_show (sm_of (x := x) (lo := -999) (hi := 999) (by decide) (by decide)) (sm_of (x := x) hle1 hmo2) (sm_of (x := x) (lo := -999) (by decide) hmo2) (sm_of (x := x) (hi := 999) hle1 (by decide))
        have dpA : ∀ {H : Hp}, DpAll K H [optV (pInt x (-999) 999), optV (pInt x least most), optV (pInt x (-999) most), optV (pInt x least 999)] [optD (pInt x (-999) 999), optD (pInt x least most), optD (pInt x (-999) most), optD (pInt x least 999)] :=
          .cons (dp_opt _) (.cons (dp_opt _) (.cons (dp_opt _) (.cons (dp_opt _) .nil)))
        refine ⟨_, rfl, _, _, rfl, .lst (sql_of fp2) dpA, sh1, sh2, sh3, _, rfl, _, _, rfl, .lst (sql_of fd2) dpA, sh1, sh2, sh3, rfl, _, rfl, ?_⟩
        refine iteNS rfl ?_
        -- line
        have hS : ∀ z, od = .str z → Sk 100 z := by
          intro z hz
          have sk : ∀ y : Str, isStrB 100 (.str y) = true → Sk 100 y := fun y hy => by
            obtain ⟨y', hy', hs⟩ := str_of_all (m := 100) (xs := [.str y]) (by rw [List.all_cons, hy]; rfl) (List.mem_singleton.mpr rfl)
            cases hy'
            exact hs
          simp only [List.mem_cons, List.not_mem_nil, or_false] at hom
          rcases hom with rfl | rfl | rfl | rfl | rfl | rfl | rfl | rfl | rfl | rfl | rfl <;> first | (cases hz; done) | (cases hz; exact sk _ (by decide +kernel))
        refine ⟨fun y H' => Ch b K10 H' ∧ Bx H' b (j * 200 + 130) ∧ (∀ H2, Ch b H' H2 → Odd K H2 y) ∧ ∀ z, y = .str z → Sk 100 z, ?_, ?_⟩
        · refine ⟨_, rfl, b, 5, _, rfl, B11, by omega, by decide, by decide, fun r2 H7 g0 g1 e7 B7 => ⟨_, _, rfl, rfl, _, rfl, ?_⟩⟩
          refine ite2 (fun _ => ?_) (fun _ => ?_)
          · refine ⟨_, rfl, b, _, rfl, B7, by omega, fun z H8 hz e8 B8 => ⟨e7.trans e8, B8.le (by omega), fun H2 _ => .inl ⟨z, rfl, hz.le (by decide)⟩, fun z' ez => by cases ez; exact hz⟩⟩
          · exact ⟨_, rfl, e7, B7.le (by omega), fun H2 e => hO H2 (((e6.trans k10).trans e7).trans e), hS⟩
        rintro y G1 ⟨g1, C1, hy, hyS⟩
        -- sixty of them
        refine ⟨fun σ' H' => ∃ y', σ' = [some (.ref a), some (.int (0 + i)), some (.ref b), some (.int (0 + j)), some od, some x, some (.int least), some (.int most), some (.ref lp), some (.ref ld), some y', v11, v12] ∧ Ch b K10 H' ∧ Bx H' b (j * 200 + 140) ∧ ∀ H2, Ch b H' H2 → Odd K H2 y', ?_, ?_⟩
        · have hnow := hy G1 (Ch.refl _ _)
          refine ⟨fun c H' => Ch b G1 H' ∧ Bx H' b (j * 200 + 131) ∧ (c = true → ∃ z, y = .str z), ?_, ?_⟩
          · rcases hnow.isi with ⟨z, rfl, hl, hk⟩ | ⟨hn, T', hk, kb⟩
            · refine ⟨_, rfl, _, _, _, _, true, rfl, .ty _, hk, kit_ty (by decide +kernel), _, rfl, ?_⟩
              refine iteT ?_
              exact ⟨_, rfl, b, 9, _, rfl, C1, by omega, by decide, by decide, fun r7 G2 _ _ e7 B7 => ⟨rfl, _, rfl, e7, B7, fun _ => ⟨z, rfl⟩⟩⟩
            · exact ⟨_, rfl, _, _, _, _, false, rfl, .ty _, hk, kit_ty kb, _, rfl, Ch.refl _ _, C1.le (by omega), fun q => nomatch q⟩
          rintro c G2 ⟨g2, C2, hc⟩
          cases c with
          | true =>
            obtain ⟨z, rfl⟩ := hc rfl
            have hz := hyS z rfl
            refine iteT ?_
            refine ⟨⟨_, rfl⟩, _, rfl, by show 1 ≤ sizeLine; decide, fun l6 hl6 => ?_⟩
            refine ⟨l6, 60, _, rfl, rfl, upd_same, by decide, by decide, by show 60 ≤ sizeLine; decide, fun p6 hp6 => ?_⟩
            have hrep : (List.replicate (60 : Int).toNat [V.str z]).flatten = (List.replicate 60 z).map V.str := by
              show (List.replicate 60 [V.str z]).flatten = _
              rw [List.map_replicate]
              rfl
            rw [hrep]
            obtain ⟨j1, j2⟩ := Sk.join (y := " ") (k := 1) (ys := List.replicate 60 z) (n := 60) (fun y' hy' => by rw [(List.mem_replicate.mp hy').2]; exact hz) ⟨by decide +kernel, by decide +kernel⟩ (by rw [List.length_replicate]; exact Nat.le_refl _)
            refine ⟨_, p6, List.replicate 60 z, rfl, rfl, .inl (sql_of upd_same), by omega, ?_⟩
            refine ⟨_, rfl, ((g1.trans g2).trans (Ex.new hl6).ch).trans (Ex.new hp6).ch, ((C2.ex (Ex.new hl6)).ex (Ex.new hp6)).le (by omega), fun H2 _ => .inl ⟨_, rfl, j1.le (by decide)⟩⟩
          | false =>
            refine iteF ?_
            exact ⟨y, rfl, g1.trans g2, C2.le (by omega), fun H2 e => hy H2 (g2.trans e)⟩
        rintro σ' G2 ⟨y', rfl, g2, C2, hy2⟩
        -- the laps
        refine ⟨2, rfl, by decide, by decide, ?_⟩
        refine for_range (lo := 0) (n := 2) (fun t σ H' => ∃ w11 w12, σ = [some (.ref a), some (.int (0 + i)), some (.ref b), some (.int (0 + j)), some od, some x, some (.int least), some (.int most), some (.ref lp), some (.ref ld), some y', w11, w12] ∧ Ch b G2 H' ∧ Bx H' b (j * 200 + 140))
          ⟨_, _, rfl, Ch.refl _ _, C2⟩ ?_ ?_
        · rintro t σ G3 ht ⟨w11, w12, rfl, g3, C3⟩
          have oy := hy2 _ g3
          refine ⟨_, rfl, y', rfl, oy, fun G4 g4 hw => ?_, fun ws p G4 hp g4 hw hp4 => ?_⟩
          · -- None
            have oy4 := hy2 _ (g3.trans g4.ch)
            refine ⟨_, rfl, .non, .none, rfl, .non, rfl, by decide, by decide +kernel, _, rfl, y', rfl, oy4, fun G5 g5 hw2 => ?_, fun ws2 p2 G5 _ _ hw2 _ => ?_⟩
            · refine ⟨.non, .none, rfl, .non, rfl, by decide, by decide +kernel, rfl, _, rfl, ?_⟩
              refine iteNS rfl ?_
              refine ⟨_, rfl, rfl, _, rfl, ?_⟩
              refine iteF ?_
              exact ⟨_, _, rfl, (g3.trans g4.ch).trans g5.ch, (C3.ex g4).ex g5⟩
            · rw [hw] at hw2
              cases hw2
          · -- words
            have oy4 := hy2 _ (g3.trans g4.ch)
            have hst : ∃ z, y' = .str z ∧ Sk 10000 z := by
              rcases oy with h | ⟨hn, _⟩
              · exact h
              · rw [wds_other hn] at hw
                cases hw
            obtain ⟨s1, s2, s3⟩ := words_show hst hw
            refine ⟨_, rfl, .ref p, _, rfl, .lst (sql_of hp4) (dp_strs ws), s1, s2, s3, _, rfl, y', rfl, oy4, fun G5 g5 hw2 => ?_, fun ws2 p2 G5 hp2 g5 hw2 hp5 => ?_⟩
            · rw [hw] at hw2
              cases hw2
            · rw [hw] at hw2
              cases hw2
              refine ⟨.ref p2, _, rfl, .lst (sql_of hp5) (dp_strs ws), s1, s2, s3, rfl, _, rfl, ?_⟩
              refine iteNS rfl ?_
              refine ⟨_, rfl, rfl, _, rfl, ?_⟩
              refine iteT ?_
              have hlen : ws.length ≤ 10001 := by
                obtain ⟨z, rfl, hz⟩ := hst
                rw [wds_some hw]
                have q1 := wlist_len z
                have q2 := hz.1
                omega
              refine ⟨_, rfl, .inl ⟨rfl, _, sql_of (g5 _ _ hp4)⟩, p, _, _, rfl, rfl, g5 _ _ hp4, by rw [List.length_map]; exact Nat.lt_of_le_of_lt hlen (by decide), ?_⟩
              exact ⟨_, _, rfl, g3.put_new hp (g4.trans g5), ((C3.ex g4).ex g5).put (C3.ne hp)⟩
        · rintro σ G3 ⟨w11, w12, rfl, g3, C3⟩
          refine ⟨_, _, _, _, _, _, _, _, _, _, rfl, ?_, C3.le (by omega)⟩
          exact ex_ch hb (e3.trans E4) (((e6.trans k10).trans g2).trans g3)
      · rintro σ H3 ⟨v3, v4, v5, v6, v7, v8, v9, v10, v11, v12, rfl, e3, B3⟩
        exact ⟨_, _, _, _, _, _, _, _, _, _, _, _, rfl, sql_ex e3 hS1⟩
    · rintro σ H1 ⟨v1, v2, v3, v4, v5, v6, v7, v8, v9, v10, v11, v12, rfl, hS1⟩
      exact q H1
end
end K03
namespace K03
open PySem PySem.Spec PyProof.Rows L2 Lv TL
def d_parse_integer : He.DefD := ⟨("parse_integer", none), "parse_integer", "parse_integer", defArgs s_parse_integer, defBody s_parse_integer, defScope s_parse_integer, [], [("low", .int (-999)), ("high", .int 999)]⟩
def d_split_words : He.DefD := ⟨("split_words", none), "split_words", "split_words", defArgs s_split_words, defBody s_split_words, defScope s_split_words, [], []⟩
def d_Lcell : He.DefD := ⟨("_law_cell", none), "_law_cell", "_law_cell", defArgs s_Lcell, defBody s_Lcell, defScope s_Lcell, [], []⟩
def d_Lbox : He.DefD := ⟨("_law_box", none), "_law_box", "_law_box", defArgs s_Lbox, defBody s_Lbox, defScope s_Lbox, [], []⟩
def d_Ltake : He.DefD := ⟨("_law_take", none), "_law_take", "_law_take", defArgs s_Ltake, defBody s_Ltake, defScope s_Ltake, [], []⟩
def d_Ldigits : He.DefD := ⟨("_law_digits", none), "_law_digits", "_law_digits", defArgs s_Ldigits, defBody s_Ldigits, defScope s_Ldigits, [], []⟩
def d_Linteger : He.DefD := ⟨("_law_integer", none), "_law_integer", "_law_integer", defArgs s_Linteger, defBody s_Linteger, defScope s_Linteger, [], []⟩
def d_Lline : He.DefD := ⟨("_law_line", none), "_law_line", "_law_line", defArgs s_Lline, defBody s_Lline, defScope s_Lline, [], []⟩
def d_Lwords : He.DefD := ⟨("_law_words", none), "_law_words", "_law_words", defArgs s_Lwords, defBody s_Lwords, defScope s_Lwords, [], []⟩
def d_law : He.DefD := ⟨("law", none), "law", "law", defArgs s_law, defBody s_law, defScope s_law, [], []⟩
def fnL : List He.DefD := [d_parse_integer, d_split_words, d_Lcell, d_Lbox, d_Ltake, d_Ldigits, d_Linteger, d_Lline, d_Lwords, d_law]
def faL : List He.Fa := [.glo "parse_integer", .glo "split_words", .glo "_law_cell", .glo "_law_box", .glo "_law_take", .glo "_law_digits", .glo "_law_integer", .glo "_law_line", .glo "_law_words", .glo "law", .free "all", .free "int", .free "isinstance", .free "len", .free "max", .free "min", .free "range", .free "repr", .free "str", .str "DIGITS" "0123456789", .int "MOST_DIGITS" (30)]
abbrev R : PySem.W.OpenRow := PySem.W.OpenLaw.row PySem.Challenge.rw_listviews_k03_numbers_and_words_in_texts
abbrev hk : PySem.W.Hook := He.hookD 4 faL fnL
def ob (s : PySem.W.SharedT) : He.AlD := He.obsDG 4 faL fnL (HandSHeadRun.getT s)
theorem ob_eq (s : PySem.W.SharedT) : ob s = hk.obs s.abs := He.obsDG_eq (HandSHeadRun.getT_eq s)
def looseL : List Str := ["DIGITS", "MOST_DIGITS", "parse_integer", "split_words", "_law_cell", "_law_box", "_law_take", "_law_digits", "_law_integer", "_law_line", "_law_words"]
theorem run (w : World) : HandSHeadRun.RunEq R (PySem.W.view R.prog [13]) hk ob 3000 looseL w := by
  intro os
  kernel_rfl
theorem facts {P : Program} {w : World} {K : PySem.W.Frag} {h : Heap} {mg : Str → Option Value} {f : Addr} (X : K.In h) (G : h.Ns mainGlobals mg) (hfa : mg ("law" : Str) = some (.ref f)) (c : He.SaysD faL fnL K) :
    ∃ fd : FuncData, (∀ (s : Shared) (v : Value), BindsTo s fd ⟨[v], []⟩ [("_law_script", v)]) ∧ ∀ base : Heap, K.In base → base.Ns mainGlobals mg → FnG P w K mg base CX0 3 f fd ["_law_script"] (spLaw K) := by
  obtain ⟨fd_parse_integer, F_parse_integer⟩ := c.def_ 0 (d := d_parse_integer) rfl
  have m_parse_integer := He.glo_ok X G (c.fact 0 (f := .glo "parse_integer") rfl)
  obtain ⟨fd_split_words, F_split_words⟩ := c.def_ 1 (d := d_split_words) rfl
  have m_split_words := He.glo_ok X G (c.fact 1 (f := .glo "split_words") rfl)
  obtain ⟨fd_Lcell, F_Lcell⟩ := c.def_ 2 (d := d_Lcell) rfl
  have m_Lcell := He.glo_ok X G (c.fact 2 (f := .glo "_law_cell") rfl)
  obtain ⟨fd_Lbox, F_Lbox⟩ := c.def_ 3 (d := d_Lbox) rfl
  have m_Lbox := He.glo_ok X G (c.fact 3 (f := .glo "_law_box") rfl)
  obtain ⟨fd_Ltake, F_Ltake⟩ := c.def_ 4 (d := d_Ltake) rfl
  have m_Ltake := He.glo_ok X G (c.fact 4 (f := .glo "_law_take") rfl)
  obtain ⟨fd_Ldigits, F_Ldigits⟩ := c.def_ 5 (d := d_Ldigits) rfl
  have m_Ldigits := He.glo_ok X G (c.fact 5 (f := .glo "_law_digits") rfl)
  obtain ⟨fd_Linteger, F_Linteger⟩ := c.def_ 6 (d := d_Linteger) rfl
  have m_Linteger := He.glo_ok X G (c.fact 6 (f := .glo "_law_integer") rfl)
  obtain ⟨fd_Lline, F_Lline⟩ := c.def_ 7 (d := d_Lline) rfl
  have m_Lline := He.glo_ok X G (c.fact 7 (f := .glo "_law_line") rfl)
  obtain ⟨fd_Lwords, F_Lwords⟩ := c.def_ 8 (d := d_Lwords) rfl
  have m_Lwords := He.glo_ok X G (c.fact 8 (f := .glo "_law_words") rfl)
  obtain ⟨fd_law, F_law⟩ := c.def_ 9 (d := d_law) rfl
  have e := hfa.symm.trans (He.glo_ok X G (c.fact 9 (f := .glo "law") rfl))
  cases e
  have T : Txt mg := ⟨He.free_ok X G (c.fact 10 (f := .free "all") rfl), He.free_ok X G (c.fact 11 (f := .free "int") rfl), He.free_ok X G (c.fact 12 (f := .free "isinstance") rfl), He.free_ok X G (c.fact 13 (f := .free "len") rfl), He.free_ok X G (c.fact 14 (f := .free "max") rfl), He.free_ok X G (c.fact 15 (f := .free "min") rfl), He.free_ok X G (c.fact 16 (f := .free "range") rfl), He.free_ok X G (c.fact 17 (f := .free "repr") rfl), He.free_ok X G (c.fact 18 (f := .free "str") rfl), (let ⟨t, e⟩ := He.str_ok X G (c.fact 19 (f := .str "DIGITS" "0123456789") rfl); ⟨_, e, t, rfl⟩), (let ⟨t, e⟩ := He.int_ok X G (c.fact 20 (f := .int "MOST_DIGITS" (30)) rfl); ⟨_, e, t, rfl⟩)⟩
  have b := FunD.bindsA (ps := ["_law_script"]) F_law fun _ _ _ _ _ _ us hl => match us, hl with | [_], _ => rfl
  refine ⟨fd_law, fun s v => b s [v] rfl, fun base _ _ => ?_⟩
  have C_Ltake := ok_Ltake (P := P) (w := w) (base := base) F_Ltake m_Ltake T
  exact fn_law F_law T (ok_Lcell F_Lcell m_Lcell T) (ok_Lbox F_Lbox m_Lbox T) C_Ltake (ok_Ldigits F_Ldigits m_Ldigits T C_Ltake) (ok_Lline F_Lline m_Lline T C_Ltake)
    (ok_parse F_parse_integer m_parse_integer T) (ok_parse_lh F_parse_integer m_parse_integer T) (ok_parse_h F_parse_integer m_parse_integer T) (ok_parse_l F_parse_integer m_parse_integer T)
    (ok_Linteger F_Linteger m_Linteger T) (ok_split_words F_split_words m_split_words T) (ok_Lwords F_Lwords m_Lwords T)
end K03
open PySem PySem.W PySem.Calls PyProof.Rows in
theorem PySem.Challenge.cw_listviews_k03_numbers_and_words_in_texts_holds : PySem.Challenge.rw_listviews_k03_numbers_and_words_in_texts.Holds := by
  w_on; o_law
  refine HandSHeadRun.head_any (r := OpenLaw.row PySem.Challenge.rw_listviews_k03_numbers_and_words_in_texts) (q := view (OpenLaw.row PySem.Challenge.rw_listviews_k03_numbers_and_words_in_texts).prog [13]) (H := K03.hk) (ob := K03.ob) (M := 3000) (loose := K03.looseL) (d := HandSHeadRun.topDef (OpenLaw.row PySem.Challenge.rw_listviews_k03_numbers_and_words_in_texts).prog 13) (kwd := []) K03.ob_eq
    (by kernel_rfl) (fun s => by kernel_rfl) K03.run (by kernel_rfl) (by kernel_rfl) (by kernel_rfl) (by rfl) (by first | assumption | decide +kernel) (by decide +kernel) ⟨rfl, rfl, rfl, rfl, rfl, by decide +kernel⟩ ?hw ?hc
  case hw => w_witness2
  case hc =>
    refine Lv.walk_ofG (l := PySem.Challenge.rw_listviews_k03_numbers_and_words_in_texts) (n := 63) (k := 3) (x := "_law_script") rfl (by decide) (by kernel_rfl) ⟨rfl, by decide, by decide⟩ ?F
    intro w mg fa h Y G hmg0
    obtain ⟨K, KX, c⟩ := Y
    have hmg : mg ("law" : PySem.Str) = some (.ref fa) := by
      have e : (HandSHeadRun.topDef (OpenLaw.row PySem.Challenge.rw_listviews_k03_numbers_and_words_in_texts).prog 13).name = ("law" : PySem.Str) := by kernel_rfl
      rw [← e]
      exact hmg0
    obtain ⟨fd, hb, hF⟩ := K03.facts (P := (PySem.Challenge.rw_listviews_k03_numbers_and_words_in_texts).prog) (w := w) KX G hmg c
    exact ⟨K, fd, K03.spLaw K, KX, hb, fun H a ns hl _ hS => ⟨a, ns, rfl, hS, hl, fun _ => rfl⟩, hF⟩
#print axioms PySem.Challenge.cw_listviews_k03_numbers_and_words_in_texts_holds
